import PyProof.Rows.All
import Wide.All
import OpenK.AllK
import Wide.FinOn
import HandS.Base
import HandS.Call
import HandS.List
import HandS.Comp
import HandS.Ends
import HandS.Iter
import HandS.Words
import HandS.Evl
import HandS.WordsExc
import HandS.Codes
import HandS.Conv
import HandS.Wide
import HandS.WideBits
import HandS.IsInst
import HandS.TupAny
import HandS.TupSets
import HandS.Zip
import HandS.OwnEq
import HandS.Defaults
import HandS.ExcInit
import HandS.ExcField
import HandS.HeadHook2
import PySem.Challenge.RW_sheetproofs_k06_whole_same_figure_exactl
import HandS.Head0
import HandS.Head1
import HandS.Head2
import HandS.HeadEnd
import HandS.HeadHook1
import KE.KStateDown
import HandS.TryOnly
import KE.GoesMore
import KE.GoesEnum
import HandS.Zip0
import HandS.ExcOwn
import HandS.ClsMeth
import HandS.FStr
/-! text K3 -/
set_option Elab.async false
set_option linter.all false
set_option maxRecDepth 100000
set_option maxHeartbeats 2000000
/-! K3: readings over what is known. G: objects that are known and stay; O: objects that are owned, by place; the heap itself is hidden. -/
namespace K3
open PySem L2
open Evl (Ex)

abbrev OL := List (Addr × HO)
abbrev dom (O : OL) : List Addr := O.map (·.1)
/-- the heap H bears the knowledge G and the owned O -/
structure Md (H G : Hp) (O : OL) : Prop where
  g : Ex G H
  o : ∀ p ∈ O, H p.1 = some p.2 ∧ G p.1 = none
  nd : (dom O).Nodup
/-- from one state to a later one -/
structure Up (H G : Hp) (O : OL) (H' G' : Hp) (O' : OL) : Prop where
  fr : ∀ a u, a ∉ dom O → H a = some u → H' a = some u
  g : Ex G G'
  nw : ∀ a, (G' a ≠ none ∨ a ∈ dom O') → (G a ≠ none ∨ a ∈ dom O ∨ H a = none)

theorem Md.known {H G : Hp} {O : OL} (m : Md H G O) {a : Addr} (h : G a ≠ none) : a ∉ dom O := fun hm => by
  obtain ⟨p, hp, rfl⟩ := List.mem_map.mp hm
  exact h (m.o p hp).2
theorem Md.some_of {H G : Hp} {O : OL} (m : Md H G O) {a : Addr} (h : a ∈ dom O) : H a ≠ none := fun z => by
  obtain ⟨p, hp, rfl⟩ := List.mem_map.mp h
  rw [(m.o p hp).1] at z
  cases z
theorem Md.gnone {H G : Hp} {O : OL} (m : Md H G O) {a : Addr} (h : H a = none) : G a = none := by
  cases e : G a with
  | none => rfl
  | some o => rw [m.g a o e] at h; cases h
theorem Md.dnone {H G : Hp} {O : OL} (m : Md H G O) {a : Addr} (h : H a = none) : a ∉ dom O := fun hm => m.some_of hm h
theorem Ex.ne {G G' : Hp} (e : Ex G G') {a : Addr} (h : G a ≠ none) : G' a ≠ none := fun z => by
  cases q : G a with
  | none => exact h q
  | some o => rw [e a o q] at z; cases z
theorem Up.refl {H G : Hp} {O : OL} : Up H G O H G O := ⟨fun _ _ _ h => h, Evl.Ex.refl G, fun a h => h.elim .inl (fun z => .inr (.inl z))⟩
theorem Up.trans {H G H1 G1 H2 G2 : Hp} {O O1 O2 : OL} (m1 : Md H1 G1 O1) (a : Up H G O H1 G1 O1) (b : Up H1 G1 O1 H2 G2 O2) : Up H G O H2 G2 O2 where
  fr := fun x u hx hu => by
    have h1 := a.fr x u hx hu
    refine b.fr x u (fun hm => ?_) h1
    rcases a.nw x (.inr hm) with z | z | z
    · exact m1.known (Ex.ne a.g z) hm
    · exact hx z
    · rw [hu] at z; cases z
  g := a.g.trans b.g
  nw := fun x hx => by
    rcases b.nw x hx with z | z | z
    · exact a.nw x (.inl z)
    · exact a.nw x (.inr z)
    · by_cases hm : x ∈ dom O
      · exact .inr (.inl hm)
      · refine .inr (.inr ?_)
        cases e : H x with
        | none => rfl
        | some u => rw [a.fr x u hm e] at z; cases z

/-- k, run in any heap that bears G and O, comes to an R -/
def W {α : Type} (k : Hp → (α → Hp → Prop) → Prop) (G : Hp) (O : OL) (R : α → Hp → OL → Prop) : Prop :=
  ∀ H, Md H G O → ∀ Q : α → Hp → Prop, (∀ v H' G' O', Md H' G' O' → Up H G O H' G' O' → R v G' O' → Q v H') → k H Q
/-- what is wanted behind a statement -/
structure En where
  nx : St → Hp → OL → Prop
  rt : V → Hp → OL → Prop
  bk : St → Hp → OL → Prop := fun _ _ _ => False
  ct : St → Hp → OL → Prop := fun _ _ _ => False
structure Lk (D0 : Ends) (D : En) (H G : Hp) (O : OL) : Prop where
  nx : ∀ σ H' G' O', Md H' G' O' → Up H G O H' G' O' → D.nx σ G' O' → D0.nx σ H'
  rt : ∀ v H' G' O', Md H' G' O' → Up H G O H' G' O' → D.rt v G' O' → D0.rt v H'
  bk : ∀ σ H' G' O', Md H' G' O' → Up H G O H' G' O' → D.bk σ G' O' → D0.bk σ H'
  ct : ∀ σ H' G' O', Md H' G' O' → Up H G O H' G' O' → D.ct σ G' O' → D0.ct σ H'
def WS (ts : TS) (σ : St) (G : Hp) (O : OL) (D : En) : Prop := ∀ H, Md H G O → ∀ D0 : Ends, Lk D0 D H G O → ts D0 σ H
theorem Lk.trans {D0 : Ends} {D : En} {H G H1 G1 : Hp} {O O1 : OL} (l : Lk D0 D H G O) (m1 : Md H1 G1 O1) (u : Up H G O H1 G1 O1) : Lk D0 D H1 G1 O1 :=
  ⟨fun σ H' G' O' m v h => l.nx σ H' G' O' m (u.trans m1 v) h, fun x H' G' O' m v h => l.rt x H' G' O' m (u.trans m1 v) h,
   fun σ H' G' O' m v h => l.bk σ H' G' O' m (u.trans m1 v) h, fun σ H' G' O' m v h => l.ct σ H' G' O' m (u.trans m1 v) h⟩

/-! ### facts that stay -/
class Mono (R : Hp → Prop) : Prop where
  up : ∀ {G G' : Hp}, Ex G G' → R G → R G'
theorem mlift {R : Hp → Prop} [m : Mono R] {G G' : Hp} (e : Ex G G') (h : R G) : R G' := m.up e h
instance {a : Addr} {o : HO} : Mono (fun G => G a = some o) := ⟨fun e h => e a o h⟩
instance {p : Prop} : Mono (fun _ => p) := ⟨fun _ h => h⟩
instance {R S : Hp → Prop} [Mono R] [Mono S] : Mono (fun G => R G ∧ S G) := ⟨fun e h => ⟨mlift e h.1, mlift e h.2⟩⟩
instance {R S : Hp → Prop} [Mono R] [Mono S] : Mono (fun G => R G ∨ S G) := ⟨fun e h => h.elim (fun z => .inl (mlift e z)) fun z => .inr (mlift e z)⟩
instance {α : Sort _} {R : α → Hp → Prop} [∀ x, Mono (R x)] : Mono (fun G => ∃ x, R x G) := ⟨fun e ⟨x, h⟩ => ⟨x, mlift e h⟩⟩
instance {α : Sort _} {R : α → Hp → Prop} [∀ x, Mono (R x)] : Mono (fun G => ∀ x, R x G) := ⟨fun e h x => mlift e (h x)⟩
instance {G0 : Hp} : Mono (fun G => Ex G0 G) := ⟨fun e h => h.trans e⟩

section
variable {α β : Type} {G : Hp} {O : OL} {σ : St}
theorem w_imp {k : Hp → (α → Hp → Prop) → Prop} {R R' : α → Hp → OL → Prop} (h : W k G O R) (i : ∀ v G' O', Ex G G' → R v G' O' → R' v G' O') : W k G O R' :=
  fun H m Q q => h H m Q fun v H' G' O' m' u r => q v H' G' O' m' u (i v G' O' u.g r)
theorem w_bind {k : Hp → (α → Hp → Prop) → Prop} {f : α → Hp → (β → Hp → Prop) → Prop} {R : β → Hp → OL → Prop} (h : W k G O fun x G1 O1 => W (f x) G1 O1 R) : W (fun H Q => k H fun x H1 => f x H1 Q) G O R :=
  fun H m Q q => h H m _ fun v H' G' O' m' u r => r H' m' Q fun v2 H2 G2 O2 m2 u2 r2 => q v2 H2 G2 O2 m2 (u.trans m' u2) r2
theorem w_ret {v : α} {R : α → Hp → OL → Prop} (h : R v G O) : W (fun H Q => Q v H) G O R := fun H m Q q => q v H G O m Up.refl h
/-- a new object, known from now on -/
theorem Md.newG {H : Hp} (m : Md H G O) {p : Addr} {o : HO} (hp : H p = none) : Md (upd H p o) (upd G p o) O := by
  refine ⟨fun a u e => ?_, fun q hq => ?_, m.nd⟩
  · by_cases ha : a = p
    · subst ha; rw [upd_same] at e ⊢; exact e
    · rw [upd_ne ha] at e ⊢; exact m.g a u e
  · have hn : q.1 ≠ p := fun z => m.dnone hp (List.mem_map.mpr ⟨q, hq, z⟩)
    rw [upd_ne hn, upd_ne hn]; exact m.o q hq
theorem Md.upG {H : Hp} (m : Md H G O) {p : Addr} {o : HO} (hp : H p = none) : Up H G O (upd H p o) (upd G p o) O := by
  refine ⟨fun a u _ h => by rw [upd_ne (ne_of_none h hp)]; exact h, fun a u h => by rw [upd_ne (ne_of_none (m.g a u h) hp)]; exact h, fun a h => ?_⟩
  by_cases ha : a = p
  · subst ha; exact .inr (.inr hp)
  · rw [upd_ne ha] at h; exact h.elim .inl fun z => .inr (.inl z)
/-- .. , owned -/
theorem Md.newO {H : Hp} (m : Md H G O) {p : Addr} {o : HO} (hp : H p = none) : Md (upd H p o) G (O ++ [(p, o)]) := by
  refine ⟨fun a u e => by rw [upd_ne (ne_of_none (m.g a u e) hp)]; exact m.g a u e, fun q hq => ?_, ?_⟩
  · rcases List.mem_append.mp hq with hq | hq
    · have hn : q.1 ≠ p := fun z => m.dnone hp (List.mem_map.mpr ⟨q, hq, z⟩)
      rw [upd_ne hn]; exact m.o q hq
    · have e : q = (p, o) := by simpa using hq
      subst e
      exact ⟨upd_same, m.gnone hp⟩
  · rw [dom, List.map_append, List.nodup_append]
    refine ⟨m.nd, by simp, fun a ha b hb => ?_⟩
    have e : b = p := by simpa using hb
    subst e
    rintro rfl
    exact m.dnone hp ha
theorem Md.upO {H : Hp} (m : Md H G O) {p : Addr} {o : HO} (hp : H p = none) : Up H G O (upd H p o) G (O ++ [(p, o)]) := by
  refine ⟨fun a u _ h => by rw [upd_ne (ne_of_none h hp)]; exact h, Evl.Ex.refl G, fun a h => ?_⟩
  rcases h with h | h
  · exact .inl h
  · rw [dom, List.map_append] at h
    rcases List.mem_append.mp h with h | h
    · exact .inr (.inl h)
    · have e : a = p := by simpa using h
      subst e
      exact .inr (.inr hp)
theorem dom_set {O : OL} {k : Nat} {l : Addr} {o o' : HO} (h : O[k]? = some (l, o)) : dom (O.set k (l, o')) = dom O := by
  rw [dom, List.map_set]
  obtain ⟨hk, e⟩ := List.getElem?_eq_some_iff.mp h
  have : (O.map (·.1))[k]'(by simpa using hk) = l := by rw [List.getElem_map, e]
  conv => lhs; rw [show ((l, o') : Addr × HO).1 = l from rfl, ← this]
  exact List.set_getElem_self _
/-- an owned object is written -/
theorem Md.writeO {H : Hp} (m : Md H G O) {k : Nat} {l : Addr} {o o' : HO} (h : O[k]? = some (l, o)) : Md (upd H l o') G (O.set k (l, o')) := by
  have hm : (l, o) ∈ O := List.mem_of_getElem? h
  refine ⟨fun a u e => ?_, fun q hq => ?_, by rw [dom_set h]; exact m.nd⟩
  · have hn : a ≠ l := fun z => by rw [z, (m.o _ hm).2] at e; cases e
    rw [upd_ne hn]; exact m.g a u e
  · obtain ⟨j, hj, e⟩ := List.getElem_of_mem hq
    by_cases hjk : j = k
    · subst hjk
      rw [List.getElem_set_self] at e
      subst e
      exact ⟨upd_same, (m.o _ hm).2⟩
    · rw [List.getElem_set_ne (Ne.symm hjk)] at e
      have hj' : j < O.length := by simpa using hj
      have hq' : q ∈ O := by rw [← e]; exact List.getElem_mem hj'
      obtain ⟨hk, ek⟩ := List.getElem?_eq_some_iff.mp h
      have hn : q.1 ≠ l := fun z => by
        have e1 : (dom O)[j]'(by simpa using hj') = (dom O)[k]'(by simpa using hk) := by
          rw [List.getElem_map, List.getElem_map, e, ek, z]
        exact hjk ((List.getElem_inj m.nd).mp e1)
      rw [upd_ne hn]; exact m.o q hq'
theorem Md.upW {H : Hp} (m : Md H G O) {k : Nat} {l : Addr} {o o' : HO} (h : O[k]? = some (l, o)) : Up H G O (upd H l o') G (O.set k (l, o')) := by
  have hm : l ∈ dom O := List.mem_map.mpr ⟨_, List.mem_of_getElem? h, rfl⟩
  refine ⟨fun a u hn e => by rw [upd_ne fun z => hn (by rw [z]; exact hm)]; exact e, Evl.Ex.refl G, fun a q => ?_⟩
  rw [dom_set h] at q
  exact q.elim .inl fun z => .inr (.inl z)
theorem Md.getO {H : Hp} (m : Md H G O) {k : Nat} {l : Addr} {o : HO} (h : O[k]? = some (l, o)) : H l = some o := (m.o _ (List.mem_of_getElem? h)).1
/-- an owned object becomes known -/
theorem Md.frz {H : Hp} (m : Md H G O) {k : Nat} {l : Addr} {o : HO} (h : O[k]? = some (l, o)) : Md H (upd G l o) (O.eraseIdx k) := by
  have hm : (l, o) ∈ O := List.mem_of_getElem? h
  obtain ⟨hk, ek⟩ := List.getElem?_eq_some_iff.mp h
  refine ⟨fun a u e => ?_, fun q hq => ?_, ?_⟩
  · by_cases ha : a = l
    · subst ha; rw [upd_same] at e; rw [(m.o _ hm).1]; exact e
    · rw [upd_ne ha] at e; exact m.g a u e
  · obtain ⟨j, hjk, e⟩ := List.mem_eraseIdx_iff_getElem?.mp hq
    have hq' : q ∈ O := List.mem_of_getElem? e
    obtain ⟨hj, ej⟩ := List.getElem?_eq_some_iff.mp e
    have hn : q.1 ≠ l := fun z => by
      have e1 : (dom O)[j]'(by simpa using hj) = (dom O)[k]'(by simpa using hk) := by
        rw [List.getElem_map, List.getElem_map, ej, ek, z]
      exact hjk ((List.getElem_inj m.nd).mp e1)
    rw [upd_ne hn]; exact m.o q hq'
  · exact m.nd.sublist ((List.eraseIdx_sublist ..).map _)
theorem Md.upF {H : Hp} (m : Md H G O) {k : Nat} {l : Addr} {o : HO} (h : O[k]? = some (l, o)) : Up H G O H (upd G l o) (O.eraseIdx k) := by
  have hm : (l, o) ∈ O := List.mem_of_getElem? h
  refine ⟨fun a u _ e => e, fun a u e => ?_, fun a q => ?_⟩
  · have hn : a ≠ l := fun z => by rw [z, (m.o _ hm).2] at e; cases e
    rw [upd_ne hn]; exact e
  · by_cases ha : a = l
    · subst ha; exact .inr (.inl (List.mem_map.mpr ⟨_, hm, rfl⟩))
    · rw [upd_ne ha] at q
      rcases q with q | q
      · exact .inl q
      · obtain ⟨z, hz, rfl⟩ := List.mem_map.mp q
        exact .inr (.inl (List.mem_map.mpr ⟨z, List.mem_of_mem_eraseIdx hz, rfl⟩))
/-- the rest B of what is owned is left alone -/
theorem Md.left {H : Hp} {A B : OL} (m : Md H G (A ++ B)) : Md H G A :=
  ⟨m.g, fun p hp => m.o p (List.mem_append_left _ hp), by have := m.nd; rw [dom, List.map_append] at this; exact (List.nodup_append.mp this).1⟩
theorem Md.frame {H H' G' : Hp} {A B A' : OL} (m : Md H G (A ++ B)) (m' : Md H' G' A') (u : Up H G A H' G' A') : Md H' G' (A' ++ B) ∧ Up H G (A ++ B) H' G' (A' ++ B) := by
  have nd := m.nd
  rw [dom, List.map_append] at nd
  obtain ⟨ndA, ndB, dj⟩ := List.nodup_append.mp nd
  have nA : ∀ a, a ∈ dom B → a ∉ dom A := fun a hb ha => dj a ha a hb rfl
  have sB : ∀ a, a ∈ dom B → ∃ x, H a = some x ∧ G a = none := fun a ha => by
    obtain ⟨p, hp, rfl⟩ := List.mem_map.mp ha
    exact ⟨p.2, m.o p (List.mem_append_right _ hp)⟩
  have no : ∀ a, a ∈ dom B → ¬ (G' a ≠ none ∨ a ∈ dom A') := fun a ha h => by
    obtain ⟨x, h1, h2⟩ := sB a ha
    rcases u.nw a h with z | z | z
    · exact z h2
    · exact nA a ha z
    · rw [h1] at z; cases z
  refine ⟨⟨m'.g, fun p hp => ?_, ?_⟩, ⟨fun a x ha hx => ?_, u.g, fun a ha => ?_⟩⟩
  · rcases List.mem_append.mp hp with hp | hp
    · exact m'.o p hp
    · have hd : p.1 ∈ dom B := List.mem_map.mpr ⟨p, hp, rfl⟩
      refine ⟨u.fr _ _ (nA _ hd) (m.o p (List.mem_append_right _ hp)).1, ?_⟩
      cases e : G' p.1 with
      | none => rfl
      | some o => exact absurd (.inl (by rw [e]; exact fun z => by cases z)) (no _ hd)
  · rw [dom, List.map_append, List.nodup_append]
    exact ⟨m'.nd, ndB, fun a ha b hb e => no b hb (.inr (by rw [← e]; exact ha))⟩
  · rw [dom, List.map_append] at ha
    exact u.fr a x (fun z => ha (List.mem_append_left _ z)) hx
  · rw [dom, List.map_append] at ha
    rw [dom, List.map_append]
    have key : (G' a ≠ none ∨ a ∈ dom A') → (G a ≠ none ∨ a ∈ List.map (·.1) A ++ List.map (·.1) B ∨ H a = none) := fun z => (u.nw a z).elim .inl fun z => z.elim (fun z => .inr (.inl (List.mem_append_left _ z))) fun z => .inr (.inr z)
    rcases ha with z | z
    · exact key (.inl z)
    · rcases List.mem_append.mp z with z | z
      · exact key (.inr z)
      · exact .inr (.inl (List.mem_append_right _ z))
theorem w_frame {k : Hp → (α → Hp → Prop) → Prop} {A B : OL} {R : α → Hp → OL → Prop} (h : W k G A fun v G' A' => R v G' (A' ++ B)) : W k G (A ++ B) R := fun H m Q q =>
  h H m.left Q fun v H' G' A' m' u r => let ⟨m2, u2⟩ := m.frame m' u; q v H' G' (A' ++ B) m2 u2 r
theorem w_freeze {k : Hp → (α → Hp → Prop) → Prop} {R : α → Hp → OL → Prop} (i : Nat) {l : Addr} {o : HO} (h : O[i]? = some (l, o)) (q : ∀ G', Ex G G' → G' l = some o → W k G' (O.eraseIdx i) R) : W k G O R := fun H m Q z =>
  q _ (m.upF h).g upd_same H (m.frz h) Q fun v H' G' O' m' u r => z v H' G' O' m' ((m.upF h).trans (m.frz h) u) r
theorem ws_freeze {ts : TS} {D : En} (i : Nat) {l : Addr} {o : HO} (h : O[i]? = some (l, o)) (q : ∀ G', Ex G G' → G' l = some o → WS ts σ G' (O.eraseIdx i) D) : WS ts σ G O D := fun H m D0 l0 =>
  q _ (m.upF h).g upd_same H (m.frz h) D0 (l0.trans (m.frz h) (m.upF h))
end

/-! ### expressions -/
section
variable {G : Hp} {O : OL} {σ : St} {R : V → Hp → OL → Prop} {ta tb te tc : TE} {tt tu : TT} {v : V} {K : PySem.W.Frag}
theorem w_var {i : Nat} (h : σ[i]? = some (some v)) (r : R v G O) : W (tVar i σ) G O R := fun H m Q q => ⟨v, h, q v H G O m Up.refl r⟩
theorem w_c (r : R v G O) : W (tC v σ) G O R := fun H m Q q => q v H G O m Up.refl r
theorem w_op {r : R2} (h : W (ta σ) G O fun x G1 O1 => W (tb σ) G1 O1 fun y G2 O2 => W (r x y) G2 O2 R) : W (tOp r ta tb σ) G O R :=
  w_bind (k := ta σ) (f := fun x H Q => tb σ H fun y H2 => r x y H2 Q) (w_imp h fun x _ _ _ z => w_bind (k := tb σ) (f := fun y => r x y) z)
theorem w_un {r : V → Hp → VK → Prop} (h : W (ta σ) G O fun x G1 O1 => W (r x) G1 O1 R) : W (tUn r ta σ) G O R := w_bind (k := ta σ) (f := fun x => r x) h
theorem r_I0 {g : Int → Int → V} {i j : Int} (r : R (g i j) G O) : W (rI0 g (.int i) (.int j)) G O R := fun H m Q q => ⟨i, j, rfl, rfl, q _ H G O m Up.refl r⟩
theorem r_I {C : Int → Int → Prop} {g : Int → Int → V} {i j : Int} (hc : C i j) (r : R (g i j) G O) : W (rI C g (.int i) (.int j)) G O R := fun H m Q q => ⟨i, j, rfl, rfl, hc, q _ H G O m Up.refl r⟩
theorem r_U {g : Int → V} {i : Int} (r : R (g i) G O) : W (rU g (.int i)) G O R := fun H m Q q => ⟨i, rfl, q _ H G O m Up.refl r⟩
theorem r_eq {x y : V} (hs : scal x y = true) (r : R (.bl (decide (x = y))) G O) : W (rEq x y) G O R := fun H m Q q => ⟨hs, q _ H G O m Up.refl r⟩
theorem r_ne {x y : V} (hs : scal x y = true) (r : R (.bl (!decide (x = y))) G O) : W (rNe x y) G O R := fun H m Q q => ⟨hs, q _ H G O m Up.refl r⟩
theorem r_isN {x : V} (r : R (.bl (decide (x = .non))) G O) : W ((fun (x y : V) (H : Hp) (Q : VK) => y = .non ∧ Q (.bl (decide (x = .non))) H) x .non) G O R := fun H m Q q => ⟨rfl, q _ H G O m Up.refl r⟩
theorem r_notN {x : V} (r : R (.bl (!decide (x = .non))) G O) : W ((fun (x y : V) (H : Hp) (Q : VK) => y = .non ∧ Q (.bl (!decide (x = .non))) H) x .non) G O R := fun H m Q q => ⟨rfl, q _ H G O m Up.refl r⟩
/-- xs[i]: a known tuple, a known list, an owned list -/
theorem r_ixT {p : Addr} {xs : List V} {i : Int} (h : G p = some (.tup xs)) (ha : atI xs i = some v) (r : R v G O) : W (rIxT K (.ref p) (.int i)) G O R := fun H m Q q =>
  ⟨p, xs, i, v, rfl, rfl, SqT.of (m.g _ _ h), ha, q _ H G O m Up.refl r⟩
theorem r_ixL {p : Addr} {xs : List V} {i : Int} (h : G p = some (.lst xs)) (ha : atI xs i = some v) (r : R v G O) : W (rIxL K (.ref p) (.int i)) G O R := fun H m Q q =>
  ⟨p, xs, i, v, rfl, rfl, SqL.of (m.g _ _ h), ha, q _ H G O m Up.refl r⟩
theorem r_ixO {p : Addr} {xs : List V} {i : Int} (k : Nat) (h : O[k]? = some (p, .lst xs)) (ha : atI xs i = some v) (r : R v G O) : W (rIxL K (.ref p) (.int i)) G O R := fun H m Q q =>
  ⟨p, xs, i, v, rfl, rfl, SqL.of (m.getO h), ha, q _ H G O m Up.refl r⟩
theorem r_ixS {x y : V} (h : W (rIxL K x y) G O R) : W (rIx K x y) G O R := fun H m Q q => .inl (h H m Q q)
theorem r_ixS' {x y : V} (h : W (rIxT K x y) G O R) : W (rIx K x y) G O R := fun H m Q q => .inr (.inl (h H m Q q))
theorem w_fld {a C dx : Addr} {fs : List (Str × V)} {f : Str} (h : W (ta σ) G O fun x G1 O1 => ∃ a C dx fs v, x = .ref a ∧ G1 a = some (.ins C dx fs) ∧ Cls K C ∧ NoAttr K C f ∧ fs.lookup f = some v ∧ R v G1 O1) : W (tFld K ta f σ) G O R := fun H m Q q =>
  h H m _ fun x H1 G1 O1 m1 u1 ⟨a, C, dx, fs, v, e, ha, hc, hn, hl, r⟩ => ⟨a, C, dx, fs, v, e, m1.g _ _ ha, hc, hn, hl, q v H1 G1 O1 m1 u1 r⟩
theorem w_nil {R : List V → Hp → OL → Prop} (r : R [] G O) : W (tNil σ) G O R := w_ret r
theorem w_cons {t : TA} {R : List V → Hp → OL → Prop} (h : W (ta σ) G O fun x G1 O1 => W (t σ) G1 O1 fun xs G2 O2 => R (x :: xs) G2 O2) : W (tCons ta t σ) G O R :=
  w_bind (k := ta σ) (f := fun x H Q => t σ H fun xs H2 => Q (x :: xs) H2) (w_imp h fun x _ _ _ z => w_bind (k := t σ) (f := fun xs H Q => Q (x :: xs) H) (w_imp z fun _ _ _ _ r => w_ret r))
theorem w_tup {t : TA} (h : W (t σ) G O fun xs G1 O1 => xs.length ≤ sizeLine ∧ ∀ p G2, Ex G1 G2 → G2 p = some (.tup xs) → R (.ref p) G2 O1) : W (tTup t σ) G O R := fun H m Q q =>
  h H m _ fun xs H1 G1 O1 m1 u1 ⟨hl, r⟩ => ⟨hl, fun p hp => q _ _ _ _ (m1.newG hp) (u1.trans m1 (m1.upG hp)) (r p _ (m1.upG hp).g upd_same)⟩
theorem w_lst {t : TA} (h : W (t σ) G O fun xs G1 O1 => xs.length ≤ sizeLine ∧ ∀ p, G1 p = none → R (.ref p) G1 (O1 ++ [(p, .lst xs)])) : W (tLst t σ) G O R := fun H m Q q =>
  h H m _ fun xs H1 G1 O1 m1 u1 ⟨hl, r⟩ => ⟨hl, fun p hp => q _ _ _ _ (m1.newO hp) (u1.trans m1 (m1.upO hp)) (r p (m1.gnone hp))⟩
/-- a list that is never changed -/
theorem w_lstG {t : TA} (h : W (t σ) G O fun xs G1 O1 => xs.length ≤ sizeLine ∧ ∀ p G2, Ex G1 G2 → G2 p = some (.lst xs) → R (.ref p) G2 O1) : W (tLst t σ) G O R := fun H m Q q =>
  h H m _ fun xs H1 G1 O1 m1 u1 ⟨hl, r⟩ => ⟨hl, fun p hp => q _ _ _ _ (m1.newG hp) (u1.trans m1 (m1.upG hp)) (r p _ (m1.upG hp).g upd_same)⟩
/-- built-in calls, by values -/
theorem w_cb {r : List V → Hp → VK → Prop} {t : TA} (h : W (t σ) G O fun vs G1 O1 => W (r vs) G1 O1 R) : W (tCB r t σ) G O R := w_bind (k := t σ) (f := fun vs => r vs) h
theorem w_slc {r : V → Option Int → Option Int → Hp → VK → Prop} {tl th : TO} (h : W (te σ) G O fun x G1 O1 => W (tl σ) G1 O1 fun lo G2 O2 => W (th σ) G2 O2 fun hi G3 O3 => W (r x lo hi) G3 O3 R) : W (tSl r te tl th σ) G O R :=
  w_bind (k := te σ) (f := fun x H Q => tl σ H fun l H2 => th σ H2 fun u H3 => r x l u H3 Q) (w_imp h fun x _ _ _ z =>
    w_bind (k := tl σ) (f := fun l H Q => th σ H fun u H3 => r x l u H3 Q) (w_imp z fun l _ _ _ y => w_bind (k := th σ) (f := fun u => r x l u) y))
theorem w_noPart {R : Option Int → Hp → OL → Prop} (r : R none G O) : W (tNoPart σ) G O R := w_ret r
theorem w_part {R : Option Int → Hp → OL → Prop} (h : W (te σ) G O fun x G1 O1 => ∃ i, x = .int i ∧ R (some i) G1 O1) : W (tPart te σ) G O R := fun H m Q q =>
  h H m _ fun x H1 G1 O1 m1 u1 ⟨i, e, r⟩ => ⟨i, e, q _ H1 G1 O1 m1 u1 r⟩
/-! tests -/
theorem t_B {R : Bool → Hp → OL → Prop} (h : W (te σ) G O fun x G1 O1 => ∃ c, x = .bl c ∧ R c G1 O1) : W (tB te σ) G O R := fun H m Q q =>
  h H m _ fun x H1 G1 O1 m1 u1 ⟨c, e, r⟩ => ⟨c, e, q c H1 G1 O1 m1 u1 r⟩
theorem t_test {R : Bool → Hp → OL → Prop} (h : W (te σ) G O fun x G1 O1 => ∃ c, x = .bl c ∧ R c G1 O1) : W (tTest te σ) G O R := fun H m Q q =>
  h H m _ fun x H1 G1 O1 m1 u1 ⟨c, e, r⟩ => ⟨c, e, q c H1 G1 O1 m1 u1 r⟩
theorem w_ite {α : Type} {b : Bool} {k1 k2 : Hp → (α → Hp → Prop) → Prop} {R : α → Hp → OL → Prop} (h1 : b = true → W k1 G O R) (h2 : b = false → W k2 G O R) : W (fun H Q => if b = true then k1 H Q else k2 H Q) G O R := by
  cases b with
  | true => exact fun H m Q q => iteT (h1 rfl H m Q q)
  | false => exact fun H m Q q => iteF (h2 rfl H m Q q)
theorem t_and {R : Bool → Hp → OL → Prop} (h : W (tt σ) G O fun c G1 O1 => (c = true → W (tu σ) G1 O1 R) ∧ (c = false → R false G1 O1)) : W (tAnd tt tu σ) G O R :=
  w_bind (k := tt σ) (f := fun c H Q => if c = true then tu σ H Q else Q false H) (w_imp h fun c G1 O1 _ z => w_ite (k1 := fun H Q => tu σ H Q) (k2 := fun H Q => Q false H) z.1 fun hc => w_ret (z.2 hc))
theorem t_or {R : Bool → Hp → OL → Prop} (h : W (tt σ) G O fun c G1 O1 => (c = true → R true G1 O1) ∧ (c = false → W (tu σ) G1 O1 R)) : W (tOr tt tu σ) G O R :=
  w_bind (k := tt σ) (f := fun c H Q => if c = true then Q true H else tu σ H Q) (w_imp h fun c G1 O1 _ z => w_ite (k1 := fun H Q => Q true H) (k2 := fun H Q => tu σ H Q) (fun hc => w_ret (z.1 hc)) z.2)
theorem t_not {R : Bool → Hp → OL → Prop} (h : W (tt σ) G O fun c G1 O1 => R (!c) G1 O1) : W (tNot tt σ) G O R := w_bind (k := tt σ) (f := fun c H Q => Q (!c) H) (w_imp h fun c _ _ _ r => w_ret r)
theorem w_andV (h : W (ta σ) G O fun x G1 O1 => ∃ c, x = .bl c ∧ (c = true → W (tb σ) G1 O1 R) ∧ (c = false → R (.bl false) G1 O1)) : W (tAndV ta tb σ) G O R := fun H m Q q =>
  h H m _ fun x H1 G1 O1 m1 u1 ⟨c, e, r1, r2⟩ => ⟨c, e, w_ite (k1 := fun H Q => tb σ H Q) (k2 := fun H Q => Q (.bl false) H) r1 (fun hc => w_ret (r2 hc)) H1 m1 Q fun v2 H2 G2 O2 m2 u2 r2 => q v2 H2 G2 O2 m2 (u1.trans m1 u2) r2⟩
theorem w_orV (h : W (ta σ) G O fun x G1 O1 => ∃ c, x = .bl c ∧ (c = true → R (.bl true) G1 O1) ∧ (c = false → W (tb σ) G1 O1 R)) : W (tOrV ta tb σ) G O R := fun H m Q q =>
  h H m _ fun x H1 G1 O1 m1 u1 ⟨c, e, r1, r2⟩ => ⟨c, e, w_ite (k1 := fun H Q => Q (.bl true) H) (k2 := fun H Q => tb σ H Q) (fun hc => w_ret (r1 hc)) r2 H1 m1 Q fun v2 H2 G2 O2 m2 u2 r2 => q v2 H2 G2 O2 m2 (u1.trans m1 u2) r2⟩
theorem w_notV (h : W (ta σ) G O fun x G1 O1 => ∃ c, x = .bl c ∧ R (.bl (!c)) G1 O1) : W (tNotV ta σ) G O R := fun H m Q q =>
  h H m _ fun x H1 G1 O1 m1 u1 ⟨c, e, r⟩ => ⟨c, e, q _ H1 G1 O1 m1 u1 r⟩
theorem w_ifE (h : W (tt σ) G O fun c G1 O1 => (c = true → W (ta σ) G1 O1 R) ∧ (c = false → W (tb σ) G1 O1 R)) : W (tIf tt ta tb σ) G O R :=
  w_bind (k := tt σ) (f := fun c H Q => if c = true then ta σ H Q else tb σ H Q) (w_imp h fun c G1 O1 _ z => w_ite (k1 := fun H Q => ta σ H Q) (k2 := fun H Q => tb σ H Q) z.1 z.2)
theorem w_chain {r r' : R2} (h : W (ta σ) G O fun x G1 O1 => W (tb σ) G1 O1 fun y G2 O2 => W (r x y) G2 O2 fun z G3 O3 => ∃ c, z = .bl c ∧ (c = true → W (tc σ) G3 O3 fun w G4 O4 => W (r' y w) G4 O4 R) ∧ (c = false → R (.bl false) G3 O3)) :
    W (tChain r r' ta tb tc σ) G O R := by
  refine w_bind (k := ta σ) (f := fun x H Q => tb σ H fun y H2 => r x y H2 fun z H3 => ∃ k, z = .bl k ∧ (if k = true then tc σ H3 fun w' H4 => r' y w' H4 Q else Q (.bl false) H3)) (w_imp h fun x G1 O1 _ z =>
    w_bind (k := tb σ) (f := fun y H Q => r x y H fun z H3 => ∃ k, z = .bl k ∧ (if k = true then tc σ H3 fun w' H4 => r' y w' H4 Q else Q (.bl false) H3)) (w_imp z fun y G2 O2 _ z2 H m Q q => z2 H m _ fun zz H3 G3 O3 m3 u3 ⟨c, e, h1, h2⟩ => ⟨c, e, ?_⟩))
  exact w_ite (k1 := fun H Q => tc σ H fun w H4 => r' y w H4 Q) (k2 := fun H Q => Q (.bl false) H) (fun hc => w_bind (k := tc σ) (f := fun w => r' y w) (h1 hc)) (fun hc => w_ret (h2 hc)) H3 m3 Q fun v2 H2 G2 O2 m2 u2 r2 => q v2 H2 G2 O2 m2 (u3.trans m3 u2) r2
end

/-! ### statements -/
section
variable {G : Hp} {O : OL} {σ : St} {D : En} {te ta : TE} {tt : TT} {ts tu : TS} {g : TG} {K : PySem.W.Frag}
theorem ws_seq (h : WS ts σ G O { D with nx := fun σ' G' O' => WS tu σ' G' O' D }) : WS (tSeq ts tu) σ G O D := fun H m D0 l =>
  h H m { D0 with nx := tu D0 } ⟨fun σ' H' G' O' m' u r => r H' m' D0 (l.trans m' u), l.rt, l.bk, l.ct⟩
theorem ws_nx (h : D.nx σ G O) : WS tNext σ G O D := fun H m D0 l => l.nx σ H G O m Up.refl h
theorem ws_bk (h : D.bk σ G O) : WS tBreak σ G O D := fun H m D0 l => l.bk σ H G O m Up.refl h
theorem ws_ct (h : D.ct σ G O) : WS tCont σ G O D := fun H m D0 l => l.ct σ H G O m Up.refl h
theorem ws_asg (h : W (te σ) G O fun v G1 O1 => W (g v σ) G1 O1 D.nx) : WS (tAsg te g) σ G O D := fun H m D0 l =>
  h H m _ fun v H1 G1 O1 m1 u1 r => r H1 m1 D0.nx fun σ' H2 G2 O2 m2 u2 z => l.nx σ' H2 G2 O2 m2 (u1.trans m1 u2) z
theorem ws_set {i : Nat} (h : W (te σ) G O fun v G1 O1 => D.nx (σ.set i (some v)) G1 O1) : WS (tAsg te (gName i)) σ G O D := fun H m D0 l =>
  h H m _ fun v H1 G1 O1 m1 u1 r => l.nx _ H1 G1 O1 m1 u1 r
theorem ws_ret (h : W (te σ) G O D.rt) : WS (tRet te) σ G O D := fun H m D0 l => h H m _ fun v H1 G1 O1 m1 u1 r => l.rt v H1 G1 O1 m1 u1 r
theorem ws_drop (h : W (te σ) G O fun _ G1 O1 => D.nx σ G1 O1) : WS (tDrop te) σ G O D := fun H m D0 l => h H m _ fun v H1 G1 O1 m1 u1 r => l.nx _ H1 G1 O1 m1 u1 r
theorem ws_if (h : W (tt σ) G O fun b G1 O1 => (b = true → WS ts σ G1 O1 D) ∧ (b = false → WS tu σ G1 O1 D)) : WS (tIfS tt ts tu) σ G O D := fun H m D0 l =>
  h H m _ fun b H1 G1 O1 m1 u1 ⟨h1, h2⟩ => by
    cases b with
    | true => exact iteT (h1 rfl H1 m1 D0 (l.trans m1 u1))
    | false => exact iteF (h2 rfl H1 m1 D0 (l.trans m1 u1))
theorem ws_par {i j : Nat} {t : TA} (h : W (t σ) G O fun vs G1 O1 => ∃ v w, vs = [v, w] ∧ D.nx ((σ.set i (some v)).set j (some w)) G1 O1) : WS (tPar i j t) σ G O D := fun H m D0 l =>
  h H m _ fun vs H1 G1 O1 m1 u1 ⟨v, w, e, r⟩ => ⟨v, w, e, l.nx _ H1 G1 O1 m1 u1 r⟩
theorem ws_fldset {f : Str} (k : Nat) {C : Addr} (hn : NoAttr K C f) (hc : Cls K C)
    (h : W (te σ) G O fun y G1 O1 => W (ta σ) G1 O1 fun x G2 O2 => ∃ a dx fs, x = .ref a ∧ O2[k]? = some (a, .ins C dx fs) ∧ fs.length < 1000 ∧ D.nx σ G2 (O2.set k (a, .ins C dx (putF f y fs)))) : WS (sFld K ta te f) σ G O D := fun H m D0 l =>
  h H m _ fun y H1 G1 O1 m1 u1 r => r H1 m1 _ fun x H2 G2 O2 m2 u2 ⟨a, dx, fs, e, ho, hl, z⟩ => ⟨a, C, dx, fs, e, m2.getO ho, hc, hn, hl, l.nx _ _ _ _ (m2.writeO ho) (u1.trans m1 (u2.trans m2 (m2.upW ho))) z⟩
/-! targets -/
variable {N : St → Hp → OL → Prop} {v : V}
theorem g_name {i : Nat} (r : N (σ.set i (some v)) G O) : W (gName i v σ) G O N := fun H m Q q => q _ H G O m Up.refl r
theorem g_tup {n : Nat} {t : TGs} {p : Addr} {xs : List V} (h : G p = some (.tup xs)) (hl : xs.length = n) (r : W (t xs σ) G O N) : W (gTup K n t (.ref p) σ) G O N := fun H m Q q =>
  ⟨p, xs, rfl, SqT.of (m.g _ _ h), hl, r H m Q q⟩
theorem g_cons {t : TG} {u : TGs} {vs : List V} (r : W (t v σ) G O fun σ' G' O' => W (u vs σ') G' O' N) : W (gCons t u (v :: vs) σ) G O N := fun H m Q q =>
  ⟨v, vs, rfl, r H m _ fun σ' H' G' O' m' u' z => z H' m' Q fun σ2 H2 G2 O2 m2 u2 z2 => q σ2 H2 G2 O2 m2 (u'.trans m' u2) z2⟩
theorem g_nil (r : N σ G O) : W (gNil [] σ) G O N := fun H m Q q => ⟨rfl, q σ H G O m Up.refl r⟩
/-- xs[i] = v, xs owned at place k -/
theorem g_sub {to ti : TE} (k : Nat) (h : W (to σ) G O fun o G1 O1 => W (ti σ) G1 O1 fun i G2 O2 => ∃ p xs n j, o = .ref p ∧ i = .int n ∧ O2[k]? = some (p, .lst xs) ∧ ixN xs.length n = some j ∧ N σ G2 (O2.set k (p, .lst (xs.set j v)))) :
    W (gSub to ti rSetL v σ) G O N := fun H m Q q =>
  h H m _ fun o H1 G1 O1 m1 u1 r => r H1 m1 _ fun i H2 G2 O2 m2 u2 ⟨p, xs, n, j, e1, e2, ho, hj, z⟩ =>
    ⟨p, xs, n, j, e1, e2, m2.getO ho, hj, q _ _ _ _ (m2.writeO ho) (u1.trans m1 (u2.trans m2 (m2.upW ho))) z⟩
end

/-! ### loops -/
/-- J walks n things; it i x G: x is the i-th -/
structure Wk (J : It) (G : Hp) (O : OL) (n : Nat) (it : Nat → V → Hp → Prop) : Prop where
  go : ∀ i H G' O', i < n → Md H G' O' → Ex G G' → (∀ p ∈ O, p ∈ O') → J.go i H
  stop : ∀ H G' O', Md H G' O' → Ex G G' → (∀ p ∈ O, p ∈ O') → J.stop n H
  yld : ∀ i H G' O' x H', i < n → Md H G' O' → Ex G G' → (∀ p ∈ O, p ∈ O') → J.yld i H x H' → ∃ G'', Md H' G'' O' ∧ Up H G' O' H' G'' O' ∧ it i x G''
section
variable {G : Hp} {O : OL} {σ : St} {D : En} {wi : TI} {g : TG} {tb : TS} {K : PySem.W.Frag}
/-- for: Pv is the word, P the owned things that are walked -/
theorem ws_for (h : W (wi σ) G O fun J G1 O1 => ∃ n it, Wk J G1 [] n it ∧ ∃ Pv : Nat → St → Hp → OL → Prop, Pv 0 σ G1 O1 ∧
    (∀ i x σ' G' O', i < n → Ex G1 G' → Pv i σ' G' O' → ∀ G'', Ex G' G'' → it i x G'' → W (g x σ') G'' O' fun σ2 G2 O2 => WS tb σ2 G2 O2 { D with nx := Pv (i + 1), ct := Pv (i + 1), bk := D.nx }) ∧
    (∀ σ' G' O', Ex G1 G' → Pv n σ' G' O' → D.nx σ' G' O')) : WS (tFor wi g tb) σ G O D := fun H m D0 l =>
  h H m _ fun J H1 G1 O1 m1 u1 ⟨n, it, wk, Pv, p0, hs, hd⟩ => by
    refine ⟨fun i μ σ' H' => μ = n - i ∧ i ≤ n ∧ ∃ G' O', Md H' G' O' ∧ Up H1 G1 O1 H' G' O' ∧ Pv i σ' G' O', ⟨n, by simp, Nat.zero_le _, G1, O1, m1, Up.refl, p0⟩, ?_⟩
    rintro i μ σ' H' ⟨rfl, hi, G', O', m', u', pv⟩
    by_cases hlt : i < n
    · refine .inr ⟨wk.go i H' G' O' hlt m' u'.g (by simp), fun σ2 H2 => i + 1 ≤ n ∧ ∃ G' O', Md H2 G' O' ∧ Up H1 G1 O1 H2 G' O' ∧ Pv (i + 1) σ2 G' O', fun σ2 H2 ⟨hj, z⟩ => ⟨n - (i + 1), by omega, rfl, hj, z⟩, fun x H2 y => ?_⟩
      obtain ⟨G2, m2, u2, hit⟩ := wk.yld i H' G' O' x H2 hlt m' u'.g (by simp) y
      have u12 := u'.trans m' u2
      refine hs i x σ' G' O' hlt u'.g pv G2 u2.g hit H2 m2 _ fun σ3 H3 G3 O3 m3 u3 ws => ?_
      have u13 := u12.trans m2 u3
      refine ws H3 m3 _ ⟨fun σ4 H4 G4 O4 m4 u4 z => ⟨hlt, G4, O4, m4, u13.trans m3 u4, z⟩, fun v H4 G4 O4 m4 u4 z => l.rt v H4 G4 O4 m4 (u1.trans m1 (u13.trans m3 u4)) z,
        fun σ4 H4 G4 O4 m4 u4 z => l.nx σ4 H4 G4 O4 m4 (u1.trans m1 (u13.trans m3 u4)) z, fun σ4 H4 G4 O4 m4 u4 z => ⟨hlt, G4, O4, m4, u13.trans m3 u4, z⟩⟩
    · have e : i = n := by omega
      subst e
      exact .inl ⟨wk.stop H' G' O' m' u'.g (by simp), l.nx _ _ _ _ m' (u1.trans m1 u') (hd σ' G' O' u'.g pv)⟩
theorem ws_while {c : TT} (Pv : Nat → St → Hp → OL → Prop) (m0 : Nat) (p0 : Pv m0 σ G O)
    (hs : ∀ μ σ' G' O', Ex G G' → Pv μ σ' G' O' → W (c σ') G' O' fun b G2 O2 => (b = true → WS tb σ' G2 O2 { D with nx := fun σ3 G3 O3 => ∃ μ', μ' < μ ∧ Pv μ' σ3 G3 O3, ct := fun σ3 G3 O3 => ∃ μ', μ' < μ ∧ Pv μ' σ3 G3 O3, bk := D.nx }) ∧ (b = false → D.nx σ' G2 O2)) :
    WS (tWhile c tb) σ G O D := fun H m D0 l => by
  refine ⟨fun μ σ' H' => ∃ G' O', Md H' G' O' ∧ Up H G O H' G' O' ∧ Pv μ σ' G' O', ⟨m0, G, O, m, Up.refl, p0⟩, ?_⟩
  rintro μ σ' H' ⟨G', O', m', u', pv⟩
  refine hs μ σ' G' O' u'.g pv H' m' _ fun b H2 G2 O2 m2 u2 ⟨h1, h2⟩ => ?_
  have u12 := u'.trans m' u2
  cases b with
  | true =>
    refine iteT ⟨fun σ3 H3 => ∃ μ', μ' < μ ∧ ∃ G' O', Md H3 G' O' ∧ Up H G O H3 G' O' ∧ Pv μ' σ3 G' O', fun σ3 H3 z => z, ?_⟩
    refine h1 rfl H2 m2 _ ⟨fun σ4 H4 G4 O4 m4 u4 ⟨μ', hm, z⟩ => ⟨μ', hm, G4, O4, m4, u12.trans m2 u4, z⟩, fun v H4 G4 O4 m4 u4 z => l.rt v H4 G4 O4 m4 (u12.trans m2 u4) z,
        fun σ4 H4 G4 O4 m4 u4 z => l.nx σ4 H4 G4 O4 m4 (u12.trans m2 u4) z, fun σ4 H4 G4 O4 m4 u4 ⟨μ', hm, z⟩ => ⟨μ', hm, G4, O4, m4, u12.trans m2 u4, z⟩⟩
  | false => exact iteF (l.nx _ _ _ _ m2 u12 (h2 rfl))
/-- a list comprehension; acc is what stands so far; Ow: owned, walked over, left alone -/
theorem w_lcW {tt : TT} {te : TE} {vs : List Nat} {R : V → Hp → OL → Prop} (h : W (wi σ) G O fun J G1 O1 => ∃ n it Ow, n ≤ 100000 ∧ Wk J G1 Ow n it ∧ ∃ Pv : Nat → List V → Hp → OL → Prop, (∀ i acc G' O', Pv i acc G' O' → ∀ p ∈ Ow, p ∈ O') ∧ Pv 0 [] G1 O1 ∧
    (∀ i x acc G' O', i < n → Ex G1 G' → Pv i acc G' O' → ∀ G'', Ex G' G'' → it i x G'' → W (g x (wipe σ vs)) G'' O' fun σ2 G2 O2 => wipe σ2 vs = wipe σ vs ∧
      W (tt σ2) G2 O2 fun b G3 O3 => (b = true → W (te σ2) G3 O3 fun y G4 O4 => Pv (i + 1) (acc ++ [y]) G4 O4) ∧ (b = false → Pv (i + 1) acc G3 O3)) ∧
    (∀ acc p G' O', acc.length ≤ n → Ex G1 G' → Pv n acc G' O' → R (.ref p) G' (O' ++ [(p, .lst acc)]))) : W (tLc wi g tt te vs σ) G O R := fun H m Q q =>
  h H m _ fun J H1 G1 O1 m1 u1 ⟨n, it, Ow, hn, wk, Pv, hw0, p0, hs, hd⟩ => by
    intro Dl hD
    refine ⟨fun i μ H' => μ = n - i ∧ i ≤ n ∧ ∃ G' O' acc, acc.length ≤ i ∧ Md H' G' (O' ++ [(Dl, .lst acc)]) ∧ Up H1 G1 O1 H' G' (O' ++ [(Dl, .lst acc)]) ∧ Pv i acc G' O', ⟨n, by simp, Nat.zero_le _, G1, O1, [], Nat.le_refl _, m1.newO hD, m1.upO hD, p0⟩, ?_⟩
    rintro i μ H' ⟨rfl, hi, G', O', acc, hac, m', u', pv⟩
    by_cases hlt : i < n
    · refine .inr ⟨wk.go i H' G' _ hlt m' u'.g (fun p hp => List.mem_append_left _ (hw0 _ _ _ _ pv p hp)), fun H2 => i + 1 ≤ n ∧ ∃ G' O' acc, acc.length ≤ i + 1 ∧ Md H2 G' (O' ++ [(Dl, .lst acc)]) ∧ Up H1 G1 O1 H2 G' (O' ++ [(Dl, .lst acc)]) ∧ Pv (i + 1) acc G' O', fun H2 ⟨hj, z⟩ => ⟨n - (i + 1), by omega, rfl, hj, z⟩, fun x H2 y => ?_⟩
      obtain ⟨G2, m2, u2, hit⟩ := wk.yld i H' G' _ x H2 hlt m' u'.g (fun p hp => List.mem_append_left _ (hw0 _ _ _ _ pv p hp)) y
      have u12 := u'.trans m' u2
      have hs1 : W (g x (wipe σ vs)) G2 (O' ++ [(Dl, .lst acc)]) (fun σ2 G2 O2B => ∃ O2, O2B = O2 ++ [(Dl, .lst acc)] ∧ wipe σ2 vs = wipe σ vs ∧
        W (tt σ2) G2 O2B fun b G3 O3B => ∃ O3, O3B = O3 ++ [(Dl, .lst acc)] ∧ (b = true → W (te σ2) G3 O3B fun y G4 O4B => ∃ O4, O4B = O4 ++ [(Dl, .lst acc)] ∧ Pv (i + 1) (acc ++ [y]) G4 O4) ∧ (b = false → Pv (i + 1) acc G3 O3)) := by
        refine w_frame (w_imp (hs i x acc G' O' hlt u'.g pv G2 u2.g hit) fun σ2 G2 O2 _ ⟨hw, ht⟩ => ⟨O2, rfl, hw, ?_⟩)
        refine w_frame (w_imp ht fun b G3 O3 _ ⟨hy, hn2⟩ => ⟨O3, rfl, fun hb => ?_, hn2⟩)
        exact w_frame (w_imp (hy hb) fun y G4 O4 _ hp => ⟨O4, rfl, hp⟩)
      refine hs1 H2 m2 _ fun σ3 H3 G3 O3B m3 u3 ⟨O3, e3, hw, ht⟩ => ⟨hw, ?_⟩
      have u13 := u12.trans m2 u3
      refine ht H3 m3 _ fun b H4 G4 O4B m4 u4 ⟨O4, e4, hy, hn2⟩ => ?_
      have u14 := u13.trans m3 u4
      cases b with
      | true =>
        refine iteT (hy rfl H4 m4 _ fun y H5 G5 O5B m5 u5 ⟨O5, e5, hp⟩ => ?_)
        subst e5
        have u15 := u14.trans m4 u5
        have ix : (O5 ++ [(Dl, HO.lst acc)])[O5.length]? = some (Dl, .lst acc) := by simp
        have es : (O5 ++ [(Dl, HO.lst acc)]).set O5.length (Dl, .lst (acc ++ [y])) = O5 ++ [(Dl, .lst (acc ++ [y]))] := by simp
        have mw := m5.writeO (o' := .lst (acc ++ [y])) ix
        have uw := m5.upW (o' := .lst (acc ++ [y])) ix
        rw [es] at mw uw
        exact ⟨acc, m5.getO ix, Nat.lt_of_le_of_lt (Nat.le_trans hac (Nat.le_trans hi hn)) (by decide), hlt, G5, O5, acc ++ [y], by simp; omega, mw, u15.trans m5 uw, hp⟩
      | false =>
        subst e4
        exact iteF ⟨hlt, G4, O4, acc, by omega, m4, u14, hn2 rfl⟩
    · have e : i = n := by omega
      subst e
      exact .inl ⟨wk.stop H' G' _ m' u'.g (fun p hp => List.mem_append_left _ (hw0 _ _ _ _ pv p hp)), q _ _ _ _ m' (u1.trans m1 u') (hd acc Dl G' O' hac u'.g pv)⟩
theorem w_lc {tt : TT} {te : TE} {vs : List Nat} {R : V → Hp → OL → Prop} (h : W (wi σ) G O fun J G1 O1 => ∃ n it, n ≤ 100000 ∧ Wk J G1 [] n it ∧ ∃ Pv : Nat → List V → Hp → OL → Prop, Pv 0 [] G1 O1 ∧
    (∀ i x acc G' O', i < n → Ex G1 G' → Pv i acc G' O' → ∀ G'', Ex G' G'' → it i x G'' → W (g x (wipe σ vs)) G'' O' fun σ2 G2 O2 => wipe σ2 vs = wipe σ vs ∧
      W (tt σ2) G2 O2 fun b G3 O3 => (b = true → W (te σ2) G3 O3 fun y G4 O4 => Pv (i + 1) (acc ++ [y]) G4 O4) ∧ (b = false → Pv (i + 1) acc G3 O3)) ∧
    (∀ acc p G' O', acc.length ≤ n → Ex G1 G' → Pv n acc G' O' → R (.ref p) G' (O' ++ [(p, .lst acc)]))) : W (tLc wi g tt te vs σ) G O R :=
  w_lcW (w_imp h fun J G1 O1 _ ⟨n, it, hn, wk, Pv, p0, hs, hd⟩ => ⟨n, it, [], hn, wk, Pv, fun _ _ _ _ _ p hp => (by cases hp), p0, hs, hd⟩)
end
end K3
/-! text K3b -/
set_option Elab.async false
set_option linter.all false
set_option maxRecDepth 100000
set_option maxHeartbeats 2000000
/-! K3b: calls, built-ins, iterators over the knowledge. -/
namespace K3
open PySem L2 PySem.Spec PyProof.Rows
open Evl (Ex)
/-- a list that is known or owned -/
def LsAt (G : Hp) (O : OL) (p : Addr) (xs : List V) : Prop := G p = some (.lst xs) ∨ (p, HO.lst xs) ∈ O
def SqAt (G : Hp) (O : OL) (p : Addr) (xs : List V) : Prop := G p = some (.tup xs) ∨ LsAt G O p xs
theorem Md.ls {H G : Hp} {O : OL} (m : Md H G O) {p : Addr} {xs : List V} (h : LsAt G O p xs) : H p = some (.lst xs) := h.elim (m.g _ _) fun z => (m.o _ z).1
theorem LsAt.up {G G' : Hp} {O : OL} {p : Addr} {xs : List V} (e : Ex G G') (h : LsAt G O p xs) : LsAt G' O p xs := h.elim (fun z => .inl (e _ _ z)) .inr
instance {O : OL} {p : Addr} {xs : List V} : Mono (fun G => LsAt G O p xs) := ⟨LsAt.up⟩
instance {O : OL} {p : Addr} {xs : List V} : Mono (fun G => SqAt G O p xs) := ⟨fun e h => h.elim (fun z => .inl (e _ _ z)) fun z => .inr (z.up e)⟩
/-! ### operators and built-ins under names -/
section
variable {X : Cx}
def CDivZ (_ j : Int) : Prop := j ≠ 0 ∧ j.natAbs.log2 < 9000
theorem op_fdivZ : OpR X (binaryOp .FloorDiv) (rI CDivZ fun i j => .int (i.fdiv j)) := opI fun i j _ _ _ _ _ hc q => PyProof.Rows.floordiv_int hc.1 q (.inl (PyProof.noPylong_of_log2 hc.2))
theorem divZ_ok {i j : Int} {b : Nat} (h : j ≠ 0) (hb : j.natAbs < 2 ^ b) (h0 : 0 < b) (h9 : b ≤ 9000) : CDivZ i j := ⟨h, Nat.lt_of_lt_of_le (PySem.Flt.log2_lt_of h0 hb) h9⟩
def rIsNone : R2 := fun x y H Q => y = .non ∧ Q (.bl (decide (x = .non))) H
def rNotNone : R2 := fun x y H Q => y = .non ∧ Q (.bl (!decide (x = .non))) H
theorem op_isNone : OpR X (compareOp .Is) rIsNone := op_isN
theorem op_notNone : OpR X (compareOp .IsNot) rNotNone := op_notN
def rLenK (K : PySem.W.Frag) : List V → Hp → VK → Prop := fun xs H Q => ∃ p ys, xs = [.ref p] ∧ (SqL K H p ys ∨ SqT K H p ys) ∧ Q (.int ys.length) H
theorem cl_len : CallR X (.builtin "len") (rLenK X.K) := call_len_seq
def rAbs : List V → Hp → VK → Prop := fun xs H Q => ∃ i, xs = [.int i] ∧ Q (.int (if i < 0 then -i else i)) H
theorem cl_abs : CallR X (.builtin "abs") rAbs := call_abs
def rMin2 : List V → Hp → VK → Prop := fun xs H Q => ∃ i j, xs = [.int i, .int j] ∧ Q (.int (if j < i then j else i)) H
theorem cl_min2 (hc : X.calm = true) : CallR X (.builtin "min") rMin2 := call_min2 hc
def rInt1 : List V → Hp → VK → Prop := fun xs H Q => (∃ i, xs = [.int i] ∧ Q (.int i) H) ∨ ∃ k, xs = [.bl k] ∧ Q (.int (if k then 1 else 0)) H
theorem cl_int : CallR X (.type "int") rInt1 := call_int1
def rStr1 : List V → Hp → VK → Prop := fun xs H Q => ∃ i, xs = [.int i] ∧ i.natAbs.log2 < 1920 ∧ Q (.str (toString i)) H
theorem cl_str : CallR X (.type "str") rStr1 := call_str_int
def rDivmod : List V → Hp → VK → Prop := fun xs H Q => ∃ i j, xs = [.int i, .int j] ∧ CDivP i j ∧ ∀ p, H p = none → Q (.ref p) (upd H p (.tup [.int (i / j), .int (i % j)]))
theorem cl_divmod : CallR X (.builtin "divmod") rDivmod := call_divmodW
def rLstOf (K : PySem.W.Frag) : List V → Hp → VK → Prop := fun xs H Q => ∃ p ys, xs = [.ref p] ∧ (SqL K H p ys ∨ SqT K H p ys) ∧ ∀ l, H l = none → Q (.ref l) (upd H l (.lst ys))
theorem cl_list : CallR X (.type "list") (rLstOf X.K) := call_list_of
def rTupOf (K : PySem.W.Frag) : List V → Hp → VK → Prop := fun xs H Q => ∃ p ys, xs = [.ref p] ∧ ((SqL K H p ys ∧ ∀ l, H l = none → Q (.ref l) (upd H l (.tup ys))) ∨ (SqT K H p ys ∧ Q (.ref p) H))
theorem cl_tuple : CallR X (.type "tuple") (rTupOf X.K) := call_tuple_of
/-- x == y by C's own __eq__ -/
def rOwnEq (C : Addr) (sp : Sp) (E : XK) : R2 := fun x y H Q => ∃ a b dx dy fs gs, x = .ref a ∧ y = .ref b ∧ H a = some (.ins C dx fs) ∧ H b = some (.ins C dy gs) ∧ sp [x, y] H Q E
theorem op_ownEq {CX : CXT} {C f : Addr} {fd : FuncData} {ps : List Str} {sp : Sp} {E : XK} {n : Nat} (F : FnOk X.prog X.w X.K X.mg X.base CX n f fd ps sp) (hr : Room n X.A)
    (hs : PySem.W.findIn X.K (.ref C) "__eq__" = some (some (.ref f))) (hf : PySem.W.isFn X.K (.ref f) = true) (hb : Binds X.K fd ps []) (hx : Passes CX X E) : OpR X (compareOp .Eq) (rOwnEq C sp E) := by
  intro pins s σ H x y u v Q I rx ry d
  obtain ⟨a, b, dx, dy, fs, gs, rfl, rfl, ha, hb', hsp⟩ := d
  cases rx
  cases ry
  obtain ⟨mA, J, _⟩ := ins_get I.hok ha
  obtain ⟨mB, J', _⟩ := ins_get I.hok hb'
  obtain ⟨od, J, _⟩ := J.look
  obtain ⟨od', J', _⟩ := J'.look
  obtain ⟨m, hF⟩ := I.fr
  show wpAny (model X.prog X.w) X.A (richCompare .Eq (.ref a) (.ref b)) (EP X pins σ Q) X.xe s
  refine PySem.W.cmp_K (op := .Eq) (tb := .ref C) hr.units0 hF I.ok.mod.kin J J'.type (by simp [PySem.W.notFirst]) hs hf ?_
  refine wpAny_mono (run_fn (us := [.ref a, .ref b]) (vs := [.ref a, .ref b]) F hr hb .nil hx I (.cons rfl (.cons rfl .nil)) (by rw [List.append_nil]; exact hsp)) (fun r s' q => ?_) fun _ _ z => z
  have q0 := q
  obtain ⟨v, _, _, rv, _⟩ := q0
  cases v <;> first
    | (cases rv; exact q)
    | (obtain ⟨t, rfl⟩ := rv; exact q)
end

/-! ### built-ins over the knowledge -/
section
variable {G : Hp} {O : OL} {σ : L2.St} {R : V → Hp → OL → Prop} {K : PySem.W.Frag} {ta tb te : TE} {p : Addr} {xs ys : List V} {v : V}
theorem r_isNone {x : V} (r : R (.bl (decide (x = .non))) G O) : W (rIsNone x .non) G O R := fun H m Q q => ⟨rfl, q _ H G O m Up.refl r⟩
theorem r_notNone {x : V} (r : R (.bl (!decide (x = .non))) G O) : W (rNotNone x .non) G O R := fun H m Q q => ⟨rfl, q _ H G O m Up.refl r⟩
theorem r_at {i : Int} (h : LsAt G O p xs) (ha : atI xs i = some v) (r : R v G O) : W (rIxL K (.ref p) (.int i)) G O R := fun H m Q q => ⟨p, xs, i, v, rfl, rfl, SqL.of (m.ls h), ha, q _ H G O m Up.refl r⟩
theorem r_atT {i : Int} (h : G p = some (.tup xs)) (ha : atI xs i = some v) (r : R v G O) : W (rIxT K (.ref p) (.int i)) G O R := r_ixT h ha r
theorem r_atS {i : Int} (h : SqAt G O p xs) (ha : atI xs i = some v) (r : R v G O) : W (rIx K (.ref p) (.int i)) G O R :=
  h.elim (fun z => r_ixS' (r_ixT z ha r)) fun z => r_ixS (r_at z ha r)
theorem Md.sq {H : Hp} (m : Md H G O) (h : SqAt G O p xs) : SqL K H p xs ∨ SqT K H p xs := h.elim (fun z => .inr (SqT.of (m.g _ _ z))) fun z => .inl (SqL.of (m.ls z))
theorem r_len (h : SqAt G O p ys) (r : R (.int ys.length) G O) : W (rLenK K [.ref p]) G O R := fun H m Q q => ⟨p, ys, rfl, m.sq h, q _ H G O m Up.refl r⟩
theorem r_abs {i : Int} (r : R (.int (if i < 0 then -i else i)) G O) : W (rAbs [.int i]) G O R := fun H m Q q => ⟨i, rfl, q _ H G O m Up.refl r⟩
theorem r_min2 {i j : Int} (r : R (.int (if j < i then j else i)) G O) : W (rMin2 [.int i, .int j]) G O R := fun H m Q q => ⟨i, j, rfl, q _ H G O m Up.refl r⟩
theorem r_int {i : Int} (r : R (.int i) G O) : W (rInt1 [.int i]) G O R := fun H m Q q => .inl ⟨i, rfl, q _ H G O m Up.refl r⟩
theorem r_intb {k : Bool} (r : R (.int (if k then 1 else 0)) G O) : W (rInt1 [.bl k]) G O R := fun H m Q q => .inr ⟨k, rfl, q _ H G O m Up.refl r⟩
theorem r_str {i : Int} (h : i.natAbs.log2 < 1920) (r : R (.str (toString i)) G O) : W (rStr1 [.int i]) G O R := fun H m Q q => ⟨i, rfl, h, q _ H G O m Up.refl r⟩
theorem r_divmod {i j : Int} (h : CDivP i j) (r : ∀ p G', Ex G G' → G' p = some (.tup [.int (i / j), .int (i % j)]) → R (.ref p) G' O) : W (rDivmod [.int i, .int j]) G O R := fun H m Q q =>
  ⟨i, j, rfl, h, fun p hp => q _ _ _ _ (m.newG hp) (m.upG hp) (r p _ (m.upG hp).g upd_same)⟩
theorem r_list (h : SqAt G O p ys) (r : ∀ l, G l = none → R (.ref l) G (O ++ [(l, .lst ys)])) : W (rLstOf K [.ref p]) G O R := fun H m Q q =>
  ⟨p, ys, rfl, m.sq h, fun l hl => q _ _ _ _ (m.newO hl) (m.upO hl) (r l (m.gnone hl))⟩
theorem r_listG (h : SqAt G O p ys) (r : ∀ l G', Ex G G' → G' l = some (.lst ys) → R (.ref l) G' O) : W (rLstOf K [.ref p]) G O R := fun H m Q q =>
  ⟨p, ys, rfl, m.sq h, fun l hl => q _ _ _ _ (m.newG hl) (m.upG hl) (r l _ (m.upG hl).g upd_same)⟩
theorem r_tuple (h : SqAt G O p ys) (r : ∀ l G', Ex G G' → G' l = some (.tup ys) → R (.ref l) G' O) : W (rTupOf K [.ref p]) G O R := fun H m Q q =>
  ⟨p, ys, rfl, h.elim (fun z => .inr ⟨SqT.of (m.g _ _ z), q _ _ _ _ m Up.refl (r p G (Evl.Ex.refl G) z)⟩) fun z => .inl ⟨SqL.of (m.ls z), fun l hl => q _ _ _ _ (m.newG hl) (m.upG hl) (r l _ (m.upG hl).g upd_same)⟩⟩
theorem r_sum {ns : List Int} (h : LsAt G O p (ns.map V.int)) (r : R (.int ns.sum) G O) : W (rSum K [.ref p]) G O R := fun H m Q q => ⟨p, ns, rfl, SqL.of (m.ls h), q _ H G O m Up.refl r⟩
theorem r_any {bs : List Bool} (h : LsAt G O p (bs.map V.bl)) (r : R (.bl (bs.any id)) G O) : W (rAny K [.ref p]) G O R := fun H m Q q => ⟨p, bs, rfl, SqL.of (m.ls h), q _ H G O m Up.refl r⟩
theorem r_all {bs : List Bool} (h : LsAt G O p (bs.map V.bl)) (r : R (.bl (bs.all id)) G O) : W (rAll K [.ref p]) G O R := fun H m Q q => ⟨p, bs, rfl, SqL.of (m.ls h), q _ H G O m Up.refl r⟩
theorem r_in {neg : Bool} {x : V} (h : SqAt G O p xs) (hx : flatV x = true) (hf : xs.all flatV = true) (r : R (.bl (if neg then !inV x xs else inV x xs)) G O) : W (rIn K neg x (.ref p)) G O R := fun H m Q q =>
  ⟨p, xs, rfl, m.sq h, hx, hf, q _ H G O m Up.refl r⟩
theorem r_slL {lo hi : Option Int} (h : LsAt G O p xs) (r : ∀ l, G l = none → R (.ref l) G (O ++ [(l, .lst (cutV xs lo hi))])) : W (rSlL K (.ref p) lo hi) G O R := fun H m Q q =>
  ⟨p, xs, rfl, SqL.of (m.ls h), fun l hl => q _ _ _ _ (m.newO hl) (m.upO hl) (r l (m.gnone hl))⟩
theorem r_slLG {lo hi : Option Int} (h : LsAt G O p xs) (r : ∀ l G', Ex G G' → G' l = some (.lst (cutV xs lo hi)) → R (.ref l) G' O) : W (rSlL K (.ref p) lo hi) G O R := fun H m Q q =>
  ⟨p, xs, rfl, SqL.of (m.ls h), fun l hl => q _ _ _ _ (m.newG hl) (m.upG hl) (r l _ (m.upG hl).g upd_same)⟩
theorem r_cat {q : Addr} (h : LsAt G O p xs) (h2 : LsAt G O q ys) (hz : xs.length + ys.length ≤ sizeLine) (r : ∀ l, G l = none → R (.ref l) G (O ++ [(l, .lst (xs ++ ys))])) : W (rCat (.ref p) (.ref q)) G O R := fun H m Q k =>
  ⟨p, q, xs, ys, rfl, rfl, m.ls h, m.ls h2, hz, fun l hl => k _ _ _ _ (m.newO hl) (m.upO hl) (r l (m.gnone hl))⟩
theorem r_catG {q : Addr} (h : LsAt G O p xs) (h2 : LsAt G O q ys) (hz : xs.length + ys.length ≤ sizeLine) (r : ∀ l G', Ex G G' → G' l = some (.lst (xs ++ ys)) → R (.ref l) G' O) : W (rCat (.ref p) (.ref q)) G O R := fun H m Q k =>
  ⟨p, q, xs, ys, rfl, rfl, m.ls h, m.ls h2, hz, fun l hl => k _ _ _ _ (m.newG hl) (m.upG hl) (r l _ (m.upG hl).g upd_same)⟩
theorem r_rep {k : Int} (h : LsAt G O p xs) (h1 : -(2 ^ 63) ≤ k) (h2 : k < 2 ^ 63) (hz : xs.length * k.toNat ≤ sizeLine) (r : ∀ l, G l = none → R (.ref l) G (O ++ [(l, .lst (List.replicate k.toNat xs).flatten)])) : W (rRep (.ref p) (.int k)) G O R := fun H m Q q =>
  ⟨p, k, xs, rfl, rfl, m.ls h, h1, h2, hz, fun l hl => q _ _ _ _ (m.newO hl) (m.upO hl) (r l (m.gnone hl))⟩
theorem r_catA {q : Addr} (h : G p = some (.tup xs)) (h2 : G q = some (.tup ys)) (hz : xs.length + ys.length ≤ sizeLine) (r : ∀ l G', Ex G G' → G' l = some (.tup (xs ++ ys)) → R (.ref l) G' O) : W (rCatA K (.ref p) (.ref q)) G O R := fun H m Q k => by
  refine ⟨p, q, xs, ys, rfl, rfl, SqT.of (m.g _ _ h), SqT.of (m.g _ _ h2), hz, fun e => ?_, fun _ e => ?_, fun _ _ l hl => k _ _ _ _ (m.newG hl) (m.upG hl) (r l _ (m.upG hl).g upd_same)⟩
  · subst e; exact k _ _ _ _ m Up.refl (r q G (Evl.Ex.refl G) h2)
  · subst e; exact k _ _ _ _ m Up.refl (r p G (Evl.Ex.refl G) (by rw [List.append_nil]; exact h))
/-! methods -/
theorem w_append (h : W (ta σ) G O fun x G1 O1 => ∃ k l xs, x = .ref l ∧ O1[k]? = some (l, .lst xs) ∧ W (te σ) G1 O1 fun y G2 O2 => O2[k]? = some (l, .lst xs) ∧ xs.length < 100000 ∧ R .non G2 (O2.set k (l, .lst (xs ++ [y])))) :
    W (tBM K "list" rAppend ta (tCons te tNil) σ) G O R := fun H m Q q =>
  h H m _ fun x H1 G1 O1 m1 u1 ⟨k, l, xs, e, ho, z⟩ => by
    subst e
    exact ⟨.inl ⟨rfl, xs, SqL.of (m1.getO ho)⟩, z H1 m1 _ fun y H2 G2 O2 m2 u2 ⟨ho2, hz, r⟩ => ⟨l, xs, y, rfl, rfl, m2.getO ho2, Nat.lt_of_lt_of_le hz (by decide), q _ _ _ _ (m2.writeO ho2) ((u1.trans m1 u2).trans m2 (m2.upW ho2)) r⟩⟩
theorem w_popAt (h : W (ta σ) G O fun x G1 O1 => ∃ k l xs, x = .ref l ∧ O1[k]? = some (l, .lst xs) ∧ W (te σ) G1 O1 fun y G2 O2 => ∃ i j z, y = .int i ∧ O2[k]? = some (l, .lst xs) ∧ -(2 ^ 63) ≤ i ∧ i < 2 ^ 63 ∧ seqIndex? i xs.length = some j ∧ xs[j]? = some z ∧ R z G2 (O2.set k (l, .lst (xs.eraseIdx j)))) :
    W (tBM K "list" rPopAt ta (tCons te tNil) σ) G O R := fun H m Q q =>
  h H m _ fun x H1 G1 O1 m1 u1 ⟨k, l, xs, e, ho, w⟩ => by
    subst e
    exact ⟨.inl ⟨rfl, xs, SqL.of (m1.getO ho)⟩, w H1 m1 _ fun y H2 G2 O2 m2 u2 ⟨i, j, z, e2, ho2, h1, h2, hj, hz, r⟩ => by
      subst e2
      exact ⟨l, xs, i, j, z, rfl, rfl, m2.getO ho2, h1, h2, hj, hz, q _ _ _ _ (m2.writeO ho2) ((u1.trans m1 u2).trans m2 (m2.upW ho2)) r⟩⟩
theorem w_index (h : W (ta σ) G O fun x G1 O1 => ∃ l ys, x = .ref l ∧ LsAt G1 O1 l ys ∧ W (te σ) G1 O1 fun y G2 O2 => ∃ (j : Nat) (z : V), LsAt G2 O2 l ys ∧ flatV y = true ∧ ys.all flatV = true ∧ ys[j]? = some z ∧ eqV z y = true ∧ (∀ (m : Nat) (z' : V), m < j → ys[m]? = some z' → eqV z' y = false) ∧ R (.int (j : Nat)) G2 O2) :
    W (tBM K "list" (rIndex K) ta (tCons te tNil) σ) G O R := fun H m Q q =>
  h H m _ fun x H1 G1 O1 m1 u1 ⟨l, ys, e, hl, w⟩ => by
    subst e
    exact ⟨.inl ⟨rfl, ys, SqL.of (m1.ls hl)⟩, w H1 m1 _ fun y H2 G2 O2 m2 u2 ⟨j, z, hl2, f1, f2, hj, hz, hn, r⟩ => ⟨l, ys, y, j, z, rfl, rfl, SqL.of (m2.ls hl2), f1, f2, hj, hz, hn, q _ _ _ _ m2 (u1.trans m1 u2) r⟩⟩
theorem w_bits (h : W (te σ) G O fun x G1 O1 => ∃ i, x = .int i ∧ R (.int (Builtin.Int.intBits i : Nat)) G1 O1) : W (tBits te σ) G O R := fun H m Q q =>
  h H m _ fun x H1 G1 O1 m1 u1 ⟨i, e, r⟩ => ⟨i, e, q _ _ _ _ m1 u1 r⟩
/-- truth of a value -/
def tTru (K : PySem.W.Frag) (ta : TE) : TT := fun σ H Q => ta σ H fun x H' => ∃ k, TruV K x H' k ∧ Q k H'
theorem pt_tru {X : Cx} {a : Expr} {ta : TE} (ha : PE X a ta) (he : ∀ whole, isTrue a X.env whole = (do let v ← whole; standAt a.pos; holding [v] (truthy v))) : PT X a (tTru X.K ta) := pt_truth ha he
theorem t_tru {R : Bool → Hp → OL → Prop} (h : W (ta σ) G O fun x G1 O1 => (∃ i, x = .int i ∧ R (i != 0) G1 O1) ∨ (∃ p xs, x = .ref p ∧ SqAt G1 O1 p xs ∧ R (!xs.isEmpty) G1 O1)) : W (tTru K ta σ) G O R := fun H m Q q =>
  h H m _ fun x H1 G1 O1 m1 u1 z => by
    rcases z with ⟨i, e, r⟩ | ⟨p, xs, e, hs, r⟩
    · subst e; exact ⟨_, rfl, q _ _ _ _ m1 u1 r⟩
    · subst e
      refine ⟨!xs.isEmpty, ?_, q _ _ _ _ m1 u1 r⟩
      rcases m1.sq (K := K) hs with z | z
      · exact .inl ⟨xs, z, rfl⟩
      · exact .inr (.inl ⟨xs, z, rfl⟩)
/-- a value's type -/
inductive TyK (K : PySem.W.Frag) (G : Hp) (O : OL) : V → Value → Prop where
  | non : TyK K G O .non (.type "NoneType")
  | bl (b : Bool) : TyK K G O (.bl b) (.type "bool")
  | int (i : Int) : TyK K G O (.int i) (.type "int")
  | str (z : Str) : TyK K G O (.str z) (.type "str")
  | lst {p : Addr} {xs : List V} (h : LsAt G O p xs) : TyK K G O (.ref p) (.type "list")
  | tup {p : Addr} {xs : List V} (h : G p = some (.tup xs)) : TyK K G O (.ref p) (.type "tuple")
  | ins {p C dx : Addr} {fs : List (Str × V)} (h : G p = some (.ins C dx fs)) (c : C8.InsC K C) : TyK K G O (.ref p) (.ref C)
theorem TyK.ok {H : Hp} {x : V} {t : Value} (m : Md H G O) (h : TyK K G O x t) : TyX K H x t := by
  cases h with
  | non => exact .base .non
  | bl b => exact .base (.bl b)
  | int i => exact .base (.int i)
  | str z => exact .base (.str z)
  | lst h => exact .base (.lst (m.ls h))
  | tup h => exact .base (.tup (m.g _ _ h))
  | ins h c => exact .base (.ins (m.g _ _ h) c.cl c.ha c.hn c.htk c.hm)
theorem r_isi {x c : V} {t u : Value} {b : Bool} (k : ClsV c u) (ty : TyK K G O x t) (e : PySem.W.kitOne K t u = some b) (r : R (.bl b) G O) : W (rIsi K [x, c]) G O R := fun H m Q q => ⟨x, c, t, u, b, rfl, k, ty.ok m, e, q _ H G O m Up.refl r⟩
theorem r_isiT {x : V} {tp : Addr} {cs : List V} {t : Value} {us : List Value} {b : Bool} (h : G tp = some (.tup cs)) (k : Paired ClsV cs us) (ty : TyK K G O x t) (e : PySem.W.kitAny K t us = some b) (r : R (.bl b) G O) : W (rIsiT K [x, .ref tp]) G O R := fun H m Q q =>
  ⟨x, tp, cs, t, us, b, rfl, m.g _ _ h, k, ty.ok m, e, q _ H G O m Up.refl r⟩
/-! data -/
mutual
inductive Da (G : Hp) (O : OL) : V → PyData → Prop where
  | non : Da G O .non .none
  | bl (b : Bool) : Da G O (.bl b) (.bool b)
  | int (i : Int) : Da G O (.int i) (.int i)
  | str (x : Str) : Da G O (.str x) (.str x)
  | lst {a : Addr} {xs : List V} {ds : List PyData} : LsAt G O a xs → DaAll G O xs ds → Da G O (.ref a) (.list ds)
  | tup {a : Addr} {xs : List V} {ds : List PyData} : G a = some (.tup xs) → DaAll G O xs ds → Da G O (.ref a) (.tuple ds)
inductive DaAll (G : Hp) (O : OL) : List V → List PyData → Prop where
  | nil : DaAll G O [] []
  | cons {v : V} {vs : List V} {d : PyData} {ds : List PyData} : Da G O v d → DaAll G O vs ds → DaAll G O (v :: vs) (d :: ds)
end
mutual
theorem Da.dp {H : Hp} (m : Md H G O) : ∀ {v : V} {d : PyData}, Da G O v d → Dp K H v d
  | _, _, .non => .non
  | _, _, .bl b => .bl b
  | _, _, .int i => .int i
  | _, _, .str x => .str x
  | _, _, .lst h ha => .lst (SqL.of (m.ls h)) (DaAll.dp m ha)
  | _, _, .tup h ha => .tup (SqT.of (m.g _ _ h)) (DaAll.dp m ha)
theorem DaAll.dp {H : Hp} (m : Md H G O) : ∀ {vs : List V} {ds : List PyData}, DaAll G O vs ds → DpAll K H vs ds
  | _, _, .nil => .nil
  | _, _, .cons h t => .cons (Da.dp m h) (DaAll.dp m t)
end
mutual
theorem Da.up {G' : Hp} (e : Ex G G') : ∀ {v : V} {d : PyData}, Da G O v d → Da G' O v d
  | _, _, .non => .non
  | _, _, .bl b => .bl b
  | _, _, .int i => .int i
  | _, _, .str x => .str x
  | _, _, .lst h ha => .lst (h.up e) (DaAll.up e ha)
  | _, _, .tup h ha => .tup (e _ _ h) (DaAll.up e ha)
theorem DaAll.up {G' : Hp} (e : Ex G G') : ∀ {vs : List V} {ds : List PyData}, DaAll G O vs ds → DaAll G' O vs ds
  | _, _, .nil => .nil
  | _, _, .cons h t => .cons (Da.up e h) (DaAll.up e t)
end
instance {v : V} {d : PyData} : Mono (fun G => Da G O v d) := ⟨fun e h => Da.up e h⟩
instance {vs : List V} {ds : List PyData} : Mono (fun G => DaAll G O vs ds) := ⟨fun e h => DaAll.up e h⟩
theorem r_eqD {x y : V} {d e : PyData} (hd : Da G O x d) (he : Da G O y e) (s1 : SeqAt.shaped d = true) (s2 : SeqAt.shaped e = true) (r : R (.bl (PyData.eqv d e)) G O) : W (rEqD K x y) G O R := fun H m Q q =>
  ⟨d, e, hd.dp m, he.dp m, s1, s2, q _ H G O m Up.refl r⟩
theorem r_neD {x y : V} {d e : PyData} (hd : Da G O x d) (he : Da G O y e) (s1 : SeqAt.shaped d = true) (s2 : SeqAt.shaped e = true) (r : R (.bl (!PyData.eqv d e)) G O) : W (rNeD K x y) G O R := fun H m Q q =>
  ⟨d, e, hd.dp m, he.dp m, s1, s2, q _ H G O m Up.refl r⟩
end

/-! ### what a def promises, over the knowledge -/
abbrev Sg := List V → Hp → OL → (V → Hp → OL → Prop) → Prop
def Fn (S : Sg) : Sp := fun vs H Q _ => ∃ G O R, Md H G O ∧ S vs G O R ∧ ∀ v H' G' O', Md H' G' O' → Up H G O H' G' O' → R v G' O' → Q v H'
/-- .. that may raise: RX of the class, the error's own dict, the knowledge -/
abbrev RXt := Value → Option Addr → Hp → OL → Prop
def FnX (S : List V → Hp → OL → (V → Hp → OL → Prop) → RXt → Prop) : Sp := fun vs H Q E => ∃ G O R RX, Md H G O ∧ S vs G O R RX ∧
  (∀ v H' G' O', Md H' G' O' → Up H G O H' G' O' → R v G' O' → Q v H') ∧ (∀ c d H' G' O', Md H' G' O' → Up H G O H' G' O' → RX c d G' O' → E c d H')
section
variable {G : Hp} {O : OL} {σ : L2.St} {R : V → Hp → OL → Prop} {K : PySem.W.Frag} {ta : TE} {t : TA} {S : Sg} {dvs : List V} {E : XK}
theorem fn_call {vs : List V} {A B : OL} {R1 : V → Hp → OL → Prop} (hS : S vs G A R1) (h : ∀ v G2 A2, Ex G G2 → R1 v G2 A2 → R v G2 (A2 ++ B)) : W (fun H Q => Fn S vs H Q E) G (A ++ B) R := fun H m Q q =>
  ⟨G, A, R1, m.left, hS, fun v H' G' A' m' u r => let ⟨m2, u2⟩ := m.frame m' u; q v H' G' (A' ++ B) m2 u2 (h v G' A' u.g r)⟩
theorem w_call (h : W (t σ) G O fun vs G1 O1 => W (fun H Q => Fn S (vs ++ dvs) H Q E) G1 O1 R) : W (tCall (Fn S) dvs E t σ) G O R := w_bind (k := t σ) (f := fun vs H Q => Fn S (vs ++ dvs) H Q E) h
theorem f_pure {vs : List V} {R1 : V → Hp → OL → Prop} (hS : S vs G [] R1) (h : ∀ v G2 A2, Ex G G2 → R1 v G2 A2 → R v G2 (A2 ++ O)) : W (fun H Q => Fn S vs H Q E) G O R := fn_call (A := []) (B := O) hS h
theorem f_all {vs : List V} {R1 : V → Hp → OL → Prop} (hS : S vs G O R1) (h : ∀ v G2 A2, Ex G G2 → R1 v G2 A2 → R v G2 A2) : W (fun H Q => Fn S vs H Q E) G O R := by
  have := fn_call (A := O) (B := []) (R := R) (E := E) hS fun v G2 A2 e r => by rw [List.append_nil]; exact h v G2 A2 e r
  rw [List.append_nil] at this
  exact this
theorem f_head {vs : List V} {a : Addr × HO} {R1 : V → Hp → OL → Prop} (hS : S vs G [a] R1) (h : ∀ v G2 A2, Ex G G2 → R1 v G2 A2 → R v G2 (A2 ++ O)) : W (fun H Q => Fn S vs H Q E) G (a :: O) R := fn_call (A := [a]) (B := O) hS h
theorem w_meth {C : Addr} {m : Str} (h : W (ta σ) G O fun x G1 O1 => ∃ a dx fs, x = .ref a ∧ G1 a = some (.ins C dx fs) ∧ fs.lookup m = none ∧ W (t σ) G1 O1 fun vs G2 O2 => W (fun H Q => Fn S (x :: (vs ++ dvs)) H Q E) G2 O2 R) :
    W (tMeth C m (Fn S) dvs E ta t σ) G O R := fun H m' Q q =>
  h H m' _ fun x H1 G1 O1 m1 u1 ⟨a, dx, fs, e, ha, hl, z⟩ => ⟨a, dx, fs, e, m1.g _ _ ha, hl, z H1 m1 _ fun vs H2 G2 O2 m2 u2 y => y H2 m2 Q fun v H3 G3 O3 m3 u3 r => q v H3 G3 O3 m3 ((u1.trans m1 u2).trans m2 u3) r⟩
theorem w_make {C : Addr} (h : W (t σ) G O fun vs G1 O1 => ∀ x dx G2, Ex G1 G2 → G2 dx = some (.own x) → ∃ R1, S (.ref x :: (vs ++ dvs)) G2 [(x, .ins C dx [])] R1 ∧ ∀ v G3 A3, Ex G2 G3 → R1 v G3 A3 → v = .non ∧ ∃ fs, A3 = [(x, .ins C dx fs)] ∧ ∀ G4, Ex G3 G4 → G4 x = some (.ins C dx fs) → R (.ref x) G4 O1) :
    W (tMake C (Fn S) dvs E t σ) G O R := fun H m Q q =>
  h H m _ fun vs H1 G1 O1 m1 u1 z x dx hx hdx hne => by
    have ma := m1.newG (o := .own x) hdx
    have ua := m1.upG (o := .own x) hdx
    have hx' : (upd H1 dx (.own x)) x = none := by rw [upd_ne (Ne.symm hne)]; exact hx
    have mb := ma.newO (o := .ins C dx []) hx'
    have ub := ma.upO (o := .ins C dx []) hx'
    obtain ⟨R1, hS, hR⟩ := z x dx _ ua.g upd_same
    have mp : Md (upd (upd H1 dx (.own x)) x (.ins C dx [])) (upd G1 dx (.own x)) ([(x, .ins C dx [])] ++ O1) :=
      ⟨mb.g, fun p hp => mb.o p (List.mem_append.mpr ((List.mem_append.mp hp).symm)), by
        have := mb.nd
        rw [dom, List.map_append] at this ⊢
        exact (List.perm_append_comm.nodup_iff).mp this⟩
    have up' : Up (upd H1 dx (.own x)) (upd G1 dx (.own x)) O1 (upd (upd H1 dx (.own x)) x (.ins C dx [])) (upd G1 dx (.own x)) ([(x, .ins C dx [])] ++ O1) :=
      ⟨ub.fr, ub.g, fun a ha => ub.nw a (ha.imp id fun hm => by
        rw [dom, List.map_append] at hm ⊢
        exact List.mem_append.mpr (List.mem_append.mp hm).symm)⟩
    refine ⟨_, _, R1, mp.left, hS, fun v H' G' A' m' u r => ?_⟩
    obtain ⟨m2, u2⟩ := mp.frame m' u
    obtain ⟨ev, fs, eA, hq⟩ := hR v G' A' u.g r
    subst eA
    have ix : ([(x, HO.ins C dx fs)] ++ O1)[0]? = some (x, .ins C dx fs) := rfl
    have mf := m2.frz ix
    have uf := m2.upF ix
    refine ⟨ev, q _ _ _ _ mf ?_ (hq _ uf.g upd_same)⟩
    exact (((u1.trans m1 ua).trans ma up').trans mp u2).trans m2 uf
end

/-! ### defs -/
/-- a def of the text under its name -/
structure DefAt (K : PySem.W.Frag) (mg : Str → Option Value) (x : Str) (st : Stmt) (ps : List Str) : Prop where
  ex : ∃ f fd, L2.Fun K x x st f fd ∧ mg x = some (.ref f) ∧ PySem.W.keepIn K (.ref f) = true ∧ Binds K fd ps []
section
variable {P : Program} {w : World} {K : PySem.W.Frag} {mg : Str → Option Value} {base : Heap}
theorem fn_by {x qual : Str} {st : Stmt} {f : Addr} {fd : FuncData} {N ps : List Str} {k : Nat} {S : Sg} (F : L2.Fun K x qual st f fd) (sc : FnScope N ps (defScope st)) (len : ∀ vs G O R, S vs G O R → vs.length = ps.length)
    (hbody : ∀ (cdv : Value) (A : Around) (outer : List Env) (s : Shared) (H : Hp) (vs : List V) (G : Hp) (O : OL) (R : V → Hp → OL → Prop) (E : XK), Room k (A.deeper (envOfC qual (defScope st) s.heap.objs.size f cdv)) → S vs G O R →
      ∃ t, PSs (cxOf CX0 P w K mg base N qual (defScope st) f cdv A outer s H E).nox (defBody st) t ∧ WS t (start N vs) G O { nx := fun _ G' O' => R .non G' O', rt := R }) : FnOk P w K mg base CX0 (k + 1) f fd ps (Fn S) := by
  refine F.ok sc (fun vs H Q E h => ?_) (fun cdv A outer s H vs Q E hr h => ?_)
  · obtain ⟨G, O, R, m, hS, _⟩ := h
    exact len vs G O R hS
  · obtain ⟨G, O, R, m, hS, q⟩ := h
    obtain ⟨t, ht, hw⟩ := hbody cdv A outer s H vs G O R E hr hS
    exact ⟨t, ht, hw H m _ ⟨fun _ H' G' O' m' u r => q .non H' G' O' m' u r, q, fun _ _ _ _ _ _ z => z, fun _ _ _ _ _ _ z => z⟩⟩
/-- as C8.Cal, the address told -/
theorem cal_by {x : Str} {st : Stmt} {N ps : List Str} {k : Nat} {S : Sg} (D : DefAt K mg x st ps) (sc : FnScope N ps (defScope st)) (len : ∀ vs G O R, S vs G O R → vs.length = ps.length)
    (hbody : ∀ (f : Addr) (cdv : Value) (A : Around) (outer : List Env) (s : Shared) (H : Hp) (vs : List V) (G : Hp) (O : OL) (R : V → Hp → OL → Prop) (E : XK), Room k (A.deeper (envOfC x (defScope st) s.heap.objs.size f cdv)) → S vs G O R →
      ∃ t, PSs (cxOf CX0 P w K mg base N x (defScope st) f cdv A outer s H E).nox (defBody st) t ∧ WS t (start N vs) G O { nx := fun _ G' O' => R .non G' O', rt := R }) : C8.Cal P w K mg base (k + 1) x (Fn S) [] := by
  obtain ⟨f, fd, F, hm, hk, hb⟩ := D.ex
  refine ⟨f, fd, ps, [], ?_, hm, hk, hb, .nil⟩
  have h := fn_by (P := P) (w := w) (mg := mg) (base := base) (k := k) F sc len fun cdv A outer s H vs G O R E hr hS => hbody f cdv A outer s H vs G O R E hr hS
  exact h
end

/-! ### iterators -/
section
variable {G : Hp} {O : OL} {σ : L2.St} {K : PySem.W.Frag} {R : It → Hp → OL → Prop}
theorem wk_range {lo : Int} {n : Nat} : Wk (Itr lo n) G [] n (fun i x _ => x = .int (lo + i)) where
  go := fun i H G' O' hi _ _ _ => hi
  stop := fun H G' O' _ _ _ => Nat.le_refl _
  yld := fun i H G' O' x H' hi m _ _ ⟨e, ex⟩ => by subst e; exact ⟨G', m, Up.refl, ex⟩
theorem wk_list {a : Addr} {xs : List V} (h : G a = some (.lst xs)) : Wk (Itl K a) G [] xs.length (fun i x _ => xs[i]? = some x) where
  go := fun i H G' O' hi m e _ => ⟨xs, xs[i], SqL.of (m.g _ _ (e _ _ h)), by simp [hi]⟩
  stop := fun H G' O' m e _ => ⟨xs, SqL.of (m.g _ _ (e _ _ h)), Nat.le_refl _⟩
  yld := fun i H G' O' x H' hi m e _ ⟨eh, ex⟩ => by subst eh; exact ⟨G', m, Up.refl, ex xs (SqL.of (m.g _ _ (e _ _ h)))⟩
theorem wk_tup {a : Addr} {xs : List V} (h : G a = some (.tup xs)) : Wk (Itt K a) G [] xs.length (fun i x _ => xs[i]? = some x) where
  go := fun i H G' O' hi m e _ => ⟨xs, xs[i], SqT.of (m.g _ _ (e _ _ h)), by simp [hi]⟩
  stop := fun H G' O' m e _ => ⟨xs, SqT.of (m.g _ _ (e _ _ h)), Nat.le_refl _⟩
  yld := fun i H G' O' x H' hi m e _ ⟨eh, ex⟩ => by subst eh; exact ⟨G', m, Up.refl, ex xs (SqT.of (m.g _ _ (e _ _ h)))⟩
theorem i_range1 {t : TA} (h : W (t σ) G O fun vs G1 O1 => ∃ j : Int, vs = [.int j] ∧ -(2 ^ 62) ≤ j ∧ j < 2 ^ 62 ∧ R (Itr 0 j.toNat) G1 O1) : W (iRng1 t σ) G O R := fun H m Q q =>
  h H m _ fun vs H1 G1 O1 m1 u1 ⟨j, e, h1, h2, r⟩ => ⟨j, e, h1, h2, q _ _ _ _ m1 u1 r⟩
theorem i_range2 {t : TA} (h : W (t σ) G O fun vs G1 O1 => ∃ i j : Int, vs = [.int i, .int j] ∧ (-(2 ^ 62) ≤ i ∧ i < 2 ^ 62 ∧ -(2 ^ 62) ≤ j ∧ j < 2 ^ 62) ∧ R (Itr i (j - i).toNat) G1 O1) : W (iRng2 t σ) G O R := fun H m Q q =>
  h H m _ fun vs H1 G1 O1 m1 u1 ⟨i, j, e, h1, r⟩ => ⟨i, j, e, h1, q _ _ _ _ m1 u1 r⟩
theorem i_list {te : TE} (h : W (te σ) G O fun x G1 O1 => ∃ a xs, x = .ref a ∧ LsAt G1 O1 a xs ∧ R (Itl K a) G1 O1) : W (iList K te σ) G O R := fun H m Q q =>
  h H m _ fun x H1 G1 O1 m1 u1 ⟨a, xs, e, hl, r⟩ => ⟨a, e, ⟨xs, SqL.of (m1.ls hl)⟩, q _ _ _ _ m1 u1 r⟩
theorem i_tup {te : TE} (h : W (te σ) G O fun x G1 O1 => ∃ a xs, x = .ref a ∧ G1 a = some (.tup xs) ∧ R (Itt K a) G1 O1) : W (iTup K te σ) G O R := fun H m Q q =>
  h H m _ fun x H1 G1 O1 m1 u1 ⟨a, xs, e, hl, r⟩ => ⟨a, e, ⟨xs, SqT.of (m1.g _ _ hl)⟩, q _ _ _ _ m1 u1 r⟩
theorem w_perm {α : Type} {k : Hp → (α → Hp → Prop) → Prop} {O' : OL} {R : α → Hp → OL → Prop} (p : O.Perm O') (h : W k G O' R) : W k G O R := fun H m Q q => by
  have m' : Md H G O' := ⟨m.g, fun x hx => m.o x (p.mem_iff.mpr hx), (p.map _).nodup_iff.mp m.nd⟩
  refine h H m' Q fun v H2 G2 O2 m2 u r => q v H2 G2 O2 m2 ⟨fun a x ha hx => u.fr a x (fun z => ha ((p.map _).mem_iff.mpr z)) hx, u.g, fun a ha => ?_⟩ r
  rcases u.nw a ha with z | z | z
  · exact .inl z
  · exact .inr (.inl ((p.map _).mem_iff.mpr z))
  · exact .inr (.inr z)
theorem ws_perm {ts : TS} {D : En} {O' : OL} (p : O.Perm O') (h : WS ts σ G O' D) : WS ts σ G O D := fun H m D0 l => by
  have m' : Md H G O' := ⟨m.g, fun x hx => m.o x (p.mem_iff.mpr hx), (p.map _).nodup_iff.mp m.nd⟩
  have u : Up H G O H G O' := ⟨fun _ _ _ h => h, Evl.Ex.refl G, fun a ha => ha.elim .inl fun z => .inr (.inl ((p.map _).mem_iff.mpr z))⟩
  exact h H m' D0 (l.trans m' u)
end
end K3
/-! text K4 -/
set_option Elab.async false
set_option linter.all false
set_option maxRecDepth 100000
set_option maxHeartbeats 4000000
/-! K4: the text by places; what the walks ask of the top. -/
namespace K6
open PySem L2 K3 PySem.Spec PyProof.Rows
open Evl (Ex)
def topS (i : Nat) : Stmt := PySem.Challenge.pw_sheetproofs_k06_whole_same_figure_exactl.main.body.getD i (.Pass ⟨0, 0, 0, 0⟩)
abbrev s_wall : Stmt := topS 0
abbrev s_BadPicture_init : Stmt := inClass (topS 3) 0
abbrev s_BadPrime_init : Stmt := inClass (topS 4) 0
abbrev s_BadNumber_init : Stmt := inClass (topS 5) 0
abbrev s_ByZero_init : Stmt := inClass (topS 6) 0
abbrev s_BadTable_init : Stmt := inClass (topS 7) 0
abbrev s_BadNumbers_init : Stmt := inClass (topS 8) 0
abbrev s_BadFactors_init : Stmt := inClass (topS 9) 0
abbrev s_BadRow_init : Stmt := inClass (topS 10) 0
abbrev s_is_whole : Stmt := topS 12
abbrev s_common_divisor : Stmt := topS 13
abbrev s_power_of : Stmt := topS 14
abbrev s_tree_places : Stmt := topS 16
abbrev s_other_places : Stmt := topS 17
abbrev s_completed_tour : Stmt := topS 18
abbrev s_meets_end : Stmt := topS 19
abbrev s_loose_ends : Stmt := topS 20
abbrev s_tour_of : Stmt := topS 21
abbrev s_basis_tours : Stmt := topS 22
abbrev s_is_prime : Stmt := topS 25
abbrev s_rest_power : Stmt := topS 26
abbrev s_lowest_terms : Stmt := topS 27
abbrev s_RestField_init : Stmt := inClass (topS 28) 0
abbrev s_RestField_eq : Stmt := inClass (topS 28) 1
abbrev s_RestField_check_number : Stmt := inClass (topS 28) 2
abbrev s_RestField_number_of : Stmt := inClass (topS 28) 3
abbrev s_RestField_plus : Stmt := inClass (topS 28) 4
abbrev s_RestField_less : Stmt := inClass (topS 28) 5
abbrev s_RestField_times : Stmt := inClass (topS 28) 6
abbrev s_RestField_quotient : Stmt := inClass (topS 28) 7
abbrev s_RestField_power : Stmt := inClass (topS 28) 8
abbrev s_FractionField_init : Stmt := inClass (topS 29) 0
abbrev s_FractionField_eq : Stmt := inClass (topS 29) 1
abbrev s_FractionField_check_number : Stmt := inClass (topS 29) 2
abbrev s_FractionField_number_of : Stmt := inClass (topS 29) 3
abbrev s_FractionField_plus : Stmt := inClass (topS 29) 4
abbrev s_FractionField_less : Stmt := inClass (topS 29) 5
abbrev s_FractionField_times : Stmt := inClass (topS 29) 6
abbrev s_FractionField_quotient : Stmt := inClass (topS 29) 7
abbrev s_FractionField_power : Stmt := inClass (topS 29) 8
abbrev s_is_factor : Stmt := topS 31
abbrev s_factors_place : Stmt := topS 32
abbrev s_check_table : Stmt := topS 33
abbrev s_plain_worth : Stmt := topS 34
abbrev s_basis_worths : Stmt := topS 35
abbrev s_scaled_table : Stmt := topS 36
abbrev s_table_of : Stmt := topS 37
abbrev s_Factors_init : Stmt := inClass (topS 39) 0
abbrev s_Factors_eq : Stmt := inClass (topS 39) 1
abbrev s_Unlike_init : Stmt := inClass (topS 40) 0
abbrev s_Unlike_eq : Stmt := inClass (topS 40) 1
abbrev s_spread_factors : Stmt := topS 41
abbrev s_same_figure : Stmt := topS 42
abbrev s_factors_fault : Stmt := topS 43
abbrev s_unlike_fault : Stmt := topS 44
abbrev s_same_numbers : Stmt := topS 45
abbrev s_plain_form : Stmt := topS 46
abbrev s_is_couple : Stmt := topS 48
abbrev s_Picture_init : Stmt := inClass (topS 49) 0
abbrev s_Picture_eq : Stmt := inClass (topS 49) 1
abbrev s_Picture_len : Stmt := inClass (topS 49) 2
abbrev s_Picture_pieces : Stmt := inClass (topS 49) 3
abbrev s_Picture_place_of : Stmt := inClass (topS 49) 4
abbrev s_Picture_is_open : Stmt := inClass (topS 49) 5
abbrev s_Picture_with_pair : Stmt := inClass (topS 49) 6
abbrev s_Picture_without_pair : Stmt := inClass (topS 49) 7
abbrev s_piece_marks : Stmt := topS 50
abbrev s_law_mixed : Stmt := topS 52
abbrev s_law_hand : Stmt := topS 53
abbrev s_law_draw : Stmt := topS 54
abbrev s_law_whole : Stmt := topS 55
abbrev s_law_given : Stmt := topS 56
abbrev s_law_divisor : Stmt := topS 57
abbrev s_law_lowest : Stmt := topS 58
abbrev s_law_prime : Stmt := topS 59
abbrev s_law_next_prime : Stmt := topS 60
abbrev s_law_field : Stmt := topS 61
abbrev s_law_made_field : Stmt := topS 62
abbrev s_law_one : Stmt := topS 63
abbrev s_law_minus : Stmt := topS 64
abbrev s_law_times : Stmt := topS 65
abbrev s_law_power : Stmt := topS 66
abbrev s_law_number : Stmt := topS 67
abbrev s_law_is_number : Stmt := topS 68
abbrev s_law_same : Stmt := topS 69
abbrev s_law_same_row : Stmt := topS 70
abbrev s_law_odd : Stmt := topS 71
abbrev s_law_picture : Stmt := topS 72
abbrev s_law_tree : Stmt := topS 73
abbrev s_law_others : Stmt := topS 74
abbrev s_law_leaf : Stmt := topS 75
abbrev s_law_tour : Stmt := topS 76
abbrev s_law_basis : Stmt := topS 77
abbrev s_law_table : Stmt := topS 78
abbrev s_law_worth : Stmt := topS 79
abbrev s_law_scaled : Stmt := topS 80
abbrev s_law_plain : Stmt := topS 81
abbrev s_law_made : Stmt := topS 82
abbrev s_law_factors : Stmt := topS 83
abbrev s_law_moving : Stmt := topS 84
abbrev s_law_second_table : Stmt := topS 85
abbrev s_law_same_told : Stmt := topS 86
abbrev s_law_leads : Stmt := topS 87
abbrev s_law_other_factors : Stmt := topS 88
abbrev s_law_wrong_row : Stmt := topS 89
abbrev s_law_factors_judged : Stmt := topS 90
abbrev s_law_unlike_judged : Stmt := topS 91
abbrev s_law_verdict_holds : Stmt := topS 92
abbrev s_law_plain_told : Stmt := topS 93
abbrev s_law_spoilt_at : Stmt := topS 94
abbrev s_law_judge_told : Stmt := topS 95
abbrev s_law_refusals_hold : Stmt := topS 96
abbrev s_law : Stmt := topS 97
def CMulZ (i j : Int) : Prop := IntMulOk i j
theorem op_mulZ {X : Cx} : OpR X (binaryOp .Mult) (rI CMulZ fun i j => .int (i * j)) := opI fun _ _ _ _ _ _ _ hc q => mul_int q hc
theorem mulZ_l {i j : Int} (h : -(2 ^ 64) < i ∧ i < 2 ^ 64) : CMulZ i j := CMul.ok (.inl h)
theorem mulZ_r {i j : Int} (h : -(2 ^ 64) < j ∧ j < 2 ^ 64) : CMulZ i j := CMul.ok (.inr h)
theorem mulZ_w {i j : Int} {a b : Nat} (ha : i.natAbs < 2 ^ a) (hb : j.natAbs < 2 ^ b) (h0 : 0 < a) (h1 : 0 < b) (h : a + b ≤ 1000000) : CMulZ i j := CMulW.ok (wide_mul ha hb h0 h1 h)
theorem divZ_small {i j : Int} (h : j ≠ 0) (hb : j.natAbs < 18446744073709551616) : CDivZ i j := divZ_ok (b := 64) h (by simpa using hb) (by decide) (by decide)
abbrev ga (K : PySem.W.Frag) (x : Str) : Addr := He.ga K x
abbrev ma (K : PySem.W.Frag) (C m : Str) : Addr := He.ma K (He.ga K C) m
structure Txt (K : PySem.W.Frag) (mg : Str → Option Value) : Prop where
  d_common_divisor : DefAt K mg "common_divisor" s_common_divisor ["one", "other"]
  d_power_of : DefAt K mg "power_of" s_power_of ["base", "exponent"]
  d_tree_places : DefAt K mg "tree_places" s_tree_places ["picture"]
  d_other_places : DefAt K mg "other_places" s_other_places ["picture"]
  d_completed_tour : DefAt K mg "completed_tour" s_completed_tour ["picture", "tree", "numbers"]
  d_meets_end : DefAt K mg "meets_end" s_meets_end ["pair", "end"]
  d_loose_ends : DefAt K mg "loose_ends" s_loose_ends ["picture", "left", "place"]
  d_tour_of : DefAt K mg "tour_of" s_tour_of ["picture", "row"]
  d_basis_tours : DefAt K mg "basis_tours" s_basis_tours ["picture"]
  d_is_prime : DefAt K mg "is_prime" s_is_prime ["number"]
  d_rest_power : DefAt K mg "rest_power" s_rest_power ["number", "exponent", "prime"]
  d_lowest_terms : DefAt K mg "lowest_terms" s_lowest_terms ["top", "bottom"]
  d_is_factor : DefAt K mg "is_factor" s_is_factor ["field", "thing"]
  d_factors_place : DefAt K mg "factors_place" s_factors_place ["field", "things", "many"]
  d_check_table : DefAt K mg "check_table" s_check_table ["field", "picture", "table"]
  d_plain_worth : DefAt K mg "plain_worth" s_plain_worth ["field", "table", "tour"]
  d_basis_worths : DefAt K mg "basis_worths" s_basis_worths ["field", "picture", "table"]
  d_scaled_table : DefAt K mg "scaled_table" s_scaled_table ["field", "picture", "table", "point_factors", "wall_factors"]
  d_table_of : DefAt K mg "table_of" s_table_of ["field", "picture", "numbers"]
  d_spread_factors : DefAt K mg "spread_factors" s_spread_factors ["field", "picture", "quotients", "points", "walls"]
  d_same_figure : DefAt K mg "same_figure" s_same_figure ["field", "picture", "one", "other"]
  d_factors_fault : DefAt K mg "factors_fault" s_factors_fault ["field", "picture", "one", "other", "factors"]
  d_unlike_fault : DefAt K mg "unlike_fault" s_unlike_fault ["field", "picture", "one", "other", "unlike"]
  d_same_numbers : DefAt K mg "same_numbers" s_same_numbers ["field", "thing", "number"]
  d_plain_form : DefAt K mg "plain_form" s_plain_form ["field", "picture", "table"]
  d_is_couple : DefAt K mg "is_couple" s_is_couple ["points", "walls", "thing"]
  d_law_mixed : DefAt K mg "_law_mixed" s_law_mixed ["_law_number_here", "_law_turn"]
  d_law_hand : DefAt K mg "_law_hand" s_law_hand ["_law_script"]
  d_law_draw : DefAt K mg "_law_draw" s_law_draw ["_law_hand_here", "_law_many"]
  d_law_whole : DefAt K mg "_law_whole" s_law_whole ["_law_thing"]
  d_law_given : DefAt K mg "_law_given" s_law_given ["_law_hand_here", "_law_things"]
  d_law_divisor : DefAt K mg "_law_divisor" s_law_divisor ["_law_one_here", "_law_other"]
  d_law_lowest : DefAt K mg "_law_lowest" s_law_lowest ["_law_top", "_law_bottom"]
  d_law_prime : DefAt K mg "_law_prime" s_law_prime ["_law_number_here"]
  d_law_next_prime : DefAt K mg "_law_next_prime" s_law_next_prime ["_law_number_here"]
  d_law_field : DefAt K mg "_law_field" s_law_field ["_law_hand_here"]
  d_law_made_field : DefAt K mg "_law_made_field" s_law_made_field ["_law_prime_here"]
  d_law_one : DefAt K mg "_law_one" s_law_one ["_law_prime_here"]
  d_law_minus : DefAt K mg "_law_minus" s_law_minus ["_law_prime_here"]
  d_law_times : DefAt K mg "_law_times" s_law_times ["_law_prime_here", "_law_a", "_law_b"]
  d_law_power : DefAt K mg "_law_power" s_law_power ["_law_prime_here", "_law_a", "_law_exponent"]
  d_law_number : DefAt K mg "_law_number" s_law_number ["_law_hand_here", "_law_prime_here"]
  d_law_is_number : DefAt K mg "_law_is_number" s_law_is_number ["_law_prime_here", "_law_thing"]
  d_law_same : DefAt K mg "_law_same" s_law_same ["_law_prime_here", "_law_thing", "_law_due"]
  d_law_same_row : DefAt K mg "_law_same_row" s_law_same_row ["_law_prime_here", "_law_thing", "_law_due"]
  d_law_odd : DefAt K mg "_law_odd" s_law_odd ["_law_hand_here", "_law_prime_here"]
  d_law_picture : DefAt K mg "_law_picture" s_law_picture ["_law_hand_here", "_law_high"]
  d_law_tree : DefAt K mg "_law_tree" s_law_tree ["_law_picture_here"]
  d_law_others : DefAt K mg "_law_others" s_law_others ["_law_picture_here"]
  d_law_leaf : DefAt K mg "_law_leaf" s_law_leaf ["_law_pairs", "_law_left"]
  d_law_tour : DefAt K mg "_law_tour" s_law_tour ["_law_picture_here", "_law_row"]
  d_law_basis : DefAt K mg "_law_basis" s_law_basis ["_law_picture_here"]
  d_law_table : DefAt K mg "_law_table" s_law_table ["_law_hand_here", "_law_prime_here", "_law_many"]
  d_law_worth : DefAt K mg "_law_worth" s_law_worth ["_law_prime_here", "_law_table_here", "_law_tour_here"]
  d_law_scaled : DefAt K mg "_law_scaled" s_law_scaled ["_law_prime_here", "_law_picture_here", "_law_table_here", "_law_points", "_law_shuts"]
  d_law_plain : DefAt K mg "_law_plain" s_law_plain ["_law_prime_here", "_law_picture_here", "_law_table_here"]
  d_law_made : DefAt K mg "_law_made" s_law_made ["_law_hand_here", "_law_picture_here"]
  d_law_factors : DefAt K mg "_law_factors" s_law_factors ["_law_hand_here", "_law_prime_here", "_law_many"]
  d_law_moving : DefAt K mg "_law_moving" s_law_moving ["_law_hand_here", "_law_prime_here"]
  d_law_second_table : DefAt K mg "_law_second_table" s_law_second_table ["_law_hand_here", "_law_prime_here", "_law_picture_here", "_law_table_here"]
  d_law_same_told : DefAt K mg "_law_same_told" s_law_same_told ["_law_field_here", "_law_made_here", "_law_one_here", "_law_other"]
  d_law_leads : DefAt K mg "_law_leads" s_law_leads ["_law_prime_here", "_law_picture_here", "_law_one_here", "_law_other", "_law_told"]
  d_law_other_factors : DefAt K mg "_law_other_factors" s_law_other_factors ["_law_hand_here", "_law_prime_here", "_law_picture_here", "_law_points", "_law_shuts"]
  d_law_wrong_row : DefAt K mg "_law_wrong_row" s_law_wrong_row ["_law_hand_here", "_law_prime_here", "_law_row"]
  d_law_factors_judged : DefAt K mg "_law_factors_judged" s_law_factors_judged ["_law_hand_here", "_law_field_here", "_law_prime_here", "_law_picture_here", "_law_made_here", "_law_one_here", "_law_other", "_law_points", "_law_shuts"]
  d_law_unlike_judged : DefAt K mg "_law_unlike_judged" s_law_unlike_judged ["_law_hand_here", "_law_field_here", "_law_prime_here", "_law_made_here", "_law_one_here", "_law_other", "_law_ours", "_law_theirs"]
  d_law_verdict_holds : DefAt K mg "_law_verdict_holds" s_law_verdict_holds ["_law_hand_here", "_law_field_here", "_law_prime_here", "_law_picture_here", "_law_made_here", "_law_one_here", "_law_other", "_law_judged"]
  d_law_plain_told : DefAt K mg "_law_plain_told" s_law_plain_told ["_law_field_here", "_law_made_here", "_law_table_here"]
  d_law_spoilt_at : DefAt K mg "_law_spoilt_at" s_law_spoilt_at ["_law_hand_here", "_law_prime_here", "_law_table_here", "_law_at"]
  d_law_judge_told : DefAt K mg "_law_judge_told" s_law_judge_told ["_law_which", "_law_field_here", "_law_made_here", "_law_one_here", "_law_other"]
  d_law_refusals_hold : DefAt K mg "_law_refusals_hold" s_law_refusals_hold ["_law_hand_here", "_law_field_here", "_law_prime_here", "_law_made_here", "_law_one_here", "_law_other"]
  d_law : DefAt K mg "law" s_law ["_law_script"]
  d_is_whole : ∃ fd, FunD K "is_whole" "is_whole" (defArgs s_is_whole) (defBody s_is_whole) (defScope s_is_whole) [.non, .non] [] (ga K "is_whole") fd
  g_is_whole : mg "is_whole" = some (.ref (ga K "is_whole"))
  f_RestField_init : ∃ fd, L2.Fun K "__init__" "RestField.__init__" s_RestField_init (ma K "RestField" "__init__") fd ∧ Binds K fd ["self", "prime"] []
  f_RestField_check_number : ∃ fd, L2.Fun K "check_number" "RestField.check_number" s_RestField_check_number (ma K "RestField" "check_number") fd ∧ Binds K fd ["self", "number"] []
  f_RestField_times : ∃ fd, L2.Fun K "times" "RestField.times" s_RestField_times (ma K "RestField" "times") fd ∧ Binds K fd ["self", "one", "other"] []
  f_RestField_quotient : ∃ fd, L2.Fun K "quotient" "RestField.quotient" s_RestField_quotient (ma K "RestField" "quotient") fd ∧ Binds K fd ["self", "one", "other"] []
  f_RestField_power : ∃ fd, L2.Fun K "power" "RestField.power" s_RestField_power (ma K "RestField" "power") fd ∧ Binds K fd ["self", "number", "exponent"] []
  f_FractionField_init : ∃ fd, L2.Fun K "__init__" "FractionField.__init__" s_FractionField_init (ma K "FractionField" "__init__") fd ∧ Binds K fd ["self"] []
  f_FractionField_check_number : ∃ fd, L2.Fun K "check_number" "FractionField.check_number" s_FractionField_check_number (ma K "FractionField" "check_number") fd ∧ Binds K fd ["self", "number"] []
  f_FractionField_times : ∃ fd, L2.Fun K "times" "FractionField.times" s_FractionField_times (ma K "FractionField" "times") fd ∧ Binds K fd ["self", "one", "other"] []
  f_FractionField_quotient : ∃ fd, L2.Fun K "quotient" "FractionField.quotient" s_FractionField_quotient (ma K "FractionField" "quotient") fd ∧ Binds K fd ["self", "one", "other"] []
  f_FractionField_power : ∃ fd, L2.Fun K "power" "FractionField.power" s_FractionField_power (ma K "FractionField" "power") fd ∧ Binds K fd ["self", "number", "exponent"] []
  f_Factors_init : ∃ fd, L2.Fun K "__init__" "Factors.__init__" s_Factors_init (ma K "Factors" "__init__") fd ∧ Binds K fd ["self", "points", "walls"] []
  f_Factors_eq : ∃ fd, L2.Fun K "__eq__" "Factors.__eq__" s_Factors_eq (ma K "Factors" "__eq__") fd ∧ Binds K fd ["self", "other"] []
  f_Unlike_init : ∃ fd, L2.Fun K "__init__" "Unlike.__init__" s_Unlike_init (ma K "Unlike" "__init__") fd ∧ Binds K fd ["self", "place", "first", "second"] []
  f_Unlike_eq : ∃ fd, L2.Fun K "__eq__" "Unlike.__eq__" s_Unlike_eq (ma K "Unlike" "__eq__") fd ∧ Binds K fd ["self", "other"] []
  f_Picture_init : ∃ fd, L2.Fun K "__init__" "Picture.__init__" s_Picture_init (ma K "Picture" "__init__") fd ∧ Binds K fd ["self", "points", "walls", "pairs"] []
  f_BadNumber_init : ∃ fd, L2.Fun K "__init__" "BadNumber.__init__" s_BadNumber_init (ma K "BadNumber" "__init__") fd ∧ Binds K fd ["self"] []
  f_BadTable_init : ∃ fd, L2.Fun K "__init__" "BadTable.__init__" s_BadTable_init (ma K "BadTable" "__init__") fd ∧ Binds K fd ["self", "index"] []
  f_BadFactors_init : ∃ fd, L2.Fun K "__init__" "BadFactors.__init__" s_BadFactors_init (ma K "BadFactors" "__init__") fd ∧ Binds K fd ["self", "what", "index"] []
  g_RestField : mg "RestField" = some (.ref (ga K "RestField"))
  g_FractionField : mg "FractionField" = some (.ref (ga K "FractionField"))
  g_Factors : mg "Factors" = some (.ref (ga K "Factors"))
  g_Unlike : mg "Unlike" = some (.ref (ga K "Unlike"))
  g_Picture : mg "Picture" = some (.ref (ga K "Picture"))
  g_BadNumber : mg "BadNumber" = some (.ref (ga K "BadNumber"))
  g_BadTable : mg "BadTable" = some (.ref (ga K "BadTable"))
  g_BadFactors : mg "BadFactors" = some (.ref (ga K "BadFactors"))
  g_SheetError : mg "SheetError" = some (.ref (ga K "SheetError"))
  cl_RestField : Cls K (ga K "RestField")
  mk_RestField : Mk K (ga K "RestField") (ma K "RestField" "__init__")
  in_RestField : C8.InsC K (ga K "RestField")
  na_RestField_prime : NoAttr K (ga K "RestField") "prime"
  na_RestField_zero : NoAttr K (ga K "RestField") "zero"
  na_RestField_one : NoAttr K (ga K "RestField") "one"
  na_RestField_minus_one : NoAttr K (ga K "RestField") "minus_one"
  cl_FractionField : Cls K (ga K "FractionField")
  mk_FractionField : Mk K (ga K "FractionField") (ma K "FractionField" "__init__")
  in_FractionField : C8.InsC K (ga K "FractionField")
  na_FractionField_zero : NoAttr K (ga K "FractionField") "zero"
  na_FractionField_one : NoAttr K (ga K "FractionField") "one"
  na_FractionField_minus_one : NoAttr K (ga K "FractionField") "minus_one"
  cl_Factors : Cls K (ga K "Factors")
  mk_Factors : Mk K (ga K "Factors") (ma K "Factors" "__init__")
  in_Factors : C8.InsC K (ga K "Factors")
  na_Factors_points : NoAttr K (ga K "Factors") "points"
  na_Factors_walls : NoAttr K (ga K "Factors") "walls"
  cl_Unlike : Cls K (ga K "Unlike")
  mk_Unlike : Mk K (ga K "Unlike") (ma K "Unlike" "__init__")
  in_Unlike : C8.InsC K (ga K "Unlike")
  na_Unlike_place : NoAttr K (ga K "Unlike") "place"
  na_Unlike_first : NoAttr K (ga K "Unlike") "first"
  na_Unlike_second : NoAttr K (ga K "Unlike") "second"
  cl_Picture : Cls K (ga K "Picture")
  mk_Picture : Mk K (ga K "Picture") (ma K "Picture" "__init__")
  in_Picture : C8.InsC K (ga K "Picture")
  na_Picture_points : NoAttr K (ga K "Picture") "points"
  na_Picture_walls : NoAttr K (ga K "Picture") "walls"
  na_Picture_pairs : NoAttr K (ga K "Picture") "pairs"
  m_RestField_check_number : Meth K (ga K "RestField") "check_number" (ma K "RestField" "check_number")
  m_RestField_times : Meth K (ga K "RestField") "times" (ma K "RestField" "times")
  m_RestField_quotient : Meth K (ga K "RestField") "quotient" (ma K "RestField" "quotient")
  m_RestField_power : Meth K (ga K "RestField") "power" (ma K "RestField" "power")
  m_FractionField_check_number : Meth K (ga K "FractionField") "check_number" (ma K "FractionField" "check_number")
  m_FractionField_times : Meth K (ga K "FractionField") "times" (ma K "FractionField" "times")
  m_FractionField_quotient : Meth K (ga K "FractionField") "quotient" (ma K "FractionField" "quotient")
  m_FractionField_power : Meth K (ga K "FractionField") "power" (ma K "FractionField" "power")
  m_Factors_eq : Meth K (ga K "Factors") "__eq__" (ma K "Factors" "__eq__")
  m_Unlike_eq : Meth K (ga K "Unlike") "__eq__" (ma K "Unlike" "__eq__")
  ki_FractionField_RestField : PySem.W.kitOne K (.ref (ga K "FractionField")) (.ref (ga K "RestField")) = some false
  ki_Factors_Unlike : PySem.W.kitOne K (.ref (ga K "Factors")) (.ref (ga K "Unlike")) = some false
  ki_Unlike_Factors : PySem.W.kitOne K (.ref (ga K "Unlike")) (.ref (ga K "Factors")) = some false
  b_len : mg "len" = none
  b_abs : mg "abs" = none
  b_int : mg "int" = none
  b_bool : mg "bool" = none
  b_list : mg "list" = none
  b_tuple : mg "tuple" = none
  b_str : mg "str" = none
  b_min : mg "min" = none
  b_sum : mg "sum" = none
  b_any : mg "any" = none
  b_all : mg "all" = none
  b_divmod : mg "divmod" = none
  b_isinstance : mg "isinstance" = none
  b_set : mg "set" = none
  b_sorted : mg "sorted" = none
  b_range : mg "range" = none
  b_zip : mg "zip" = none
  b_enumerate : mg "enumerate" = none
  b_ValueError : mg "ValueError" = none
  g_MOST_PRIME : ∃ u, mg "MOST_PRIME" = some u ∧ RelV (.int 20000) u
  rd_SheetError : PySem.W.readsIn K (ga K "SheetError") (.type "type") = true
  sg_SheetError : PySem.W.specialIn K (.ref (ga K "SheetError")) "__getattribute__" = some (some (.builtin "type.__getattribute__"))
  ty_SheetError : PySem.W.typeIn K (.ref (ga K "SheetError")) = some (.type "type")
  vi_SheetError : PySem.W.findCls K (.ref (ga K "SheetError")) (.type "type") "__init__" = some (.val (.builtin "ValueError.__init__"))
  ox_BadNumber : OexC K (ga K "BadNumber")
  xf_BadNumber : XfC K (ga K "BadNumber")
  ii_BadNumber : PySem.W.findIn K (.ref (ga K "BadNumber")) "__init__" = some (some (.ref (ma K "BadNumber" "__init__")))
  it_BadNumber : PySem.W.typeIn K (.ref (ma K "BadNumber" "__init__")) = some (.type "function")
  xm_BadNumber : PySem.W.exmOne K (.ref (ga K "BadNumber")) (.ref (ga K "BadNumber")) = some true
  ox_BadTable : OexC K (ga K "BadTable")
  xf_BadTable : XfC K (ga K "BadTable")
  ii_BadTable : PySem.W.findIn K (.ref (ga K "BadTable")) "__init__" = some (some (.ref (ma K "BadTable" "__init__")))
  it_BadTable : PySem.W.typeIn K (.ref (ma K "BadTable" "__init__")) = some (.type "function")
  xm_BadTable : PySem.W.exmOne K (.ref (ga K "BadTable")) (.ref (ga K "BadTable")) = some true
  na_BadTable_index : PySem.W.findIn K (.ref (ga K "BadTable")) "index" = some none
  ox_BadFactors : OexC K (ga K "BadFactors")
  xf_BadFactors : XfC K (ga K "BadFactors")
  ii_BadFactors : PySem.W.findIn K (.ref (ga K "BadFactors")) "__init__" = some (some (.ref (ma K "BadFactors" "__init__")))
  it_BadFactors : PySem.W.typeIn K (.ref (ma K "BadFactors" "__init__")) = some (.type "function")
  xm_BadFactors : PySem.W.exmOne K (.ref (ga K "BadFactors")) (.ref (ga K "BadFactors")) = some true
  na_BadFactors_what : PySem.W.findIn K (.ref (ga K "BadFactors")) "what" = some none
  na_BadFactors_index : PySem.W.findIn K (.ref (ga K "BadFactors")) "index" = some none
end K6
/-! text V0 -/
set_option Elab.async false
set_option linter.all false
set_option maxRecDepth 100000
set_option maxHeartbeats 0
namespace K6
open PySem L2 K3 PySem.Spec PyProof.Rows
/-! ### the functions that the top makes -/
def dd_common_divisor : He.DefD := ⟨("common_divisor", none), "common_divisor", "common_divisor", defArgs s_common_divisor, defBody s_common_divisor, defScope s_common_divisor, [], []⟩
def dd_power_of : He.DefD := ⟨("power_of", none), "power_of", "power_of", defArgs s_power_of, defBody s_power_of, defScope s_power_of, [], []⟩
def dd_tree_places : He.DefD := ⟨("tree_places", none), "tree_places", "tree_places", defArgs s_tree_places, defBody s_tree_places, defScope s_tree_places, [], []⟩
def dd_other_places : He.DefD := ⟨("other_places", none), "other_places", "other_places", defArgs s_other_places, defBody s_other_places, defScope s_other_places, [], []⟩
def dd_completed_tour : He.DefD := ⟨("completed_tour", none), "completed_tour", "completed_tour", defArgs s_completed_tour, defBody s_completed_tour, defScope s_completed_tour, [], []⟩
def dd_meets_end : He.DefD := ⟨("meets_end", none), "meets_end", "meets_end", defArgs s_meets_end, defBody s_meets_end, defScope s_meets_end, [], []⟩
def dd_loose_ends : He.DefD := ⟨("loose_ends", none), "loose_ends", "loose_ends", defArgs s_loose_ends, defBody s_loose_ends, defScope s_loose_ends, [], []⟩
def dd_tour_of : He.DefD := ⟨("tour_of", none), "tour_of", "tour_of", defArgs s_tour_of, defBody s_tour_of, defScope s_tour_of, [], []⟩
def dd_basis_tours : He.DefD := ⟨("basis_tours", none), "basis_tours", "basis_tours", defArgs s_basis_tours, defBody s_basis_tours, defScope s_basis_tours, [], []⟩
def dd_is_prime : He.DefD := ⟨("is_prime", none), "is_prime", "is_prime", defArgs s_is_prime, defBody s_is_prime, defScope s_is_prime, [], []⟩
def dd_rest_power : He.DefD := ⟨("rest_power", none), "rest_power", "rest_power", defArgs s_rest_power, defBody s_rest_power, defScope s_rest_power, [], []⟩
def dd_lowest_terms : He.DefD := ⟨("lowest_terms", none), "lowest_terms", "lowest_terms", defArgs s_lowest_terms, defBody s_lowest_terms, defScope s_lowest_terms, [], []⟩
def dd_is_factor : He.DefD := ⟨("is_factor", none), "is_factor", "is_factor", defArgs s_is_factor, defBody s_is_factor, defScope s_is_factor, [], []⟩
def dd_factors_place : He.DefD := ⟨("factors_place", none), "factors_place", "factors_place", defArgs s_factors_place, defBody s_factors_place, defScope s_factors_place, [], []⟩
def dd_check_table : He.DefD := ⟨("check_table", none), "check_table", "check_table", defArgs s_check_table, defBody s_check_table, defScope s_check_table, [], []⟩
def dd_plain_worth : He.DefD := ⟨("plain_worth", none), "plain_worth", "plain_worth", defArgs s_plain_worth, defBody s_plain_worth, defScope s_plain_worth, [], []⟩
def dd_basis_worths : He.DefD := ⟨("basis_worths", none), "basis_worths", "basis_worths", defArgs s_basis_worths, defBody s_basis_worths, defScope s_basis_worths, [], []⟩
def dd_scaled_table : He.DefD := ⟨("scaled_table", none), "scaled_table", "scaled_table", defArgs s_scaled_table, defBody s_scaled_table, defScope s_scaled_table, [], []⟩
def dd_table_of : He.DefD := ⟨("table_of", none), "table_of", "table_of", defArgs s_table_of, defBody s_table_of, defScope s_table_of, [], []⟩
def dd_spread_factors : He.DefD := ⟨("spread_factors", none), "spread_factors", "spread_factors", defArgs s_spread_factors, defBody s_spread_factors, defScope s_spread_factors, [], []⟩
def dd_same_figure : He.DefD := ⟨("same_figure", none), "same_figure", "same_figure", defArgs s_same_figure, defBody s_same_figure, defScope s_same_figure, [], []⟩
def dd_factors_fault : He.DefD := ⟨("factors_fault", none), "factors_fault", "factors_fault", defArgs s_factors_fault, defBody s_factors_fault, defScope s_factors_fault, [], []⟩
def dd_unlike_fault : He.DefD := ⟨("unlike_fault", none), "unlike_fault", "unlike_fault", defArgs s_unlike_fault, defBody s_unlike_fault, defScope s_unlike_fault, [], []⟩
def dd_same_numbers : He.DefD := ⟨("same_numbers", none), "same_numbers", "same_numbers", defArgs s_same_numbers, defBody s_same_numbers, defScope s_same_numbers, [], []⟩
def dd_plain_form : He.DefD := ⟨("plain_form", none), "plain_form", "plain_form", defArgs s_plain_form, defBody s_plain_form, defScope s_plain_form, [], []⟩
def dd_is_couple : He.DefD := ⟨("is_couple", none), "is_couple", "is_couple", defArgs s_is_couple, defBody s_is_couple, defScope s_is_couple, [], []⟩
def dd_law_mixed : He.DefD := ⟨("_law_mixed", none), "_law_mixed", "_law_mixed", defArgs s_law_mixed, defBody s_law_mixed, defScope s_law_mixed, [], []⟩
def dd_law_hand : He.DefD := ⟨("_law_hand", none), "_law_hand", "_law_hand", defArgs s_law_hand, defBody s_law_hand, defScope s_law_hand, [], []⟩
def dd_law_draw : He.DefD := ⟨("_law_draw", none), "_law_draw", "_law_draw", defArgs s_law_draw, defBody s_law_draw, defScope s_law_draw, [], []⟩
def dd_law_whole : He.DefD := ⟨("_law_whole", none), "_law_whole", "_law_whole", defArgs s_law_whole, defBody s_law_whole, defScope s_law_whole, [], []⟩
def dd_law_given : He.DefD := ⟨("_law_given", none), "_law_given", "_law_given", defArgs s_law_given, defBody s_law_given, defScope s_law_given, [], []⟩
def dd_law_divisor : He.DefD := ⟨("_law_divisor", none), "_law_divisor", "_law_divisor", defArgs s_law_divisor, defBody s_law_divisor, defScope s_law_divisor, [], []⟩
def dd_law_lowest : He.DefD := ⟨("_law_lowest", none), "_law_lowest", "_law_lowest", defArgs s_law_lowest, defBody s_law_lowest, defScope s_law_lowest, [], []⟩
def dd_law_prime : He.DefD := ⟨("_law_prime", none), "_law_prime", "_law_prime", defArgs s_law_prime, defBody s_law_prime, defScope s_law_prime, [], []⟩
def dd_law_next_prime : He.DefD := ⟨("_law_next_prime", none), "_law_next_prime", "_law_next_prime", defArgs s_law_next_prime, defBody s_law_next_prime, defScope s_law_next_prime, [], []⟩
def dd_law_field : He.DefD := ⟨("_law_field", none), "_law_field", "_law_field", defArgs s_law_field, defBody s_law_field, defScope s_law_field, [], []⟩
def dd_law_made_field : He.DefD := ⟨("_law_made_field", none), "_law_made_field", "_law_made_field", defArgs s_law_made_field, defBody s_law_made_field, defScope s_law_made_field, [], []⟩
def dd_law_one : He.DefD := ⟨("_law_one", none), "_law_one", "_law_one", defArgs s_law_one, defBody s_law_one, defScope s_law_one, [], []⟩
def dd_law_minus : He.DefD := ⟨("_law_minus", none), "_law_minus", "_law_minus", defArgs s_law_minus, defBody s_law_minus, defScope s_law_minus, [], []⟩
def dd_law_times : He.DefD := ⟨("_law_times", none), "_law_times", "_law_times", defArgs s_law_times, defBody s_law_times, defScope s_law_times, [], []⟩
def dd_law_power : He.DefD := ⟨("_law_power", none), "_law_power", "_law_power", defArgs s_law_power, defBody s_law_power, defScope s_law_power, [], []⟩
def dd_law_number : He.DefD := ⟨("_law_number", none), "_law_number", "_law_number", defArgs s_law_number, defBody s_law_number, defScope s_law_number, [], []⟩
def dd_law_is_number : He.DefD := ⟨("_law_is_number", none), "_law_is_number", "_law_is_number", defArgs s_law_is_number, defBody s_law_is_number, defScope s_law_is_number, [], []⟩
def dd_law_same : He.DefD := ⟨("_law_same", none), "_law_same", "_law_same", defArgs s_law_same, defBody s_law_same, defScope s_law_same, [], []⟩
def dd_law_same_row : He.DefD := ⟨("_law_same_row", none), "_law_same_row", "_law_same_row", defArgs s_law_same_row, defBody s_law_same_row, defScope s_law_same_row, [], []⟩
def dd_law_odd : He.DefD := ⟨("_law_odd", none), "_law_odd", "_law_odd", defArgs s_law_odd, defBody s_law_odd, defScope s_law_odd, [], []⟩
def dd_law_picture : He.DefD := ⟨("_law_picture", none), "_law_picture", "_law_picture", defArgs s_law_picture, defBody s_law_picture, defScope s_law_picture, [], []⟩
def dd_law_tree : He.DefD := ⟨("_law_tree", none), "_law_tree", "_law_tree", defArgs s_law_tree, defBody s_law_tree, defScope s_law_tree, [], []⟩
def dd_law_others : He.DefD := ⟨("_law_others", none), "_law_others", "_law_others", defArgs s_law_others, defBody s_law_others, defScope s_law_others, [], []⟩
def dd_law_leaf : He.DefD := ⟨("_law_leaf", none), "_law_leaf", "_law_leaf", defArgs s_law_leaf, defBody s_law_leaf, defScope s_law_leaf, [], []⟩
def dd_law_tour : He.DefD := ⟨("_law_tour", none), "_law_tour", "_law_tour", defArgs s_law_tour, defBody s_law_tour, defScope s_law_tour, [], []⟩
def dd_law_basis : He.DefD := ⟨("_law_basis", none), "_law_basis", "_law_basis", defArgs s_law_basis, defBody s_law_basis, defScope s_law_basis, [], []⟩
def dd_law_table : He.DefD := ⟨("_law_table", none), "_law_table", "_law_table", defArgs s_law_table, defBody s_law_table, defScope s_law_table, [], []⟩
def dd_law_worth : He.DefD := ⟨("_law_worth", none), "_law_worth", "_law_worth", defArgs s_law_worth, defBody s_law_worth, defScope s_law_worth, [], []⟩
def dd_law_scaled : He.DefD := ⟨("_law_scaled", none), "_law_scaled", "_law_scaled", defArgs s_law_scaled, defBody s_law_scaled, defScope s_law_scaled, [], []⟩
def dd_law_plain : He.DefD := ⟨("_law_plain", none), "_law_plain", "_law_plain", defArgs s_law_plain, defBody s_law_plain, defScope s_law_plain, [], []⟩
def dd_law_made : He.DefD := ⟨("_law_made", none), "_law_made", "_law_made", defArgs s_law_made, defBody s_law_made, defScope s_law_made, [], []⟩
def dd_law_factors : He.DefD := ⟨("_law_factors", none), "_law_factors", "_law_factors", defArgs s_law_factors, defBody s_law_factors, defScope s_law_factors, [], []⟩
def dd_law_moving : He.DefD := ⟨("_law_moving", none), "_law_moving", "_law_moving", defArgs s_law_moving, defBody s_law_moving, defScope s_law_moving, [], []⟩
def dd_law_second_table : He.DefD := ⟨("_law_second_table", none), "_law_second_table", "_law_second_table", defArgs s_law_second_table, defBody s_law_second_table, defScope s_law_second_table, [], []⟩
def dd_law_same_told : He.DefD := ⟨("_law_same_told", none), "_law_same_told", "_law_same_told", defArgs s_law_same_told, defBody s_law_same_told, defScope s_law_same_told, [], []⟩
def dd_law_leads : He.DefD := ⟨("_law_leads", none), "_law_leads", "_law_leads", defArgs s_law_leads, defBody s_law_leads, defScope s_law_leads, [], []⟩
def dd_law_other_factors : He.DefD := ⟨("_law_other_factors", none), "_law_other_factors", "_law_other_factors", defArgs s_law_other_factors, defBody s_law_other_factors, defScope s_law_other_factors, [], []⟩
def dd_law_wrong_row : He.DefD := ⟨("_law_wrong_row", none), "_law_wrong_row", "_law_wrong_row", defArgs s_law_wrong_row, defBody s_law_wrong_row, defScope s_law_wrong_row, [], []⟩
def dd_law_factors_judged : He.DefD := ⟨("_law_factors_judged", none), "_law_factors_judged", "_law_factors_judged", defArgs s_law_factors_judged, defBody s_law_factors_judged, defScope s_law_factors_judged, [], []⟩
def dd_law_unlike_judged : He.DefD := ⟨("_law_unlike_judged", none), "_law_unlike_judged", "_law_unlike_judged", defArgs s_law_unlike_judged, defBody s_law_unlike_judged, defScope s_law_unlike_judged, [], []⟩
def dd_law_verdict_holds : He.DefD := ⟨("_law_verdict_holds", none), "_law_verdict_holds", "_law_verdict_holds", defArgs s_law_verdict_holds, defBody s_law_verdict_holds, defScope s_law_verdict_holds, [], []⟩
def dd_law_plain_told : He.DefD := ⟨("_law_plain_told", none), "_law_plain_told", "_law_plain_told", defArgs s_law_plain_told, defBody s_law_plain_told, defScope s_law_plain_told, [], []⟩
def dd_law_spoilt_at : He.DefD := ⟨("_law_spoilt_at", none), "_law_spoilt_at", "_law_spoilt_at", defArgs s_law_spoilt_at, defBody s_law_spoilt_at, defScope s_law_spoilt_at, [], []⟩
def dd_law_judge_told : He.DefD := ⟨("_law_judge_told", none), "_law_judge_told", "_law_judge_told", defArgs s_law_judge_told, defBody s_law_judge_told, defScope s_law_judge_told, [], []⟩
def dd_law_refusals_hold : He.DefD := ⟨("_law_refusals_hold", none), "_law_refusals_hold", "_law_refusals_hold", defArgs s_law_refusals_hold, defBody s_law_refusals_hold, defScope s_law_refusals_hold, [], []⟩
def dd_law : He.DefD := ⟨("law", none), "law", "law", defArgs s_law, defBody s_law, defScope s_law, [], []⟩
def dd_is_whole : He.DefD := ⟨("is_whole", none), "is_whole", "is_whole", defArgs s_is_whole, defBody s_is_whole, defScope s_is_whole, [.non, .non], []⟩
def dd_RestField_init : He.DefD := ⟨("RestField", some "__init__"), "__init__", "RestField.__init__", defArgs s_RestField_init, defBody s_RestField_init, defScope s_RestField_init, [], []⟩
def dd_RestField_check_number : He.DefD := ⟨("RestField", some "check_number"), "check_number", "RestField.check_number", defArgs s_RestField_check_number, defBody s_RestField_check_number, defScope s_RestField_check_number, [], []⟩
def dd_RestField_times : He.DefD := ⟨("RestField", some "times"), "times", "RestField.times", defArgs s_RestField_times, defBody s_RestField_times, defScope s_RestField_times, [], []⟩
def dd_RestField_quotient : He.DefD := ⟨("RestField", some "quotient"), "quotient", "RestField.quotient", defArgs s_RestField_quotient, defBody s_RestField_quotient, defScope s_RestField_quotient, [], []⟩
def dd_RestField_power : He.DefD := ⟨("RestField", some "power"), "power", "RestField.power", defArgs s_RestField_power, defBody s_RestField_power, defScope s_RestField_power, [], []⟩
def dd_FractionField_init : He.DefD := ⟨("FractionField", some "__init__"), "__init__", "FractionField.__init__", defArgs s_FractionField_init, defBody s_FractionField_init, defScope s_FractionField_init, [], []⟩
def dd_FractionField_check_number : He.DefD := ⟨("FractionField", some "check_number"), "check_number", "FractionField.check_number", defArgs s_FractionField_check_number, defBody s_FractionField_check_number, defScope s_FractionField_check_number, [], []⟩
def dd_FractionField_times : He.DefD := ⟨("FractionField", some "times"), "times", "FractionField.times", defArgs s_FractionField_times, defBody s_FractionField_times, defScope s_FractionField_times, [], []⟩
def dd_FractionField_quotient : He.DefD := ⟨("FractionField", some "quotient"), "quotient", "FractionField.quotient", defArgs s_FractionField_quotient, defBody s_FractionField_quotient, defScope s_FractionField_quotient, [], []⟩
def dd_FractionField_power : He.DefD := ⟨("FractionField", some "power"), "power", "FractionField.power", defArgs s_FractionField_power, defBody s_FractionField_power, defScope s_FractionField_power, [], []⟩
def dd_Factors_init : He.DefD := ⟨("Factors", some "__init__"), "__init__", "Factors.__init__", defArgs s_Factors_init, defBody s_Factors_init, defScope s_Factors_init, [], []⟩
def dd_Factors_eq : He.DefD := ⟨("Factors", some "__eq__"), "__eq__", "Factors.__eq__", defArgs s_Factors_eq, defBody s_Factors_eq, defScope s_Factors_eq, [], []⟩
def dd_Unlike_init : He.DefD := ⟨("Unlike", some "__init__"), "__init__", "Unlike.__init__", defArgs s_Unlike_init, defBody s_Unlike_init, defScope s_Unlike_init, [], []⟩
def dd_Unlike_eq : He.DefD := ⟨("Unlike", some "__eq__"), "__eq__", "Unlike.__eq__", defArgs s_Unlike_eq, defBody s_Unlike_eq, defScope s_Unlike_eq, [], []⟩
def dd_Picture_init : He.DefD := ⟨("Picture", some "__init__"), "__init__", "Picture.__init__", defArgs s_Picture_init, defBody s_Picture_init, defScope s_Picture_init, [], []⟩
def dd_BadNumber_init : He.DefD := ⟨("BadNumber", some "__init__"), "__init__", "BadNumber.__init__", defArgs s_BadNumber_init, defBody s_BadNumber_init, defScope s_BadNumber_init, [], []⟩
def dd_BadTable_init : He.DefD := ⟨("BadTable", some "__init__"), "__init__", "BadTable.__init__", defArgs s_BadTable_init, defBody s_BadTable_init, defScope s_BadTable_init, [], []⟩
def dd_BadFactors_init : He.DefD := ⟨("BadFactors", some "__init__"), "__init__", "BadFactors.__init__", defArgs s_BadFactors_init, defBody s_BadFactors_init, defScope s_BadFactors_init, [], []⟩
def fnL0 : List He.DefD := [dd_common_divisor, dd_power_of, dd_tree_places, dd_other_places, dd_completed_tour, dd_meets_end, dd_loose_ends, dd_tour_of, dd_basis_tours, dd_is_prime, dd_rest_power, dd_lowest_terms, dd_is_factor, dd_factors_place, dd_check_table, dd_plain_worth, dd_basis_worths, dd_scaled_table, dd_table_of, dd_spread_factors, dd_same_figure, dd_factors_fault, dd_unlike_fault, dd_same_numbers, dd_plain_form, dd_is_couple, dd_law_mixed, dd_law_hand, dd_law_draw, dd_law_whole]
def fnL1 : List He.DefD := [dd_law_given, dd_law_divisor, dd_law_lowest, dd_law_prime, dd_law_next_prime, dd_law_field, dd_law_made_field, dd_law_one, dd_law_minus, dd_law_times, dd_law_power, dd_law_number, dd_law_is_number, dd_law_same, dd_law_same_row, dd_law_odd, dd_law_picture, dd_law_tree, dd_law_others, dd_law_leaf, dd_law_tour, dd_law_basis, dd_law_table, dd_law_worth, dd_law_scaled, dd_law_plain, dd_law_made, dd_law_factors, dd_law_moving, dd_law_second_table]
def fnL2 : List He.DefD := [dd_law_same_told, dd_law_leads, dd_law_other_factors, dd_law_wrong_row, dd_law_factors_judged, dd_law_unlike_judged, dd_law_verdict_holds, dd_law_plain_told, dd_law_spoilt_at, dd_law_judge_told, dd_law_refusals_hold, dd_law, dd_is_whole, dd_RestField_init, dd_RestField_check_number, dd_RestField_times, dd_RestField_quotient, dd_RestField_power, dd_FractionField_init, dd_FractionField_check_number, dd_FractionField_times, dd_FractionField_quotient, dd_FractionField_power, dd_Factors_init, dd_Factors_eq, dd_Unlike_init, dd_Unlike_eq, dd_Picture_init, dd_BadNumber_init, dd_BadTable_init]
def fnL3 : List He.DefD := [dd_BadFactors_init]
def fnL : List He.DefD := fnL0 ++ fnL1 ++ fnL2 ++ fnL3
def faL0 : List He.Fa := [.glo "common_divisor", .glo "power_of", .glo "tree_places", .glo "other_places", .glo "completed_tour", .glo "meets_end", .glo "loose_ends", .glo "tour_of", .glo "basis_tours", .glo "is_prime", .glo "rest_power", .glo "lowest_terms", .glo "is_factor", .glo "factors_place", .glo "check_table", .glo "plain_worth", .glo "basis_worths", .glo "scaled_table", .glo "table_of", .glo "spread_factors", .glo "same_figure", .glo "factors_fault", .glo "unlike_fault", .glo "same_numbers", .glo "plain_form", .glo "is_couple", .glo "_law_mixed", .glo "_law_hand", .glo "_law_draw", .glo "_law_whole"]
def faL1 : List He.Fa := [.glo "_law_given", .glo "_law_divisor", .glo "_law_lowest", .glo "_law_prime", .glo "_law_next_prime", .glo "_law_field", .glo "_law_made_field", .glo "_law_one", .glo "_law_minus", .glo "_law_times", .glo "_law_power", .glo "_law_number", .glo "_law_is_number", .glo "_law_same", .glo "_law_same_row", .glo "_law_odd", .glo "_law_picture", .glo "_law_tree", .glo "_law_others", .glo "_law_leaf", .glo "_law_tour", .glo "_law_basis", .glo "_law_table", .glo "_law_worth", .glo "_law_scaled", .glo "_law_plain", .glo "_law_made", .glo "_law_factors", .glo "_law_moving", .glo "_law_second_table"]
def faL2 : List He.Fa := [.glo "_law_same_told", .glo "_law_leads", .glo "_law_other_factors", .glo "_law_wrong_row", .glo "_law_factors_judged", .glo "_law_unlike_judged", .glo "_law_verdict_holds", .glo "_law_plain_told", .glo "_law_spoilt_at", .glo "_law_judge_told", .glo "_law_refusals_hold", .glo "law", .glo "is_whole", .glo "RestField", .glo "FractionField", .glo "Factors", .glo "Unlike", .glo "Picture", .glo "BadNumber", .glo "BadTable", .glo "BadFactors", .glo "SheetError", .free "len", .free "abs", .free "int", .free "bool", .free "list", .free "tuple", .free "str", .free "min"]
def faL3 : List He.Fa := [.free "sum", .free "any", .free "all", .free "divmod", .free "isinstance", .free "set", .free "sorted", .free "range", .free "zip", .free "enumerate", .free "ValueError", .int "MOST_PRIME" 20000, .cls "RestField", .mkr "RestField", .noat "RestField" "prime", .noat "RestField" "zero", .noat "RestField" "one", .noat "RestField" "minus_one", .cls "FractionField", .mkr "FractionField", .noat "FractionField" "zero", .noat "FractionField" "one", .noat "FractionField" "minus_one", .cls "Factors", .mkr "Factors", .noat "Factors" "points", .noat "Factors" "walls", .cls "Unlike", .mkr "Unlike", .noat "Unlike" "place"]
def faL4 : List He.Fa := [.noat "Unlike" "first", .noat "Unlike" "second", .cls "Picture", .mkr "Picture", .noat "Picture" "points", .noat "Picture" "walls", .noat "Picture" "pairs", .meth "RestField" "check_number", .meth "RestField" "times", .meth "RestField" "quotient", .meth "RestField" "power", .meth "FractionField" "check_number", .meth "FractionField" "times", .meth "FractionField" "quotient", .meth "FractionField" "power", .meth "Factors" "__eq__", .meth "Unlike" "__eq__", .noat "BadTable" "index", .noat "BadFactors" "what", .noat "BadFactors" "index"]
def faL : List He.Fa := faL0 ++ faL1 ++ faL2 ++ faL3 ++ faL4
def oexB (K : PySem.W.Frag) (C : Addr) : Bool := (match K.lookup C with
  | some ⟨.type t, _, .cls cd, sl⟩ => (match cd.mro, sl.toList with
    | .ref c :: bm, [_, _, _, _, some (.builtin n), _] => decide (t = "type") && (decide (c = C) && (decide (n = "ValueError.__new__") && (!cd.hasDel && (cd.hasDict && PySem.HandSPX.refsVE bm))))
    | _, _ => false)
  | _ => false)
theorem oexB_ok {K : PySem.W.Frag} {C : Addr} (h : oexB K C = true) : ∃ nm q N bs bm sn sub ab col dd k0 k1 k2 k3 k5, K.lookup C = some (excClassObj nm q C N bs bm true sn sub ab col dd k0 k1 k2 k3 k5 "ValueError.__new__") ∧ PySem.HandSPX.refsVE bm = true := by
  unfold oexB at h
  split at h
  · rename_i t dd cd sl e
    split at h
    · rename_i c bm k0 k1 k2 k3 n k5 em es
      simp only [Bool.and_eq_true, decide_eq_true_eq, Bool.not_eq_true'] at h
      obtain ⟨rfl, rfl, rfl, h1, h2, h3⟩ := h
      obtain ⟨nm, bs, mro, N, q, hd, sn, sub, ab, col, hdel⟩ := cd
      have em : mro = .ref c :: bm := em
      have h1 : hdel = false := h1
      have h2 : hd = true := h2
      subst em h1 h2
      have e3 : sl = #[k0, k1, k2, k3, some (.builtin "ValueError.__new__"), k5] := Array.toList_inj.mp es
      subst e3
      exact ⟨nm, q, N, bs, bm, sn, sub, ab, col, dd, k0, k1, k2, k3, k5, e, h3⟩
    · cases h
  · cases h
def fndB : Option PySem.W.CFound → Bool
  | some (.val (.builtin n)) => decide (n = "ValueError.__init__")
  | _ => false
theorem fndB_ok {o : Option PySem.W.CFound} (h : fndB o = true) : o = some (.val (.builtin "ValueError.__init__")) := by
  unfold fndB at h
  split at h
  · rw [of_decide_eq_true h]
  · cases h
def exL0 (K : PySem.W.Frag) : List Bool := [decide (PySem.W.findIn K (.ref (ga K "RestField")) "__class__" = some (some (.builtin "object.__class__"))), decide (PySem.W.mroIn K (ga K "RestField") (.type "object") = some true), decide (PySem.W.kitOne K (.ref (ga K "RestField")) (.ref (ga K "RestField")) = some true), decide (PySem.W.findIn K (.ref (ga K "FractionField")) "__class__" = some (some (.builtin "object.__class__"))), decide (PySem.W.mroIn K (ga K "FractionField") (.type "object") = some true), decide (PySem.W.kitOne K (.ref (ga K "FractionField")) (.ref (ga K "FractionField")) = some true), decide (PySem.W.findIn K (.ref (ga K "Factors")) "__class__" = some (some (.builtin "object.__class__"))), decide (PySem.W.mroIn K (ga K "Factors") (.type "object") = some true), decide (PySem.W.kitOne K (.ref (ga K "Factors")) (.ref (ga K "Factors")) = some true), decide (PySem.W.findIn K (.ref (ga K "Unlike")) "__class__" = some (some (.builtin "object.__class__"))), decide (PySem.W.mroIn K (ga K "Unlike") (.type "object") = some true), decide (PySem.W.kitOne K (.ref (ga K "Unlike")) (.ref (ga K "Unlike")) = some true), decide (PySem.W.findIn K (.ref (ga K "Picture")) "__class__" = some (some (.builtin "object.__class__"))), decide (PySem.W.mroIn K (ga K "Picture") (.type "object") = some true), decide (PySem.W.kitOne K (.ref (ga K "Picture")) (.ref (ga K "Picture")) = some true), decide (PySem.W.specialIn K (.builtin "object.__class__") "__get__" = some (some (.builtin "getset_descriptor.__get__"))), decide (PySem.W.takesIn K (.builtin "object.__class__") = some true), decide (PySem.W.kitOne K (.ref (ga K "FractionField")) (.ref (ga K "RestField")) = some false), decide (PySem.W.kitOne K (.ref (ga K "Factors")) (.ref (ga K "Unlike")) = some false), decide (PySem.W.kitOne K (.ref (ga K "Unlike")) (.ref (ga K "Factors")) = some false)]
def exL1 (K : PySem.W.Frag) : List Bool := [PySem.W.readsIn K (ga K "SheetError") (.type "type"), decide (PySem.W.specialIn K (.ref (ga K "SheetError")) "__getattribute__" = some (some (.builtin "type.__getattribute__"))), decide (PySem.W.typeIn K (.ref (ga K "SheetError")) = some (.type "type")), fndB (PySem.W.findCls K (.ref (ga K "SheetError")) (.type "type") "__init__"), oexB K (ga K "BadNumber"), decide (PySem.W.findIn K (.ref (ga K "BadNumber")) "__setattr__" = some (some (.builtin "object.__setattr__"))), decide (PySem.W.subIn K (.ref (ga K "BadNumber")) (.type "BaseException") = some true), decide (PySem.W.typeIn K (.ref (ga K "BadNumber")) = some (.type "type")), PySem.W.keepIn K (.ref (ga K "BadNumber")), xfB K (ga K "BadNumber"), decide (PySem.W.findIn K (.ref (ga K "BadNumber")) "__init__" = some (some (.ref (ma K "BadNumber" "__init__")))), decide (PySem.W.typeIn K (.ref (ma K "BadNumber" "__init__")) = some (.type "function")), decide (PySem.W.exmOne K (.ref (ga K "BadNumber")) (.ref (ga K "BadNumber")) = some true), oexB K (ga K "BadTable"), decide (PySem.W.findIn K (.ref (ga K "BadTable")) "__setattr__" = some (some (.builtin "object.__setattr__"))), decide (PySem.W.subIn K (.ref (ga K "BadTable")) (.type "BaseException") = some true), decide (PySem.W.typeIn K (.ref (ga K "BadTable")) = some (.type "type")), PySem.W.keepIn K (.ref (ga K "BadTable")), xfB K (ga K "BadTable"), decide (PySem.W.findIn K (.ref (ga K "BadTable")) "__init__" = some (some (.ref (ma K "BadTable" "__init__"))))]
def exL2 (K : PySem.W.Frag) : List Bool := [decide (PySem.W.typeIn K (.ref (ma K "BadTable" "__init__")) = some (.type "function")), decide (PySem.W.exmOne K (.ref (ga K "BadTable")) (.ref (ga K "BadTable")) = some true), oexB K (ga K "BadFactors"), decide (PySem.W.findIn K (.ref (ga K "BadFactors")) "__setattr__" = some (some (.builtin "object.__setattr__"))), decide (PySem.W.subIn K (.ref (ga K "BadFactors")) (.type "BaseException") = some true), decide (PySem.W.typeIn K (.ref (ga K "BadFactors")) = some (.type "type")), PySem.W.keepIn K (.ref (ga K "BadFactors")), xfB K (ga K "BadFactors"), decide (PySem.W.findIn K (.ref (ga K "BadFactors")) "__init__" = some (some (.ref (ma K "BadFactors" "__init__")))), decide (PySem.W.typeIn K (.ref (ma K "BadFactors" "__init__")) = some (.type "function")), decide (PySem.W.exmOne K (.ref (ga K "BadFactors")) (.ref (ga K "BadFactors")) = some true)]
def exL (K : PySem.W.Frag) : List Bool := exL0 K ++ exL1 K ++ exL2 K
def exB (K : PySem.W.Frag) : Bool := (exL K).all id
/-! ### the Hook: what is looked at behind the top -/
/-- what one object names, as far as it is needed -/
def nxt (g : Addr → Option Obj) (a : Addr) : List Addr := match g a with
  | some ⟨_, _, .dict es _, _⟩ => es.toList.flatMap fun e => He.refV e.val
  | some ⟨_, _, .func fd, _⟩ => He.refV fd.code ++ He.refV fd.defaults
  | some ⟨_, _, .cls cd, _⟩ => [cd.ns]
  | _ => []
def frL {α : Type} : List Nat → (List Nat → α) → α
  | [], k => k []
  | a :: r, k => HandSHeadRun.frNat a fun a => frL r fun r => k (a :: r)
def lvl (g : Addr → Option Obj) (as : List Addr) : List Addr := as.flatMap (nxt g)
/-- the addresses of the functions, their codes, the classes, their tables: each once or so, no look for doubles -/
def asL (g : Addr → Option Obj) : List Addr := frL (lvl g [mainGlobals]) fun l1 => frL (lvl g l1) fun l2 => frL (lvl g l2) fun l3 => frL (lvl g l3) fun l4 => mainGlobals :: cStatics :: (l1 ++ (l2 ++ (l3 ++ l4)))
/-- the fragment, its objects at hand -/
def frK {α : Type} (g : Addr → Option Obj) : List Addr → (PySem.W.Frag → α) → α
  | [], k => k []
  | a :: r, k => match g a with
    | some o => frK g r fun K => k ((a, o) :: K)
    | none => frK g r k
theorem frK_eq {α : Type} (g : Addr → Option Obj) : ∀ (l : List Addr) (k : PySem.W.Frag → α), frK g l k = k (He.frG g l)
  | [], _ => rfl
  | a :: r, k => by
    unfold frK He.frG
    rw [List.filterMap_cons]
    cases h : g a with
    | none => exact frK_eq g r k
    | some o => exact frK_eq g r fun K => k ((a, o) :: K)
def obsK (K : PySem.W.Frag) : He.AlD × Bool := (He.obsD faL fnL K, exB K)
def hkL : PySem.W.Hook where
  α := He.AlD × Bool
  obs := fun s => obsK (He.frG s.heap.get? (asL s.heap.get?))
  val := fun _ => (He.valD fnL, true)
  says := fun _ h => ∃ K : PySem.W.Frag, K.In h ∧ He.SaysD faL fnL K ∧ exB K = true
  of := fun _ _ e => ⟨_, He.frG_in, congrArg (fun z : He.AlD × Bool => z.1) e, congrArg (fun z : He.AlD × Bool => z.2) e⟩
  keeps := fun _ _ _ ⟨K, hK, c⟩ k => ⟨K, PySem.W.Frag.In.keeps hK k, c⟩
def obL (s : PySem.W.SharedT) : He.AlD × Bool := frK (HandSHeadRun.getT s) (asL (HandSHeadRun.getT s)) obsK
theorem obL_eq (s : PySem.W.SharedT) : obL s = hkL.obs s.abs := by
  unfold obL
  rw [frK_eq]
  have e : HandSHeadRun.getT s = s.abs.heap.get? := funext (HandSHeadRun.getT_eq s)
  rw [e]
  rfl
abbrev RW : PySem.W.OpenRow := PySem.W.OpenLaw.row PySem.Challenge.rw_sheetproofs_k06_whole_same_figure_exactl
end K6
/-! text V2 -/
set_option Elab.async false
set_option linter.all false
set_option maxRecDepth 100000
set_option maxHeartbeats 0
namespace K6
open PySem PySem.Spec PyProof.Rows L2
/-! ### the run of the top -/
def nmL0 : List PySem.Str := ["_wall", "SheetError", "BadPicture", "BadPrime", "BadNumber", "ByZero", "BadTable", "BadNumbers", "BadFactors", "BadRow", "is_whole", "common_divisor", "power_of", "tree_places", "other_places", "completed_tour", "meets_end", "loose_ends", "tour_of", "basis_tours", "MOST_PRIME", "is_prime", "rest_power", "lowest_terms", "RestField", "FractionField", "is_factor", "factors_place", "check_table", "plain_worth"]
def nmL1 : List PySem.Str := ["basis_worths", "scaled_table", "table_of", "Factors", "Unlike", "spread_factors", "same_figure", "factors_fault", "unlike_fault", "same_numbers", "plain_form", "is_couple", "Picture", "piece_marks", "_law_mixed", "_law_hand", "_law_draw", "_law_whole", "_law_given", "_law_divisor", "_law_lowest", "_law_prime", "_law_next_prime", "_law_field", "_law_made_field", "_law_one", "_law_minus", "_law_times", "_law_power", "_law_number"]
def nmL2 : List PySem.Str := ["_law_is_number", "_law_same", "_law_same_row", "_law_odd", "_law_picture", "_law_tree", "_law_others", "_law_leaf", "_law_tour", "_law_basis", "_law_table", "_law_worth", "_law_scaled", "_law_plain", "_law_made", "_law_factors", "_law_moving", "_law_second_table", "_law_same_told", "_law_leads", "_law_other_factors", "_law_wrong_row", "_law_factors_judged", "_law_unlike_judged", "_law_verdict_holds", "_law_plain_told", "_law_spoilt_at", "_law_judge_told", "_law_refusals_hold"]
def nmL : List PySem.Str := nmL0 ++ nmL1 ++ nmL2
/-- the top's state by a run of the kernel; what is looked at stands in two declarations, each with a run of its own (memory) -/
noncomputable abbrev endS (w : World) (os : OsState) : Option PySem.W.SharedT := HandSHeadRun.endF (HandSHeadRun.stepQ (HandSHeadRun.denQ HandSHeadRun.tabQ) RW.prog w) 20000 RW.prog w os
def obA (K : PySem.W.Frag) : Bool × Bool := (faL.all fun f => f.ok K, exB K)
def obB (K : PySem.W.Frag) : Bool × List He.FnW := (fnL.all fun d => d.ok K, fnL.map fun d => He.fnW K d.at_)
theorem run_a (w : World) (os : OsState) : (endS w os).map (fun s => (frK (HandSHeadRun.getT s) (asL (HandSHeadRun.getT s)) obA)) = some (true, true) := by
  kernel_rfl
theorem run_b (w : World) (os : OsState) : (endS w os).map (fun s => (frK (HandSHeadRun.getT s) (asL (HandSHeadRun.getT s)) obB)) = some (true, fnL.map He.DefD.val) := by
  kernel_rfl
theorem run_c (w : World) (os : OsState) : (endS w os).map (fun s => (HandSHeadRun.looksF RW.prog (PySem.W.boot_heap w.params) s.abs, HandSHeadRun.seenQ (PySem.W.view RW.prog [97]) nmL (importedModules RW.prog.main.body) (fun s => PySem.W.xlAt (PySem.W.view RW.prog [97]) [] s && PySem.W.recOk RW.toRowW.records s) s.abs)) = some (true, PySem.W.openGood (PySem.W.view RW.prog [97]) nmL) := by
  kernel_rfl
theorem run_top (w : World) : HandSHeadRun.RunEq RW (PySem.W.view RW.prog [97]) hkL obL 20000 nmL w := by
  intro os
  obtain ⟨s, hs, hc⟩ := Option.map_eq_some_iff.mp (run_c w os)
  have ha := run_a w os
  have hb := run_b w os
  rw [hs, Option.map_some] at ha hb
  have ha := Option.some.inj ha
  have hb := Option.some.inj hb
  rw [frK_eq] at ha hb
  have ho : obL s = (He.valD fnL, true) := by
    unfold obL
    rw [frK_eq]
    generalize He.frG (HandSHeadRun.getT s) (asL (HandSHeadRun.getT s)) = K at ha hb
    have e1 : (faL.all fun f => f.ok K) = true := congrArg (fun z : Bool × Bool => z.1) ha
    have e2 : exB K = true := congrArg (fun z : Bool × Bool => z.2) ha
    have e3 : (fnL.all fun d => d.ok K) = true := congrArg (fun z : Bool × List He.FnW => z.1) hb
    have e4 : (fnL.map fun d => He.fnW K d.at_) = fnL.map He.DefD.val := congrArg (fun z : Bool × List He.FnW => z.2) hb
    unfold obsK He.obsD He.valD
    rw [e1, e2, e3, e4]
    rfl
  show (endS w os).map _ = _
  rw [hs, Option.map_some]
  have c1 := congrArg (fun z : Bool × _ => z.1) hc
  have c2 := congrArg (fun z : Bool × _ => z.2) hc
  exact congrArg some (Prod.ext c1 (Prod.ext c2 ho))
end K6
/-! text K5 -/
set_option Elab.async false
set_option linter.all false
set_option maxRecDepth 100000
set_option maxHeartbeats 4000000
/-! K5: data over the knowledge. -/
namespace K6
open PySem L2 K3 PySem.Spec PyProof.Rows
open Evl (Ex)
section
variable {G G' : Hp} {O : OL} {v x : V} {d : PyData} {ds : List PyData} {xs vs : List V}
mutual
theorem da_wk (O : OL) : ∀ {v : V} {d : PyData}, Da G [] v d → Da G O v d
  | _, _, .non => .non
  | _, _, .bl b => .bl b
  | _, _, .int i => .int i
  | _, _, .str x => .str x
  | _, _, .lst h ha => .lst (h.elim .inl fun z => by cases z) (daAll_wk O ha)
  | _, _, .tup h ha => .tup h (daAll_wk O ha)
theorem daAll_wk (O : OL) : ∀ {vs : List V} {ds : List PyData}, DaAll G [] vs ds → DaAll G O vs ds
  | _, _, .nil => .nil
  | _, _, .cons h t => .cons (da_wk O h) (daAll_wk O t)
end
theorem da_int {i : Int} (h : Da G O v (.int i)) : v = .int i := by cases h; rfl
theorem da_bl {b : Bool} (h : Da G O v (.bool b)) : v = .bl b := by cases h; rfl
theorem da_str {z : Str} (h : Da G O v (.str z)) : v = .str z := by cases h; rfl
theorem da_non (h : Da G O v .none) : v = .non := by cases h; rfl
theorem da_tup (h : Da G O v (.tuple ds)) : ∃ a xs, v = .ref a ∧ G a = some (.tup xs) ∧ DaAll G O xs ds := by
  cases h with
  | tup h ha => exact ⟨_, _, rfl, h, ha⟩
theorem da_lst (h : Da G [] v (.list ds)) : ∃ a xs, v = .ref a ∧ G a = some (.lst xs) ∧ DaAll G [] xs ds := by
  cases h with
  | lst h ha => exact ⟨_, _, rfl, h.elim id fun z => (by cases z), ha⟩
theorem daAll_len : ∀ {xs : List V} {ds : List PyData}, DaAll G O xs ds → xs.length = ds.length
  | _, _, .nil => rfl
  | _, _, .cons _ t => by rw [List.length_cons, List.length_cons, daAll_len t]
theorem daAll_get : ∀ {xs : List V} {ds : List PyData} {i : Nat} {d : PyData}, DaAll G O xs ds → ds[i]? = some d → ∃ x, xs[i]? = some x ∧ Da G O x d
  | _, _, i, d, .nil, e => by simp at e
  | _, _, 0, d, .cons h t, e => by simp at e; subst e; exact ⟨_, rfl, h⟩
  | _, _, i + 1, d, .cons h t, e => by
    obtain ⟨x, h1, h2⟩ := daAll_get (i := i) t (by simpa using e)
    exact ⟨x, by simpa using h1, h2⟩
theorem daAll_of {i : Nat} (h : DaAll G O xs ds) (e : xs[i]? = some x) : ∃ d, ds[i]? = some d ∧ Da G O x d := by
  have hl := daAll_len h
  obtain ⟨hi, _⟩ := List.getElem?_eq_some_iff.mp e
  obtain ⟨y, h1, h2⟩ := daAll_get (i := i) (d := ds[i]'(by omega)) h (by simp [show i < ds.length by omega])
  rw [e] at h1
  cases h1
  exact ⟨_, by simp [show i < ds.length by omega], h2⟩
theorem daAll_app : ∀ {xs : List V} {ds : List PyData} {ys : List V} {es : List PyData}, DaAll G O xs ds → DaAll G O ys es → DaAll G O (xs ++ ys) (ds ++ es)
  | _, _, _, _, .nil, k => k
  | _, _, _, _, .cons h t, k => .cons h (daAll_app t k)
theorem daAll_snoc (h : DaAll G O xs ds) (hx : Da G O x d) : DaAll G O (xs ++ [x]) (ds ++ [d]) := daAll_app h (.cons hx .nil)
theorem daAll_ints : ∀ (ns : List Int), DaAll G O (ns.map V.int) (ns.map PyData.int)
  | [] => .nil
  | n :: ns => .cons (.int n) (daAll_ints ns)
theorem daAll_ints' : ∀ {ns : List Int} {xs : List V}, DaAll G O xs (ns.map PyData.int) → xs = ns.map V.int
  | [], _, h => by cases h; rfl
  | n :: ns, _, h => by
    cases h with
    | cons h t => cases h; rw [daAll_ints' t]; rfl
theorem daAll_bls' : ∀ {ns : List Bool} {xs : List V}, DaAll G O xs (ns.map PyData.bool) → xs = ns.map V.bl
  | [], _, h => by cases h; rfl
  | n :: ns, _, h => by
    cases h with
    | cons h t => cases h; rw [daAll_bls' t]; rfl
theorem daAll_set : ∀ {xs : List V} {ds : List PyData} {i : Nat}, DaAll G O xs ds → Da G O x d → DaAll G O (xs.set i x) (ds.set i d)
  | _, _, _, .nil, _ => .nil
  | _, _, 0, .cons _ t, k => .cons k t
  | _, _, i + 1, .cons h t, k => .cons h (daAll_set (i := i) t k)
theorem daAll_rep (k : Nat) (h : Da G O x d) : DaAll G O (List.replicate k x) (List.replicate k d) := by
  induction k with
  | zero => exact .nil
  | succ k ih => rw [List.replicate_succ, List.replicate_succ]; exact .cons h ih
/-- a list or a tuple of these -/
def Sq (G : Hp) (v : V) (ds : List PyData) : Prop := Da G [] v (.list ds) ∨ Da G [] v (.tuple ds)
instance : Mono (fun G => Sq G v ds) := ⟨fun e h => h.elim (fun z => .inl (Da.up e z)) fun z => .inr (Da.up e z)⟩
theorem Sq.at_ (h : Sq G v ds) : ∃ a xs, v = .ref a ∧ SqAt G [] a xs ∧ DaAll G [] xs ds := by
  rcases h with h | h
  · obtain ⟨a, xs, e, h1, h2⟩ := da_lst h; exact ⟨a, xs, e, .inr (.inl h1), h2⟩
  · obtain ⟨a, xs, e, h1, h2⟩ := da_tup h; exact ⟨a, xs, e, .inl h1, h2⟩
theorem sqAt_wk {p : Addr} (h : SqAt G [] p xs) : SqAt G O p xs := h.elim .inl fun z => .inr (z.elim .inl fun y => by cases y)
/-- data made from data -/
def SDa (rel : List PyData → PyData → Prop) : Sg := fun vs G O R => O = [] ∧ ∃ ds d, DaAll G [] vs ds ∧ rel ds d ∧ R = fun v G' O' => O' = [] ∧ Da G' [] v d
theorem f_da {rel : List PyData → PyData → Prop} {E : XK} {R : V → Hp → OL → Prop} (h : DaAll G [] vs ds) (hr : rel ds d) (q : ∀ v G2, Ex G G2 → Da G2 [] v d → R v G2 O) : W (fun H Q => Fn (SDa rel) vs H Q E) G O R :=
  f_pure ⟨rfl, ds, d, h, hr, rfl⟩ fun v G2 A2 e ⟨hA, hd⟩ => by subst hA; exact q v G2 e hd
/-- a scalar made from scalars -/
def SV (rel : List V → V → Prop) : Sg := fun vs G O R => O = [] ∧ ∃ v0, rel vs v0 ∧ R = fun v G' O' => O' = [] ∧ v = v0
theorem f_v {rel : List V → V → Prop} {E : XK} {R : V → Hp → OL → Prop} {v0 : V} (hr : rel vs v0) (q : ∀ G2, Ex G G2 → R v0 G2 O) : W (fun H Q => Fn (SV rel) vs H Q E) G O R :=
  f_pure ⟨rfl, v0, hr, rfl⟩ fun v G2 A2 e ⟨hA, hd⟩ => by subst hA hd; exact q G2 e
variable {K : PySem.W.Frag} {R : V → Hp → OL → Prop}
theorem r_atD {j : Nat} {i : Int} (h : Sq G v ds) (hj : ds[j]? = some d) (hi : i = (j : Int)) (q : ∀ x, Da G [] x d → R x G O) : W (rIx K v (.int i)) G O R := by
  obtain ⟨a, xs, rfl, h1, h2⟩ := h.at_
  obtain ⟨x, hx, hd⟩ := daAll_get h2 hj
  subst hi
  exact r_atS (sqAt_wk h1) (atI_nat hx) (q x hd)
theorem r_lenD (h : Sq G v ds) (q : R (.int ds.length) G O) : W (rLenK K [v]) G O R := by
  obtain ⟨a, xs, rfl, h1, h2⟩ := h.at_
  rw [← daAll_len h2] at q
  exact r_len (sqAt_wk h1) q
theorem r_tupleD (h : Sq G v ds) (q : ∀ x G', Ex G G' → Da G' [] x (.tuple ds) → R x G' O) : W (rTupOf K [v]) G O R := by
  obtain ⟨a, xs, rfl, h1, h2⟩ := h.at_
  exact r_tuple (sqAt_wk h1) fun l G' e hl => q _ G' e (.tup hl (DaAll.up e h2))
/-- a new list, owned: its items -/
theorem r_listD (h : Sq G v ds) (q : ∀ l xs, DaAll G [] xs ds → G l = none → R (.ref l) G (O ++ [(l, .lst xs)])) : W (rLstOf K [v]) G O R := by
  obtain ⟨a, xs, rfl, h1, h2⟩ := h.at_
  exact r_list (sqAt_wk h1) fun l hl => q l xs h2 hl
theorem r_listDG (h : Sq G v ds) (q : ∀ x G', Ex G G' → Da G' [] x (.list ds) → R x G' O) : W (rLstOf K [v]) G O R := by
  obtain ⟨a, xs, rfl, h1, h2⟩ := h.at_
  exact r_listG (sqAt_wk h1) fun l G' e hl => q _ G' e (.lst (.inl hl) (DaAll.up e h2))
theorem w_tupD {t : TA} {σ : L2.St} (h : W (t σ) G O fun xs G1 O1 => ∃ ds, ds.length ≤ 1000 ∧ DaAll G1 [] xs ds ∧ ∀ x G2, Ex G1 G2 → Da G2 [] x (.tuple ds) → R x G2 O1) : W (tTup t σ) G O R :=
  w_tup (w_imp h fun xs G1 O1 _ ⟨ds, hl, hd, q⟩ => ⟨by rw [daAll_len hd]; exact Nat.le_trans hl (by decide), fun p G2 e hp => q _ G2 e (.tup hp (DaAll.up e hd))⟩)
theorem w_lstD {t : TA} {σ : L2.St} (h : W (t σ) G O fun xs G1 O1 => ∃ ds, ds.length ≤ 1000 ∧ DaAll G1 [] xs ds ∧ ∀ x G2, Ex G1 G2 → Da G2 [] x (.list ds) → R x G2 O1) : W (tLst t σ) G O R :=
  w_lstG (w_imp h fun xs G1 O1 _ ⟨ds, hl, hd, q⟩ => ⟨by rw [daAll_len hd]; exact Nat.le_trans hl (by decide), fun p G2 e hp => q _ G2 e (.lst (.inl hp) (DaAll.up e hd))⟩)
theorem g_tupD {N : L2.St → Hp → OL → Prop} {n : Nat} {t : TGs} {σ : L2.St} (h : Da G [] v (.tuple ds)) (hl : ds.length = n) (q : ∀ xs, DaAll G [] xs ds → W (t xs σ) G O N) : W (gTup K n t v σ) G O N := by
  obtain ⟨a, xs, rfl, h1, h2⟩ := da_tup h
  exact g_tup h1 (by rw [daAll_len h2]; exact hl) (q xs h2)
end
end K6
namespace K6
open PySem L2 K3 PySem.Spec PyProof.Rows
open Evl (Ex)
section
variable {G : Hp} {O : OL} {σ : L2.St} {K : PySem.W.Frag} {a : Addr} {xs : List V}
instance : Mono (fun G => SqL K G a xs) := ⟨fun e h => Evl.ex_l e h⟩
theorem sqL_up {G G' : Hp} (e : Ex G G') (h : SqL K G a xs) : SqL K G' a xs := Evl.ex_l e h
/-- a list that is read: known, frozen or written -/
theorem i_listS {te : TE} {R : It → Hp → OL → Prop} (h : W (te σ) G O fun x G1 O1 => ∃ a xs, x = .ref a ∧ SqL K G1 a xs ∧ R (Itl K a) G1 O1) : W (iList K te σ) G O R := fun H m Q q =>
  h H m _ fun x H1 G1 O1 m1 u1 ⟨a, xs, e, hl, r⟩ => ⟨a, e, ⟨xs, sqL_up m1.g hl⟩, q _ _ _ _ m1 u1 r⟩
end
/-- what of lists of one place is one -/
def Uq (K : PySem.W.Frag) (G : Hp) (a : Addr) (xs : List V) : Prop := SqL K G a xs ∧ ∀ H ys, Ex G H → SqL K H a ys → ys = xs
theorem wk_listS {K : PySem.W.Frag} {G : Hp} {a : Addr} {xs : List V} (h : SqL K G a xs) : Wk (Itl K a) G [] xs.length (fun i x _ => xs[i]? = some x) where
  go := fun i H G' O' hi m e _ => ⟨xs, xs[i], sqL_up (e.trans m.g) h, by simp [hi]⟩
  stop := fun H G' O' m e _ => ⟨xs, sqL_up (e.trans m.g) h, Nat.le_refl _⟩
  yld := fun i H G' O' x H' hi m e _ ⟨eh, ex⟩ => by subst eh; exact ⟨G', m, Up.refl, ex xs (sqL_up (e.trans m.g) h)⟩
theorem wk_enumS {K : PySem.W.Frag} {G : Hp} {a : Addr} {xs : List V} (h : SqL K G a xs) : Wk (Ite K a) G [] xs.length (fun i v G => ∃ T x, v = .ref T ∧ xs[i]? = some x ∧ G T = some (.tup [.int (i : Nat), x])) where
  go := fun i H G' O' hi m e _ => ⟨xs, xs[i], sqL_up (e.trans m.g) h, by simp [hi]⟩
  stop := fun H G' O' m e _ => ⟨xs, sqL_up (e.trans m.g) h, Nat.le_refl _⟩
  yld := fun i H G' O' v H' hi m e _ ⟨T, x, e1, hT, e2, ex⟩ => by
    subst e2
    exact ⟨_, m.newG hT, m.upG hT, T, x, e1, ex xs (sqL_up (e.trans m.g) h), upd_same⟩
theorem i_enumS {K : PySem.W.Frag} {G : Hp} {O : OL} {σ : L2.St} {t : TA} {R : It → Hp → OL → Prop} (h : W (t σ) G O fun vs G1 O1 => ∃ a xs, vs = [.ref a] ∧ SqL K G1 a xs ∧ R (Ite K a) G1 O1) : W (iEnum K t σ) G O R := fun H m Q q =>
  h H m _ fun x H1 G1 O1 m1 u1 ⟨a, xs, e, hl, r⟩ => ⟨a, xs, e, sqL_up m1.g hl, q _ _ _ _ m1 u1 r⟩
/-! ### the law's hand: what draws lean on -/
def HdOk (G : Hp) (o : HO) : Prop := ∃ (c : Addr) (cs : List Int) (i : Nat) (r s : Int), o = .lst [.ref c, .int (i : Int), .int r, .int s] ∧ G c = some (.lst (cs.map V.int)) ∧ (∀ x ∈ cs, 0 ≤ x) ∧ cs.length ≤ 63 ∧ i ≤ cs.length ∧ 0 ≤ r ∧ 0 ≤ s ∧ s < 2147483587
instance {o : HO} : Mono (fun G => HdOk G o) := ⟨fun e ⟨c, cs, i, r, s, h1, h2, h3⟩ => ⟨c, cs, i, r, s, h1, e _ _ h2, h3⟩⟩
end K6
namespace K6
open PySem L2 K3 PySem.Spec PyProof.Rows
open Evl (Ex)
section
variable {G : Hp} {O : OL} {σ : L2.St} {wi : TI} {g : TG} {tt : TT} {te : TE} {vs : List Nat} {R : V → Hp → OL → Prop}
theorem t_yes {R : Bool → Hp → OL → Prop} (r : R true G O) : W (tYes σ) G O R := w_ret r
/-- a comprehension whose list is never changed -/
theorem w_lcGW (h : W (wi σ) G O fun J G1 O1 => ∃ n it Ow, n ≤ 100000 ∧ Wk J G1 Ow n it ∧ ∃ Pv : Nat → List V → Hp → OL → Prop, (∀ i acc G' O', Pv i acc G' O' → ∀ p ∈ Ow, p ∈ O') ∧ Pv 0 [] G1 O1 ∧
    (∀ i x acc G' O', i < n → Ex G1 G' → Pv i acc G' O' → ∀ G'', Ex G' G'' → it i x G'' → W (g x (wipe σ vs)) G'' O' fun σ2 G2 O2 => wipe σ2 vs = wipe σ vs ∧
      W (tt σ2) G2 O2 fun b G3 O3 => (b = true → W (te σ2) G3 O3 fun y G4 O4 => Pv (i + 1) (acc ++ [y]) G4 O4) ∧ (b = false → Pv (i + 1) acc G3 O3)) ∧
    (∀ acc p G' O', acc.length ≤ n → Ex G1 G' → Pv n acc G' O' → ∀ G'', Ex G' G'' → G'' p = some (.lst acc) → R (.ref p) G'' O')) : W (tLc wi g tt te vs σ) G O R := fun H m Q q => by
  refine w_lcW (R := fun v G' O' => ∃ p acc O1, v = .ref p ∧ O' = O1 ++ [(p, HO.lst acc)] ∧ ∀ G'', Ex G' G'' → G'' p = some (.lst acc) → R (.ref p) G'' O1) (w_imp h fun J G1 O1 _ ⟨n, it, Ow, hn, wk, Pv, hw0, p0, hs, hd⟩ =>
    ⟨n, it, Ow, hn, wk, Pv, hw0, p0, hs, fun acc p G' O' hl e pv => ⟨p, acc, O', rfl, rfl, hd acc p G' O' hl e pv⟩⟩) H m Q fun v H' G' O' m' u ⟨p, acc, O1, e1, e2, r⟩ => ?_
  subst e1 e2
  have ix : (O1 ++ [(p, HO.lst acc)])[O1.length]? = some (p, .lst acc) := by simp
  have es : (O1 ++ [(p, HO.lst acc)]).eraseIdx O1.length = O1 := by rw [List.eraseIdx_append_of_length_le (Nat.le_refl _), Nat.sub_self]; exact List.append_nil _
  have mf := m'.frz ix
  have uf := m'.upF ix
  rw [es] at mf uf
  exact q _ _ _ _ mf (u.trans m' uf) (r _ uf.g upd_same)
/-- a comprehension whose list is never changed -/
theorem w_lcG (h : W (wi σ) G O fun J G1 O1 => ∃ n it, n ≤ 100000 ∧ Wk J G1 [] n it ∧ ∃ Pv : Nat → List V → Hp → OL → Prop, Pv 0 [] G1 O1 ∧
    (∀ i x acc G' O', i < n → Ex G1 G' → Pv i acc G' O' → ∀ G'', Ex G' G'' → it i x G'' → W (g x (wipe σ vs)) G'' O' fun σ2 G2 O2 => wipe σ2 vs = wipe σ vs ∧
      W (tt σ2) G2 O2 fun b G3 O3 => (b = true → W (te σ2) G3 O3 fun y G4 O4 => Pv (i + 1) (acc ++ [y]) G4 O4) ∧ (b = false → Pv (i + 1) acc G3 O3)) ∧
    (∀ acc p G' O', acc.length ≤ n → Ex G1 G' → Pv n acc G' O' → ∀ G'', Ex G' G'' → G'' p = some (.lst acc) → R (.ref p) G'' O')) : W (tLc wi g tt te vs σ) G O R :=
  w_lcGW (w_imp h fun J G1 O1 _ ⟨n, it, hn, wk, Pv, p0, hs, hd⟩ => ⟨n, it, [], hn, wk, Pv, fun _ _ _ _ _ p hp => (by cases hp), p0, hs, hd⟩)
/-- .. that filters and maps, its items data -/
theorem w_lcFW {j : Nat} (h : W (wi σ) G O fun J G1 O1 => ∃ n it, n ≤ 100000 ∧ Wk J G1 O1 n it ∧ ∃ (b : Nat → Bool) (e : Nat → PyData),
    (∀ i x G', i < n → Ex G1 G' → it i x G' → wipe ((wipe σ vs).set j (some x)) vs = wipe σ vs ∧ W (tt ((wipe σ vs).set j (some x))) G' O1 fun c G2 O2 => O2 = O1 ∧ c = b i ∧ (b i = true → W (te ((wipe σ vs).set j (some x))) G2 O1 fun y G3 O3 => O3 = O1 ∧ Da G3 [] y (e i))) ∧
    (∀ p G', Ex G1 G' → Da G' [] (.ref p) (.list (((List.range n).filter b).map e)) → R (.ref p) G' O1)) : W (tLc wi (gName j) tt te vs σ) G O R := by
  refine w_lcGW (w_imp h fun J G1 O1 _ ⟨n, it, hn, wk, b, e, hs, hd⟩ => ⟨n, it, O1, hn, wk, fun i acc G' O' => O' = O1 ∧ DaAll G' [] acc (((List.range i).filter b).map e), fun _ _ _ _ hp p hp2 => (by rw [hp.1]; exact hp2), ⟨rfl, .nil⟩, ?_, ?_⟩)
  · rintro i x acc G' O' hi e1 ⟨rfl, hacc⟩ G2 e2 hx
    obtain ⟨hw, ht⟩ := hs i x G2 hi (e1.trans e2) hx
    refine g_name ⟨hw, w_imp ht fun c G3 O3 e3 ⟨h1, h2, h3⟩ => ?_⟩
    subst h1 h2
    have step : ((List.range (i + 1)).filter b).map e = ((List.range i).filter b).map e ++ (if b i then [e i] else []) := by
      rw [List.range_succ, List.filter_append, List.map_append]
      cases hb : b i <;> simp [List.filter_cons, hb]
    refine ⟨fun hc => w_imp (h3 hc) fun y G4 O4 e4 ⟨h5, h6⟩ => ⟨h5, ?_⟩, fun hc => ⟨rfl, ?_⟩⟩
    · rw [step, if_pos hc]
      exact daAll_snoc (DaAll.up ((e2.trans e3).trans e4) hacc) h6
    · rw [step, hc]
      simpa using DaAll.up (e2.trans e3) hacc
  · rintro acc p G' O' hl e1 ⟨rfl, hacc⟩ G2 e2 hp
    exact hd p G2 (e1.trans e2) (.lst (.inl hp) (DaAll.up e2 hacc))
/-- .. that filters and maps, its items data -/
theorem w_lcF {j : Nat} (h : W (wi σ) G O fun J G1 O1 => ∃ n it, n ≤ 100000 ∧ Wk J G1 [] n it ∧ ∃ (b : Nat → Bool) (e : Nat → PyData),
    (∀ i x G', i < n → Ex G1 G' → it i x G' → wipe ((wipe σ vs).set j (some x)) vs = wipe σ vs ∧ W (tt ((wipe σ vs).set j (some x))) G' O1 fun c G2 O2 => O2 = O1 ∧ c = b i ∧ (b i = true → W (te ((wipe σ vs).set j (some x))) G2 O1 fun y G3 O3 => O3 = O1 ∧ Da G3 [] y (e i))) ∧
    (∀ p G', Ex G1 G' → Da G' [] (.ref p) (.list (((List.range n).filter b).map e)) → R (.ref p) G' O1)) : W (tLc wi (gName j) tt te vs σ) G O R := by
  refine w_lcG (w_imp h fun J G1 O1 _ ⟨n, it, hn, wk, b, e, hs, hd⟩ => ⟨n, it, hn, wk, fun i acc G' O' => O' = O1 ∧ DaAll G' [] acc (((List.range i).filter b).map e), ⟨rfl, .nil⟩, ?_, ?_⟩)
  · rintro i x acc G' O' hi e1 ⟨rfl, hacc⟩ G2 e2 hx
    obtain ⟨hw, ht⟩ := hs i x G2 hi (e1.trans e2) hx
    refine g_name ⟨hw, w_imp ht fun c G3 O3 e3 ⟨h1, h2, h3⟩ => ?_⟩
    subst h1 h2
    have step : ((List.range (i + 1)).filter b).map e = ((List.range i).filter b).map e ++ (if b i then [e i] else []) := by
      rw [List.range_succ, List.filter_append, List.map_append]
      cases hb : b i <;> simp [List.filter_cons, hb]
    refine ⟨fun hc => w_imp (h3 hc) fun y G4 O4 e4 ⟨h5, h6⟩ => ⟨h5, ?_⟩, fun hc => ⟨rfl, ?_⟩⟩
    · rw [step, if_pos hc]
      exact daAll_snoc (DaAll.up ((e2.trans e3).trans e4) hacc) h6
    · rw [step, hc]
      simpa using DaAll.up (e2.trans e3) hacc
  · rintro acc p G' O' hl e1 ⟨rfl, hacc⟩ G2 e2 hp
    exact hd p G2 (e1.trans e2) (.lst (.inl hp) (DaAll.up e2 hacc))
/-- .. that maps alone -/
theorem w_lcM {j : Nat} (h : W (wi σ) G O fun J G1 O1 => ∃ n it, n ≤ 100000 ∧ Wk J G1 [] n it ∧ ∃ (e : Nat → PyData),
    (∀ i x G', i < n → Ex G1 G' → it i x G' → wipe ((wipe σ vs).set j (some x)) vs = wipe σ vs ∧ W (te ((wipe σ vs).set j (some x))) G' O1 fun y G3 O3 => O3 = O1 ∧ Da G3 [] y (e i)) ∧
    (∀ p G', Ex G1 G' → Da G' [] (.ref p) (.list ((List.range n).map e)) → R (.ref p) G' O1)) : W (tLc wi (gName j) tYes te vs σ) G O R := by
  refine w_lcF (w_imp h fun J G1 O1 _ ⟨n, it, hn, wk, e, hs, hd⟩ => ⟨n, it, hn, wk, fun _ => true, e, fun i x G' hi e1 hx => ?_, fun p G' e1 hp => hd p G' e1 ?_⟩)
  · obtain ⟨h1, h2⟩ := hs i x G' hi e1 hx
    exact ⟨h1, t_yes ⟨rfl, rfl, fun _ => h2⟩⟩
  · have : (List.range n).filter (fun _ => true) = List.range n := List.filter_eq_self.mpr fun _ _ => rfl
    rw [this] at hp
    exact hp
end
end K6
/-! text M1 -/
set_option Elab.async false
set_option linter.all false
set_option maxRecDepth 100000
set_option maxHeartbeats 4000000
/-! M1: the numbers of a field that are not 0, a group; plain. -/
namespace K6
class Gp (U : Type) extends Mul U, One U, Inv U where
  mc : ∀ a b : U, a * b = b * a
  ma : ∀ a b c : U, a * b * c = a * (b * c)
  om : ∀ a : U, 1 * a = a
  im : ∀ a : U, a⁻¹ * a = 1
namespace Gp
variable {U : Type} [Gp U]
theorem mo (a : U) : a * 1 = a := by rw [mc, om]
theorem mi (a : U) : a * a⁻¹ = 1 := by rw [mc, im]
theorem mlc (a b c : U) : a * (b * c) = b * (a * c) := by rw [← ma, mc a b, ma]
theorem cancel {a b c : U} (h : a * b = a * c) : b = c := by
  have : a⁻¹ * (a * b) = a⁻¹ * (a * c) := by rw [h]
  rwa [← ma, ← ma, im, om, om] at this
theorem inv_of {a b : U} (h : a * b = 1) : b = a⁻¹ := cancel (a := a) (by rw [h, mi])
theorem inv_mul (a b : U) : (a * b)⁻¹ = a⁻¹ * b⁻¹ := (inv_of (by rw [ma, mlc b, mi, mo, mi])).symm
theorem inv_one : (1 : U)⁻¹ = 1 := (inv_of (om 1)).symm
theorem inv_inv (a : U) : a⁻¹⁻¹ = a := (inv_of (im a)).symm
def np (a : U) : Nat → U
  | 0 => 1
  | n + 1 => np a n * a
theorem np_add (a : U) (m n : Nat) : np a (m + n) = np a m * np a n := by
  induction n with
  | zero => exact (mo _).symm
  | succ n ih => show np a (m + n) * a = np a m * (np a n * a); rw [ih, ma]
theorem np_one (n : Nat) : np (1 : U) n = 1 := by
  induction n with
  | zero => rfl
  | succ n ih => show np 1 n * 1 = 1; rw [ih, om]
theorem np_mulb (a b : U) (n : Nat) : np (a * b) n = np a n * np b n := by
  induction n with
  | zero => exact (om 1).symm
  | succ n ih => show np (a * b) n * (a * b) = (np a n * a) * (np b n * b); rw [ih]; simp only [ma, mlc, mc]
theorem np_inv (a : U) (n : Nat) : np a⁻¹ n = (np a n)⁻¹ := inv_of (by rw [← np_mulb, mi, np_one])
theorem np_mul (a : U) (m n : Nat) : np a (m * n) = np (np a m) n := by
  induction n with
  | zero => rfl
  | succ n ih => rw [Nat.mul_succ, np_add, ih]; rfl
theorem np_sq (a : U) (n : Nat) : np (a * a) n = np a (2 * n) := by rw [np_mul]; congr 1; show a * a = (1 * a) * a; rw [om]
def zp (a : U) : Int → U
  | .ofNat n => np a n
  | .negSucc n => np a⁻¹ (n + 1)
theorem zp_nat (a : U) (n : Nat) : zp a (n : Int) = np a n := rfl
theorem zp_neg (a : U) (n : Nat) : zp a (-(n : Int)) = np a⁻¹ n := by
  cases n with
  | zero => rfl
  | succ n => rfl
theorem zp_cases (e : Int) : (∃ n : Nat, e = n) ∨ ∃ n : Nat, e = -((n : Int) + 1) := by
  rcases e with n | n
  · exact .inl ⟨n, rfl⟩
  · exact .inr ⟨n, by omega⟩
theorem zp_zero (a : U) : zp a 0 = 1 := rfl
theorem zp_succ (a : U) (e : Int) : zp a (e + 1) = zp a e * a := by
  rcases e with n | n
  · rfl
  · cases n with
    | zero => show np a 0 = np a⁻¹ 1 * a; show 1 = (1 * a⁻¹) * a; rw [om, im]
    | succ n =>
      have : Int.negSucc (n + 1) + 1 = Int.negSucc n := by omega
      rw [this]
      show np a⁻¹ (n + 1) = np a⁻¹ (n + 1) * a⁻¹ * a
      rw [ma, im, mo]
theorem zp_add (a : U) (e f : Int) : zp a (e + f) = zp a e * zp a f := by
  have key : ∀ (n : Nat) (e : Int), zp a (e + n) = zp a e * zp a (n : Int) := fun n => by
    induction n with
    | zero => intro e; simp only [Int.natCast_zero, Int.add_zero]; exact (mo _).symm
    | succ n ih => intro e; rw [Int.natCast_add, ← Int.add_assoc]; show zp a (e + n + 1) = _ * zp a ((n : Int) + 1); rw [zp_succ, ih, zp_succ, ma]
  rcases zp_cases f with ⟨n, rfl⟩ | ⟨n, rfl⟩
  · exact key n e
  · have h1 := key (n + 1) (e + -((n : Int) + 1))
    have h2 := key (n + 1) (-((n : Int) + 1))
    rw [show e + -((n : Int) + 1) + ((n + 1 : Nat) : Int) = e by omega] at h1
    rw [show -((n : Int) + 1) + ((n + 1 : Nat) : Int) = 0 by omega, zp_zero] at h2
    rw [h1, ma, mc (zp a ((n + 1 : Nat) : Int)), ← h2, mo]
theorem zp_mulb (a b : U) (e : Int) : zp (a * b) e = zp a e * zp b e := by
  rcases e with n | n
  · exact np_mulb a b n
  · show np (a * b)⁻¹ (n + 1) = _; rw [inv_mul]; exact np_mulb _ _ _
theorem zp_one (e : Int) : zp (1 : U) e = 1 := by
  rcases e with n | n
  · exact np_one n
  · show np (1 : U)⁻¹ (n + 1) = 1; rw [inv_one]; exact np_one _
theorem zp_1 (a : U) : zp a 1 = a := om a
/-- the product of a list -/
def pr : List U → U
  | [] => 1
  | a :: l => a * pr l
theorem pr_app (l m : List U) : pr (l ++ m) = pr l * pr m := by
  induction l with
  | nil => exact (om _).symm
  | cons a l ih => show a * pr (l ++ m) = a * pr l * pr m; rw [ih, ma]
theorem pr_perm {l m : List U} (h : l.Perm m) : pr l = pr m := by
  induction h with
  | nil => rfl
  | cons x _ ih => show x * _ = x * _; rw [ih]
  | swap x y l => show y * (x * pr l) = x * (y * pr l); rw [mlc]
  | trans _ _ a b => rw [a, b]
theorem pr_mul {α : Type} (l : List α) (f g : α → U) : pr (l.map fun x => f x * g x) = pr (l.map f) * pr (l.map g) := by
  induction l with
  | nil => exact (om _).symm
  | cons a l ih => show f a * g a * pr _ = f a * pr _ * (g a * pr _); rw [ih]; simp only [ma, mlc, mc]
theorem pr_ones {α : Type} (l : List α) (f : α → U) (h : ∀ x ∈ l, f x = 1) : pr (l.map f) = 1 := by
  induction l with
  | nil => rfl
  | cons a l ih => show f a * pr _ = 1; rw [h a (by simp), ih fun x hx => h x (by simp [hx]), om]
theorem pr_const (a : U) (l : List U) : pr (l.map fun x => a * x) = np a l.length * pr l := by
  induction l with
  | nil => exact (om _).symm
  | cons b l ih => show a * b * pr _ = np a l.length * a * (b * pr l); rw [ih]; simp only [ma, mlc, mc]
/-- a finite one: powers come back -/
theorem lagrange (L : List U) (nd : L.Nodup) (all : ∀ x, x ∈ L) (a : U) : np a L.length = 1 := by
  have nd2 : (L.map fun x => a * x).Nodup := by
    rw [List.nodup_iff_pairwise_ne] at nd ⊢
    exact List.pairwise_map.mpr (nd.imp fun h e => h (cancel e))
  have hp : (L.map fun x => a * x).Perm L := (List.perm_ext_iff_of_nodup nd2 nd).mpr fun y => ⟨fun _ => all y, fun _ => List.mem_map.mpr ⟨a⁻¹ * y, all _, by rw [← ma, mi, om]⟩⟩
  have h := pr_perm hp
  rw [pr_const] at h
  exact cancel (a := pr L) (by rw [mc, h, mo])
end Gp
open Gp
/-! ### residues -/
def Pr (p : Nat) : Prop := 2 ≤ p ∧ p ≤ 19997 ∧ ∀ d, 2 ≤ d → d * d ≤ p → p % d ≠ 0
theorem Pr.dvd {p d : Nat} (h : Pr p) (hd : d ∣ p) : d = 1 ∨ d = p := by
  obtain ⟨e, rfl⟩ := hd
  have h2 := h.1
  by_cases d1 : d = 1
  · exact .inl d1
  · right
    have d0 : d ≠ 0 := fun z => by subst z; simp at h2
    have e0 : e ≠ 0 := fun z => by subst z; simp at h2
    by_cases e1 : e = 1
    · subst e1; simp
    · exfalso
      by_cases hle : d ≤ e
      · exact h.2.2 d (by omega) (Nat.mul_le_mul_left d hle) (Nat.mul_mod_right d e)
      · exact h.2.2 e (by omega) (Nat.mul_le_mul_right e (by omega)) (Nat.mul_mod_left d e)
theorem Pr.euclid {p a b : Nat} (h : Pr p) (ha : 0 < a ∧ a < p) (hd : p ∣ a * b) : p ∣ b := by
  have hc : Nat.Coprime p a := by
    rcases h.dvd (Nat.gcd_dvd_left p a) with z | z
    · exact z
    · exfalso
      have := Nat.le_of_dvd ha.1 (z ▸ Nat.gcd_dvd_right p a)
      omega
  exact hc.dvd_of_dvd_mul_left hd
abbrev Rs (p : Nat) : Type := {x : Nat // 0 < x ∧ x < p}
theorem Pr.mul_ok {p : Nat} (h : Pr p) (a b : Rs p) : 0 < a.1 * b.1 % p ∧ a.1 * b.1 % p < p := by
  have h2 := h.1
  refine ⟨Nat.pos_of_ne_zero fun z => ?_, Nat.mod_lt _ (by omega)⟩
  have := Nat.le_of_dvd b.2.1 (h.euclid a.2 (Nat.dvd_of_mod_eq_zero z))
  have := b.2.2
  omega
def rmul {p : Nat} (h : Pr p) (a b : Rs p) : Rs p := ⟨a.1 * b.1 % p, h.mul_ok a b⟩
def rone {p : Nat} (h : Pr p) : Rs p := ⟨1, by decide, h.1⟩
theorem rmul_comm {p : Nat} (h : Pr p) (a b : Rs p) : rmul h a b = rmul h b a := Subtype.ext (by show a.1 * b.1 % p = b.1 * a.1 % p; rw [Nat.mul_comm])
theorem rmul_assoc {p : Nat} (h : Pr p) (a b c : Rs p) : rmul h (rmul h a b) c = rmul h a (rmul h b c) := Subtype.ext (by
  show a.1 * b.1 % p * c.1 % p = a.1 * (b.1 * c.1 % p) % p
  rw [Nat.mod_mul_mod, Nat.mul_mod_mod, Nat.mul_assoc])
theorem rone_mul {p : Nat} (h : Pr p) (a : Rs p) : rmul h (rone h) a = a := Subtype.ext (by show 1 * a.1 % p = a.1; rw [Nat.one_mul]; exact Nat.mod_eq_of_lt a.2.2)
theorem rmul_cancel {p : Nat} (h : Pr p) {a b c : Rs p} (e : rmul h a b = rmul h a c) : b = c := by
  have e : a.1 * b.1 % p = a.1 * c.1 % p := congrArg Subtype.val e
  apply Subtype.ext
  have key : ∀ x y : Nat, x ≤ y → y < p → a.1 * x % p = a.1 * y % p → x = y := fun x y hxy hy e => by
    have hd : p ∣ a.1 * (y - x) := by
      rw [Nat.mul_sub]
      exact Nat.dvd_of_mod_eq_zero (Nat.sub_mod_eq_zero_of_mod_eq e.symm)
    have := h.euclid a.2 hd
    rcases Nat.eq_zero_or_pos (y - x) with z | z
    · omega
    · have := Nat.le_of_dvd z this; omega
  rcases Nat.le_total b.1 c.1 with z | z
  · exact key _ _ z c.2.2 e
  · exact (key _ _ z b.2.2 e.symm).symm
def rall (p : Nat) : List (Rs p) := (List.range p).filterMap fun x => if h : 0 < x ∧ x < p then some ⟨x, h⟩ else none
theorem rall_mem {p : Nat} (x : Rs p) : x ∈ rall p := List.mem_filterMap.mpr ⟨x.1, List.mem_range.mpr x.2.2, by rw [dif_pos x.2]⟩
theorem nodup_fmap {α β : Type} (f : α → Option β) (l : List α) (inj : ∀ x ∈ l, ∀ y ∈ l, ∀ z, f x = some z → f y = some z → x = y) (nd : l.Nodup) : (l.filterMap f).Nodup := by
  induction l with
  | nil => exact List.nodup_nil
  | cons a l ih =>
    obtain ⟨h1, h2⟩ := List.nodup_cons.mp nd
    have ih' := ih (fun x hx y hy => inj x (by simp [hx]) y (by simp [hy])) h2
    rw [List.filterMap_cons]
    cases e : f a with
    | none => exact ih'
    | some z =>
      refine List.nodup_cons.mpr ⟨fun hz => ?_, ih'⟩
      obtain ⟨y, hy, ey⟩ := List.mem_filterMap.mp hz
      exact h1 (inj a (by simp) y (by simp [hy]) z e ey ▸ hy)
theorem rall_nodup (p : Nat) : (rall p).Nodup := by
  refine nodup_fmap _ _ (fun x _ y _ z hx hy => ?_) List.nodup_range
  by_cases h1 : 0 < x ∧ x < p
  · by_cases h2 : 0 < y ∧ y < p
    · rw [dif_pos h1] at hx; rw [dif_pos h2] at hy
      have := Option.some.inj (hx.trans hy.symm)
      exact congrArg Subtype.val this
    · rw [dif_neg h2] at hy; cases hy
  · rw [dif_neg h1] at hx; cases hx
theorem rinv_ex {p : Nat} (h : Pr p) (a : Rs p) : ∃ b, rmul h b a = rone h := by
  have nd2 : ((rall p).map fun x => rmul h a x).Nodup := by
    have nd := rall_nodup p
    rw [List.nodup_iff_pairwise_ne] at nd ⊢
    exact List.pairwise_map.mpr (nd.imp fun h1 e => h1 (rmul_cancel h e))
  have hm : rone h ∈ (rall p).map fun x => rmul h a x := by
    apply Classical.byContradiction
    intro hn
    have := List.Nodup.length_le_of_subset (l₁ := rone h :: (rall p).map fun x => rmul h a x) (l₂ := rall p) (List.nodup_cons.mpr ⟨hn, nd2⟩) fun x _ => rall_mem x
    rw [List.length_cons, List.length_map] at this
    omega
  obtain ⟨b, _, e⟩ := List.mem_map.mp hm
  exact ⟨b, by rw [rmul_comm]; exact e⟩
noncomputable def rgp {p : Nat} (h : Pr p) : Gp (Rs p) where
  mul := rmul h
  one := rone h
  inv a := (rinv_ex h a).choose
  mc := rmul_comm h
  ma := rmul_assoc h
  om := rone_mul h
  im a := (rinv_ex h a).choose_spec
theorem rall_len {p : Nat} (h : 1 ≤ p) : (rall p).length = p - 1 := by
  have : ((rall p).map Subtype.val).Perm ((List.range p).erase 0) := by
    refine (List.perm_ext_iff_of_nodup ?_ (List.nodup_range.erase 0)).mpr fun x => ⟨fun hx => ?_, fun hx => ?_⟩
    · have nd := rall_nodup p
      rw [List.nodup_iff_pairwise_ne] at nd ⊢
      exact List.pairwise_map.mpr (nd.imp fun h1 e => h1 (Subtype.ext e))
    · obtain ⟨y, _, rfl⟩ := List.mem_map.mp hx
      exact (List.nodup_range.mem_erase_iff).mpr ⟨by have := y.2.1; omega, List.mem_range.mpr y.2.2⟩
    · obtain ⟨h1, h2⟩ := (List.nodup_range.mem_erase_iff).mp hx
      exact List.mem_map.mpr ⟨⟨x, by omega, List.mem_range.mp h2⟩, rall_mem _, rfl⟩
  have e := this.length_eq
  rw [List.length_map, List.length_erase_of_mem (List.mem_range.mpr (by omega)), List.length_range] at e
  exact e
theorem fermat {p : Nat} (h : Pr p) (a : Rs p) : @np _ (rgp h) a (p - 1) = @OfNat.ofNat (Rs p) 1 (@One.toOfNat1 _ (rgp h).toOne) := by
  letI := rgp h
  have := lagrange (rall p) (rall_nodup p) rall_mem a
  rwa [rall_len (by have := h.1; omega)] at this
/-! ### fractions -/
abbrev Fr : Type := {q : Rat // q ≠ 0}
theorem Fr.mul_ne (a b : Fr) : a.1 * b.1 ≠ 0 := fun h => (Rat.mul_eq_zero.mp h).elim a.2 b.2
theorem Fr.inv_ne (a : Fr) : a.1⁻¹ ≠ 0 := fun h => by
  have := Rat.mul_inv_cancel a.1 a.2
  rw [h, Rat.mul_zero] at this
  exact absurd this (by decide)
instance fgp : Gp Fr where
  mul a b := ⟨a.1 * b.1, a.mul_ne b⟩
  one := ⟨1, by decide⟩
  inv a := ⟨a.1⁻¹, a.inv_ne⟩
  mc a b := Subtype.ext (Rat.mul_comm _ _)
  ma a b c := Subtype.ext (Rat.mul_assoc _ _ _)
  om a := Subtype.ext (Rat.one_mul _)
  im a := Subtype.ext (Rat.inv_mul_cancel _ a.2)
/-! ### both -/
inductive Fk where
  | frac
  | rest (p : Nat) (h : Pr p)
namespace Fk
def U : Fk → Type
  | frac => Fr
  | rest p _ => Rs p
noncomputable instance gp (F : Fk) : Gp F.U := match F with
  | frac => fgp
  | rest _ h => rgp h
def p : Fk → Nat
  | frac => 0
  | rest p _ => p
def dat : (F : Fk) → F.U → PySem.PyData
  | frac, q => .tuple [.int q.1.num, .int q.1.den]
  | rest _ _, x => .int (x.1 : Nat)
def minus : (F : Fk) → F.U
  | frac => (⟨-1, by decide⟩ : Fr)
  | rest p h => (⟨p - 1, by have := h.1; omega, by have := h.1; omega⟩ : Rs p)
def bd : (F : Fk) → Nat → F.U → Prop
  | frac, n, q => q.1.num.natAbs ≤ 2 ^ n ∧ q.1.den ≤ 2 ^ n
  | rest _ _, _, _ => True
def zero : Fk → PySem.PyData
  | frac => .tuple [.int 0, .int 1]
  | rest _ _ => .int 0
theorem dat_inj {F : Fk} {a b : F.U} (h : F.dat a = F.dat b) : a = b := by
  cases F with
  | frac =>
    have h : PySem.PyData.tuple [.int a.1.num, .int a.1.den] = .tuple [.int b.1.num, .int b.1.den] := h
    injection h with h; injection h with h1 h; injection h with h2 _; injection h1 with h1; injection h2 with h2
    exact Subtype.ext (Rat.ext h1 (Int.ofNat.inj h2))
  | rest p hp =>
    have h : PySem.PyData.int ((a.1 : Nat) : Int) = .int ((b.1 : Nat) : Int) := h
    injection h with h
    exact Subtype.ext (Int.ofNat.inj h)
noncomputable instance (F : Fk) : DecidableEq F.U := fun _ _ => Classical.propDecidable _
theorem eqv_dat {F : Fk} (a b : F.U) : PySem.PyData.eqv (F.dat a) (F.dat b) = decide (a = b) := by
  have : ∀ c : Bool, (c = true ↔ a = b) → c = decide (a = b) := fun c h => by
    by_cases e : a = b
    · rw [decide_eq_true e]; exact h.mpr e
    · rw [decide_eq_false e]; cases c with
      | true => exact absurd (h.mp rfl) e
      | false => rfl
  apply this
  cases F with
  | frac =>
    show PySem.PyData.eqv (.tuple [.int a.1.num, .int a.1.den]) (.tuple [.int b.1.num, .int b.1.den]) = true ↔ _
    simp only [PySem.PyData.eqv, PySem.PyData.eqvAll, Bool.and_true, Bool.and_eq_true, beq_iff_eq]
    exact ⟨fun ⟨h1, h2⟩ => Subtype.ext (Rat.ext h1 (Int.ofNat.inj h2)), fun h => by subst h; exact ⟨rfl, rfl⟩⟩
  | rest p hp =>
    show PySem.PyData.eqv (.int ((a.1 : Nat) : Int)) (.int ((b.1 : Nat) : Int)) = true ↔ _
    simp only [PySem.PyData.eqv, beq_iff_eq]
    exact ⟨fun h => Subtype.ext (Int.ofNat.inj h), fun h => by subst h; rfl⟩
theorem eqv_zero {F : Fk} (a : F.U) : PySem.PyData.eqv (F.dat a) F.zero = false := by
  cases F with
  | frac =>
    show PySem.PyData.eqv (.tuple [.int a.1.num, .int a.1.den]) (.tuple [.int 0, .int 1]) = false
    have h : a.1.num ≠ 0 := fun z => a.2 (Rat.num_eq_zero.mp z)
    simp [PySem.PyData.eqv, PySem.PyData.eqvAll, h]
  | rest p hp =>
    show PySem.PyData.eqv (.int ((a.1 : Nat) : Int)) (.int 0) = false
    have h := a.2.1
    simp [PySem.PyData.eqv]
    omega
theorem shaped_dat {F : Fk} (a : F.U) : (F.dat a).canLay0 = true ∧ (F.dat a).depth ≤ 1 := by
  cases F with
  | frac => exact ⟨rfl, Nat.le_refl _⟩
  | rest p hp => exact ⟨rfl, Nat.zero_le _⟩
theorem bd_one {F : Fk} : F.bd 0 1 := by
  cases F with
  | frac => exact ⟨by decide, by decide⟩
  | rest p hp => trivial
theorem bd_minus {F : Fk} : F.bd 0 F.minus := by
  cases F with
  | frac => exact ⟨by decide, by decide⟩
  | rest p hp => trivial
theorem bd_mono {F : Fk} {m n : Nat} {a : F.U} (h : F.bd m a) (hm : m ≤ n) : F.bd n a := by
  cases F with
  | frac => exact ⟨Nat.le_trans h.1 (Nat.pow_le_pow_right (by decide) hm), Nat.le_trans h.2 (Nat.pow_le_pow_right (by decide) hm)⟩
  | rest p hp => trivial
theorem bd_mul {F : Fk} {m n : Nat} {a b : F.U} (h : F.bd m a) (h2 : F.bd n b) : F.bd (m + n) (a * b) := by
  cases F with
  | frac =>
    have e : (a * b : Fr).1 = a.1 * b.1 := rfl
    refine ⟨?_, ?_⟩
    · show (a.1 * b.1).num.natAbs ≤ _
      rw [Rat.num_mul, Nat.pow_add]
      refine Nat.le_trans ?_ (Nat.mul_le_mul h.1 h2.1)
      rw [← Int.natAbs_mul, Int.natAbs_ediv_of_dvd (Int.ofNat_dvd_left.mpr (Nat.gcd_dvd_left _ _))]
      exact Nat.div_le_self _ _
    · show (a.1 * b.1).den ≤ _
      rw [Rat.den_mul, Nat.pow_add]
      exact Nat.le_trans (Nat.div_le_self _ _) (Nat.mul_le_mul h.2 h2.2)
  | rest p hp => trivial
theorem num_den_inv (a : Rat) (h : a ≠ 0) : a⁻¹.num = a.num.sign * a.den ∧ a⁻¹.den = a.num.natAbs := by
  have hn : a.num ≠ 0 := fun z => h (Rat.num_eq_zero.mp z)
  have hg : Int.gcd a.num (a.den : Int) = 1 := a.reduced
  rw [Rat.inv_def, Rat.num_divInt, Rat.den_divInt, if_neg hn, hg]
  exact ⟨by simp, by simp⟩
theorem bd_inv {F : Fk} {n : Nat} {a : F.U} (h : F.bd n a) : F.bd n a⁻¹ := by
  cases F with
  | frac =>
    have hn : a.1.num ≠ 0 := fun z => a.2 (Rat.num_eq_zero.mp z)
    obtain ⟨h1, h2⟩ := num_den_inv a.1 a.2
    refine ⟨?_, ?_⟩
    · show a.1⁻¹.num.natAbs ≤ _
      rw [h1, Int.natAbs_mul, Int.natAbs_sign_of_ne_zero hn, Nat.one_mul]
      exact h.2
    · show a.1⁻¹.den ≤ _
      rw [h2]
      exact h.1
  | rest p hp => trivial
theorem bd_np {F : Fk} {n : Nat} {a : F.U} (h : F.bd n a) (k : Nat) : F.bd (n * k) (np a k) := by
  induction k with
  | zero => exact bd_one
  | succ k ih => rw [Nat.mul_succ]; exact bd_mul ih h
theorem bd_zp {F : Fk} {n : Nat} {a : F.U} (h : F.bd n a) (e : Int) : F.bd (n * e.natAbs) (zp a e) := by
  rcases e with k | k
  · exact bd_np h k
  · exact bd_np (bd_inv h) (k + 1)
end Fk
end K6
/-! text M2 -/
set_option Elab.async false
set_option linter.all false
set_option maxRecDepth 100000
set_option maxHeartbeats 4000000
/-! M2: pictures, trees, tours; plain. -/
namespace K6
open Gp
theorem Gp.mmm {U : Type} [Gp U] (a b c d : U) : a * b * (c * d) = a * c * (b * d) := by rw [ma, ma, mlc b]
/-! sums and products over the first naturals -/
def sm : Nat → (Nat → Int) → Int
  | 0, _ => 0
  | n + 1, g => sm n g + g n
section
variable {U : Type} [Gp U]
def pm : Nat → (Nat → U) → U
  | 0, _ => 1
  | n + 1, g => pm n g * g n
theorem pm_congr {n : Nat} {f g : Nat → U} (h : ∀ i, i < n → f i = g i) : pm n f = pm n g := by
  induction n with
  | zero => rfl
  | succ n ih => show pm n f * f n = pm n g * g n; rw [ih fun i hi => h i (by omega), h n (by omega)]
theorem pm_mul (n : Nat) (f g : Nat → U) : pm n (fun i => f i * g i) = pm n f * pm n g := by
  induction n with
  | zero => exact (om _).symm
  | succ n ih => show pm n _ * (f n * g n) = pm n f * f n * (pm n g * g n); rw [ih, mmm]
theorem pm_ones (n : Nat) (f : Nat → U) (h : ∀ i, i < n → f i = 1) : pm n f = 1 := by
  induction n with
  | zero => rfl
  | succ n ih => show pm n f * f n = 1; rw [ih fun i hi => h i (by omega), h n (by omega), om]
theorem pm_single (n : Nat) (k : Nat) (hk : k < n) (f : Nat → U) (h : ∀ i, i < n → i ≠ k → f i = 1) : pm n f = f k := by
  induction n with
  | zero => omega
  | succ n ih =>
    show pm n f * f n = f k
    by_cases e : k = n
    · subst e; rw [pm_ones k f fun i hi => h i (by omega) (by omega), om]
    · rw [ih (by omega) fun i hi => h i (by omega), h n (by omega) (by omega), mo]
theorem sm_congr {n : Nat} {f g : Nat → Int} (h : ∀ i, i < n → f i = g i) : sm n f = sm n g := by
  induction n with
  | zero => rfl
  | succ n ih => show sm n f + f n = sm n g + g n; rw [ih fun i hi => h i (by omega), h n (by omega)]
theorem sm_zero (n : Nat) (f : Nat → Int) (h : ∀ i, i < n → f i = 0) : sm n f = 0 := by
  induction n with
  | zero => rfl
  | succ n ih => show sm n f + f n = 0; rw [ih fun i hi => h i (by omega), h n (by omega)]; rfl
theorem sm_add (n : Nat) (f g : Nat → Int) : sm n (fun i => f i + g i) = sm n f + sm n g := by
  induction n with
  | zero => rfl
  | succ n ih => show sm n _ + (f n + g n) = sm n f + f n + (sm n g + g n); rw [ih]; omega
theorem sm_upd (n k : Nat) (hk : k < n) (f : Nat → Int) (x : Int) : sm n (fun i => if i = k then x else f i) = sm n f + (x - f k) := by
  induction n with
  | zero => omega
  | succ n ih =>
    show sm n _ + (if n = k then x else f n) = sm n f + f n + _
    by_cases e : n = k
    · subst e
      rw [if_pos rfl, sm_congr (g := f) fun i hi => if_neg (by omega)]
      omega
    · rw [if_neg e, ih (by omega)]
      omega
theorem sm_filter (n : Nat) (b : Nat → Bool) (g : Nat → Int) : (((List.range n).filter b).map g).sum = sm n fun j => if b j = true then g j else 0 := by
  induction n with
  | zero => rfl
  | succ n ih =>
    rw [List.range_succ, List.filter_append, List.map_append, List.sum_append, ih]
    show _ = sm n _ + _
    cases h : b n <;> simp [List.filter_cons, h]
/-- products by places, products by vertices -/
theorem pm_swap (N V : Nat) (f : Nat → U) (e : Nat → Nat) (t : Nat → Int) (he : ∀ j, j < N → e j < V) :
    pm N (fun j => zp (f (e j)) (t j)) = pm V fun v => zp (f v) (sm N fun j => if e j = v then t j else 0) := by
  induction N with
  | zero => exact (pm_ones V _ fun v _ => rfl).symm
  | succ N ih =>
    show pm N _ * _ = pm V fun v => zp (f v) (sm N _ + _)
    rw [ih fun j hj => he j (by omega), pm_congr (fun v _ => zp_add (f v) _ _), pm_mul,
      pm_single V (e N) (he N (by omega)) (fun v => zp (f v) (if e N = v then t N else 0)) fun v _ hv => by rw [if_neg (Ne.symm hv)]; rfl, if_pos rfl]
end
/-! ### pictures -/
structure PW (n m : Nat) (ps : List (Nat × Nat)) : Prop where
  n1 : 1 ≤ n
  n5 : n ≤ 5
  m1 : 1 ≤ m
  m5 : m ≤ 5
  inr : ∀ p ∈ ps, p.1 < n ∧ p.2 < m
  srt : ps.Pairwise fun p q => p.1 < q.1 ∨ (p.1 = q.1 ∧ p.2 < q.2)
  len : ps.length ≤ 25
def pa (ps : List (Nat × Nat)) (k : Nat) : Nat × Nat := ps.getD k (0, 0)
def sd (s : Nat) (p : Nat × Nat) : Nat := if s = 0 then p.1 else p.2
/-- the vertex at which a pair's side stands -/
def vt (n : Nat) (ps : List (Nat × Nat)) (k s : Nat) : Nat := if s = 0 then (pa ps k).1 else n + (pa ps k).2
theorem pa_in {n m : Nat} {ps : List (Nat × Nat)} (h : PW n m ps) {k : Nat} (hk : k < ps.length) : (pa ps k).1 < n ∧ (pa ps k).2 < m := by
  refine h.inr _ ?_
  rw [pa, List.getD_eq_getElem?_getD, List.getElem?_eq_getElem hk]
  exact List.getElem_mem hk
/-! trees -/
def tstep (pick : Nat → Nat → Nat) (n : Nat) (ps : List (Nat × Nat)) (st : List Nat × List Nat) (k : Nat) : List Nat × List Nat :=
  let o := st.1.getD (pa ps k).1 0
  let t := st.1.getD (n + (pa ps k).2) 0
  if o = t then st else (st.1.map fun x => if x = o ∨ x = t then pick o t else x, st.2 ++ [k])
def tr (pick : Nat → Nat → Nat) (n m : Nat) (ps : List (Nat × Nat)) (i : Nat) : List Nat × List Nat := (List.range i).foldl (tstep pick n ps) (List.range (n + m), [])
def pfst (o _ : Nat) : Nat := o
def pmin (o t : Nat) : Nat := if t < o then t else o
theorem tr_succ (pick : Nat → Nat → Nat) (n m : Nat) (ps : List (Nat × Nat)) (i : Nat) : tr pick n m ps (i + 1) = tstep pick n ps (tr pick n m ps i) i := by
  rw [tr, List.range_succ, List.foldl_append]; rfl
section
variable {pick : Nat → Nat → Nat} {n m : Nat} {ps : List (Nat × Nat)}
theorem tr_len (i : Nat) : (tr pick n m ps i).1.length = n + m := by
  induction i with
  | zero => simp [tr]
  | succ i ih =>
    rw [tr_succ]
    unfold tstep
    dsimp only
    split
    · exact ih
    · rw [List.length_map]; exact ih
def mk (pick : Nat → Nat → Nat) (n m : Nat) (ps : List (Nat × Nat)) (i v : Nat) : Nat := (tr pick n m ps i).1.getD v 0
theorem mk_zero {v : Nat} (hv : v < n + m) : mk pick n m ps 0 v = v := by
  show (List.range (n + m)).getD v 0 = v
  rw [List.getD_eq_getElem?_getD, List.getElem?_range hv]; rfl
theorem mk_succ {i v : Nat} (hv : v < n + m) : mk pick n m ps (i + 1) v = if mk pick n m ps i (vt n ps i 0) = mk pick n m ps i (vt n ps i 1) then mk pick n m ps i v else
    if mk pick n m ps i v = mk pick n m ps i (vt n ps i 0) ∨ mk pick n m ps i v = mk pick n m ps i (vt n ps i 1) then pick (mk pick n m ps i (vt n ps i 0)) (mk pick n m ps i (vt n ps i 1)) else mk pick n m ps i v := by
  show (tr pick n m ps (i + 1)).1.getD v 0 = _
  rw [tr_succ, tstep]
  show (if mk pick n m ps i (vt n ps i 0) = mk pick n m ps i (vt n ps i 1) then _ else _ : List Nat × List Nat).1.getD v 0 = _
  split
  · rfl
  · rw [List.getD_eq_getElem?_getD, List.getElem?_map, List.getElem?_eq_getElem (by rw [tr_len]; exact hv)]
    have : mk pick n m ps i v = ((tr pick n m ps i).1)[v]'(by rw [tr_len]; exact hv) := by
      rw [mk, List.getD_eq_getElem?_getD, List.getElem?_eq_getElem (by rw [tr_len]; exact hv)]; rfl
    rw [this]; rfl
theorem tr2_succ {i : Nat} : (tr pick n m ps (i + 1)).2 = if mk pick n m ps i (vt n ps i 0) = mk pick n m ps i (vt n ps i 1) then (tr pick n m ps i).2 else (tr pick n m ps i).2 ++ [i] := by
  rw [tr_succ, tstep]
  show (if mk pick n m ps i (vt n ps i 0) = mk pick n m ps i (vt n ps i 1) then _ else _ : List Nat × List Nat).2 = _
  split <;> rfl
def Pk (pick : Nat → Nat → Nat) : Prop := ∀ o t, pick o t = o ∨ pick o t = t
theorem pk_fst : Pk pfst := fun _ _ => .inl rfl
theorem pk_min : Pk pmin := fun o t => by unfold pmin; split <;> simp
theorem part_upd (pk : Pk pick) {o t x y : Nat} : ((if x = o ∨ x = t then pick o t else x) = if y = o ∨ y = t then pick o t else y) ↔ (x = y ∨ ((x = o ∨ x = t) ∧ (y = o ∨ y = t))) := by
  rcases pk o t with h | h <;> rw [h] <;> split <;> split <;> omega
theorem vt_lt (h : PW n m ps) {i s : Nat} (hi : i < ps.length) : vt n ps i s < n + m := by
  have := pa_in h hi
  unfold vt
  split <;> omega
/-- one relation for all picks -/
theorem mk_same {pick' : Nat → Nat → Nat} (h : PW n m ps) (pk : Pk pick) (pk' : Pk pick') (i : Nat) (hi : i ≤ ps.length) : (∀ u v, u < n + m → v < n + m → (mk pick n m ps i u = mk pick n m ps i v ↔ mk pick' n m ps i u = mk pick' n m ps i v)) ∧ (tr pick n m ps i).2 = (tr pick' n m ps i).2 := by
  induction i with
  | zero => exact ⟨fun u v hu hv => by rw [mk_zero hu, mk_zero hv, mk_zero hu, mk_zero hv], rfl⟩
  | succ i ih =>
    obtain ⟨ih1, ih2⟩ := ih (by omega)
    have h0 := vt_lt h (i := i) (s := 0) (by omega)
    have h1 := vt_lt h (i := i) (s := 1) (by omega)
    have e := ih1 _ _ h0 h1
    refine ⟨fun u v hu hv => ?_, ?_⟩
    · rw [mk_succ hu, mk_succ hv, mk_succ hu, mk_succ hv]
      by_cases c : mk pick n m ps i (vt n ps i 0) = mk pick n m ps i (vt n ps i 1)
      · rw [if_pos c, if_pos c, if_pos (e.mp c), if_pos (e.mp c)]; exact ih1 u v hu hv
      · rw [if_neg c, if_neg c, if_neg fun z => c (e.mpr z), if_neg fun z => c (e.mpr z), part_upd pk, part_upd pk', ih1 u v hu hv, ih1 u _ hu h0, ih1 u _ hu h1, ih1 v _ hv h0, ih1 v _ hv h1]
    · rw [tr2_succ, tr2_succ, ih2]
      by_cases c : mk pick n m ps i (vt n ps i 0) = mk pick n m ps i (vt n ps i 1)
      · rw [if_pos c, if_pos (e.mp c)]
      · rw [if_neg c, if_neg fun z => c (e.mpr z)]
/-- what is joined stays joined -/
theorem mk_keep {i : Nat} {u v : Nat} (hu : u < n + m) (hv : v < n + m) (e : mk pick n m ps i u = mk pick n m ps i v) : mk pick n m ps (i + 1) u = mk pick n m ps (i + 1) v := by
  rw [mk_succ hu, mk_succ hv, e]
theorem mk_join (h : PW n m ps) {i : Nat} (hi : i < ps.length) : mk pick n m ps (i + 1) (vt n ps i 0) = mk pick n m ps (i + 1) (vt n ps i 1) := by
  rw [mk_succ (vt_lt h hi), mk_succ (vt_lt h hi)]
  split
  · assumption
  · rw [if_pos (.inl rfl), if_pos (.inr rfl)]
theorem mk_pairs (h : PW n m ps) (i : Nat) (hi : i ≤ ps.length) : ∀ k, k < i → mk pick n m ps i (vt n ps k 0) = mk pick n m ps i (vt n ps k 1) := by
  induction i with
  | zero => intro k hk; omega
  | succ i ih =>
    intro k hk
    by_cases e : k = i
    · subst e; exact mk_join h (by omega)
    · exact mk_keep (vt_lt h (by omega)) (vt_lt h (by omega)) (ih (by omega) k (by omega))
/-- the tree's places ascend; each joins what was parted -/
theorem tree_facts (i : Nat) : (∀ k ∈ (tr pick n m ps i).2, k < i ∧ mk pick n m ps k (vt n ps k 0) ≠ mk pick n m ps k (vt n ps k 1)) ∧ (tr pick n m ps i).2.Pairwise (· < ·) := by
  induction i with
  | zero => exact ⟨fun k hk => by simp [tr] at hk, .nil⟩
  | succ i ih =>
    rw [tr2_succ]
    split
    · exact ⟨fun k hk => ⟨by have := (ih.1 k hk).1; omega, (ih.1 k hk).2⟩, ih.2⟩
    · next c =>
      refine ⟨fun k hk => ?_, List.pairwise_append.mpr ⟨ih.2, by simp, fun a ha b hb => ?_⟩⟩
      · rcases List.mem_append.mp hk with hk | hk
        · exact ⟨by have := (ih.1 k hk).1; omega, (ih.1 k hk).2⟩
        · have : k = i := by simpa using hk
          subst this
          exact ⟨by omega, c⟩
      · have : b = i := by simpa using hb
        subst this
        exact (ih.1 a ha).1
end
/-- a forest by places: each place joins what the places before it leave parted -/
def Fo (n : Nat) (ps : List (Nat × Nat)) (L : List Nat) : Prop := ∀ k ∈ L, ∃ c : Nat → Nat, (∀ j ∈ L, j < k → c (vt n ps j 0) = c (vt n ps j 1)) ∧ c (vt n ps k 0) ≠ c (vt n ps k 1)
theorem Fo.sub {n : Nat} {ps : List (Nat × Nat)} {L L' : List Nat} (h : Fo n ps L) (s : ∀ k ∈ L', k ∈ L) : Fo n ps L' := fun k hk => by
  obtain ⟨c, h1, h2⟩ := h k (s k hk)
  exact ⟨c, fun j hj => h1 j (s j hj), h2⟩
theorem tree_fo {pick : Nat → Nat → Nat} {n m : Nat} {ps : List (Nat × Nat)} (h : PW n m ps) : Fo n ps (tr pick n m ps ps.length).2 := fun k hk => by
  obtain ⟨h1, h2⟩ := (tree_facts ps.length).1 k hk
  refine ⟨mk pick n m ps k, fun j _ hj => mk_pairs h k (by omega) j hj, h2⟩
theorem ex_max : ∀ (L : List Nat), L ≠ [] → ∃ k ∈ L, ∀ j ∈ L, j ≤ k
  | [a], _ => ⟨a, by simp, by simp⟩
  | a :: b :: l, _ => by
    obtain ⟨k, h1, h2⟩ := ex_max (b :: l) (by simp)
    by_cases e : a ≤ k
    · exact ⟨k, by simp only [List.mem_cons] at *; exact .inr h1, fun j hj => by
        rcases List.mem_cons.mp hj with z | z
        · omega
        · exact h2 j z⟩
    · exact ⟨a, by simp, fun j hj => by
        rcases List.mem_cons.mp hj with z | z
        · omega
        · have := h2 j z; omega⟩
/-- a forest has a leaf that is not r -/
theorem leaf_ex {n : Nat} {ps : List (Nat × Nat)} : ∀ (N : Nat) (L : List Nat), L.length ≤ N → Fo n ps L → L ≠ [] → ∀ r : Nat, ∃ k ∈ L, ∃ s, s < 2 ∧ vt n ps k s ≠ r ∧ ∀ j ∈ L, j ≠ k → vt n ps j 0 ≠ vt n ps k s ∧ vt n ps j 1 ≠ vt n ps k s := by
  intro N
  induction N with
  | zero => intro L hl _ hne; exact absurd (List.length_eq_zero_iff.mp (by omega)) hne
  | succ N ih =>
    intro L hl fo hne r
    obtain ⟨k, hk, hmax⟩ := ex_max L hne
    obtain ⟨c, hc, hck⟩ := fo k hk
    -- the side s of k whose class has not r
    have pickS : ∃ s, s < 2 ∧ c (vt n ps k s) ≠ c r := by
      by_cases e : c (vt n ps k 0) = c r
      · exact ⟨1, by omega, fun z => hck (by rw [e, z])⟩
      · exact ⟨0, by omega, e⟩
    obtain ⟨s, hs, hsr⟩ := pickS
    have c2 : ∀ j ∈ L, j ≠ k → c (vt n ps j 0) = c (vt n ps j 1) := fun j hj hn => hc j hj (by have := hmax j hj; omega)
    have other : ∀ s', s' < 2 → s' ≠ s → c (vt n ps k s') ≠ c (vt n ps k s) := fun s' h1 h2 => by
      have : (s = 0 ∧ s' = 1) ∨ (s = 1 ∧ s' = 0) := by omega
      rcases this with ⟨rfl, rfl⟩ | ⟨rfl, rfl⟩
      · exact Ne.symm hck
      · exact hck
    let L' := L.filter fun j => decide (j ≠ k) && decide (c (vt n ps j 0) = c (vt n ps k s))
    have hL' : ∀ j, j ∈ L' ↔ j ∈ L ∧ j ≠ k ∧ c (vt n ps j 0) = c (vt n ps k s) := fun j => by simp [L', List.mem_filter]
    by_cases e : L' = []
    · refine ⟨k, hk, s, hs, fun z => hsr (by rw [z]), fun j hj hn => ?_⟩
      have hno : c (vt n ps j 0) ≠ c (vt n ps k s) := fun z => by
        have := (hL' j).mpr ⟨hj, hn, z⟩
        rw [e] at this; cases this
      exact ⟨fun z => hno (by rw [z]), fun z => hno (by rw [c2 j hj hn, z])⟩
    · have hlen : L'.length ≤ N := by
        have h1 : L'.length < L.length := by
          apply Classical.byContradiction
          intro hge
          have h2 : L' = L := List.filter_eq_self.mpr (by
            have hh : L'.length = L.length := Nat.le_antisymm (List.length_filter_le _ L) (by omega)
            exact List.length_filter_eq_length_iff.mp hh)
          have := (hL' k).mp (by rw [h2]; exact hk)
          exact this.2.1 rfl
        omega
      obtain ⟨k', hk', s', hs', hv, hall⟩ := ih L' hlen (fo.sub fun j hj => ((hL' j).mp hj).1) e (vt n ps k s)
      obtain ⟨hkL, hkn, hkc⟩ := (hL' k').mp hk'
      have cv : c (vt n ps k' s') = c (vt n ps k s) := by
        have : s' = 0 ∨ s' = 1 := by omega
        rcases this with rfl | rfl
        · exact hkc
        · rw [← c2 k' hkL hkn]; exact hkc
      refine ⟨k', hkL, s', hs', fun z => hsr (by rw [← cv, z]), fun j hj hn => ?_⟩
      by_cases ejk : j = k
      · subst ejk
        have two : ∀ t, t < 2 → vt n ps j t ≠ vt n ps k' s' := fun t ht z => by
          by_cases et : t = s
          · subst et; exact hv z.symm
          · exact other t ht et (by rw [z, cv])
        exact ⟨two 0 (by omega), two 1 (by omega)⟩
      · by_cases ec : c (vt n ps j 0) = c (vt n ps k s)
        · exact hall j ((hL' j).mpr ⟨hj, ejk, ec⟩) hn
        · exact ⟨fun z => ec (by rw [z, cv]), fun z => ec (by rw [c2 j hj ejk, z, cv])⟩
/-! ### tours -/
def good (ps : List (Nat × Nat)) (left : List Nat) (k s : Nat) : Bool := left.all fun j => j == k || sd s (pa ps j) != sd s (pa ps k)
def ends (ps : List (Nat × Nat)) (left : List Nat) (k : Nat) : List Nat := [0, 1].filter (good ps left k)
def lf (ps : List (Nat × Nat)) (left : List Nat) : Option (Nat × Nat) := left.findSome? fun k => (ends ps left k).head?.map fun s => (k, s)
theorem lf_some {n m : Nat} {ps : List (Nat × Nat)} (h : PW n m ps) {left : List Nat} (hin : ∀ k ∈ left, k < ps.length) (fo : Fo n ps left) (hne : left ≠ []) :
    ∃ k s, lf ps left = some (k, s) ∧ k ∈ left ∧ s < 2 ∧ good ps left k s = true := by
  obtain ⟨k, hk, s, hs, _, hall⟩ := leaf_ex left.length left (Nat.le_refl _) fo hne 0
  have g : good ps left k s = true := by
    refine List.all_eq_true.mpr fun j hj => ?_
    by_cases e : j = k
    · simp [e]
    · have := hall j hj e
      have : sd s (pa ps j) ≠ sd s (pa ps k) := by
        have hs' : s = 0 ∨ s = 1 := by omega
        rcases hs' with rfl | rfl
        · exact this.1
        · intro z; exact this.2 (by show n + (pa ps j).2 = n + (pa ps k).2; have z : (pa ps j).2 = (pa ps k).2 := z; omega)
      simp [this]
  have hsome : (lf ps left).isSome := by
    rw [lf, List.findSome?_isSome_iff]
    refine ⟨k, hk, ?_⟩
    have : s ∈ ends ps left k := List.mem_filter.mpr ⟨by have : s = 0 ∨ s = 1 := by omega
                                                         rcases this with rfl | rfl <;> simp, g⟩
    cases e : ends ps left k with
    | nil => rw [e] at this; cases this
    | cons a l => rfl
  obtain ⟨⟨k', s'⟩, e⟩ := Option.isSome_iff_exists.mp hsome
  refine ⟨k', s', e, ?_⟩
  obtain ⟨l1, a, l2, e1, e2, _⟩ := List.findSome?_eq_some_iff.mp e
  have hm : s' ∈ ends ps left a ∧ a = k' := by
    cases e3 : ends ps left a with
    | nil => rw [e3] at e2; cases e2
    | cons b l =>
      rw [e3] at e2
      have e2 : some (a, b) = some (k', s') := e2
      injection e2 with e2; injection e2 with h1 h2
      exact ⟨by rw [← h2]; simp, h1⟩
  obtain ⟨hm, rfl⟩ := hm
  obtain ⟨h1, h2⟩ := List.mem_filter.mp hm
  refine ⟨by rw [e1]; simp, ?_, h2⟩
  have : s' = 0 ∨ s' = 1 := by simpa using h1
  omega
/-- the sum of the other numbers at an end -/
def esum (ps : List (Nat × Nat)) (out : List Int) (k s : Nat) : Int :=
  (((List.range ps.length).filter fun j => decide (sd s (pa ps j) = sd s (pa ps k)) && decide (j ≠ k)).map fun j => out.getD j 0).sum
def tl (ps : List (Nat × Nat)) : Nat → List Nat → List Int → List Int
  | 0, _, out => out
  | f + 1, left, out => match lf ps left with
    | none => out
    | some (k, s) => tl ps f (left.filter fun j => decide (j ≠ k)) (out.set k (0 - esum ps out k s))
theorem getD_set {α : Type} (l : List α) (k j : Nat) (x d : α) (hk : k < l.length) : (l.set k x).getD j d = if j = k then x else l.getD j d := by
  rw [List.getD_eq_getElem?_getD, List.getElem?_set]
  by_cases e : k = j
  · subst e; simp [hk]
  · rw [if_neg e, if_neg (Ne.symm e), List.getD_eq_getElem?_getD]
section
variable {n m : Nat} {ps : List (Nat × Nat)}
theorem tl_len : ∀ (f : Nat) (left : List Nat) (out : List Int), (tl ps f left out).length = out.length
  | 0, _, _ => rfl
  | f + 1, left, out => by
    rw [tl]
    split
    · rfl
    · rw [tl_len f, List.length_set]
theorem tl_out : ∀ (f : Nat) (left : List Nat) (out : List Int) (j : Nat), (∀ k ∈ left, k < out.length) → j ∉ left → (∀ k s, lf ps left = some (k, s) → k ∈ left) → (tl ps f left out).getD j 0 = out.getD j 0
  | 0, _, _, _, _, _, _ => rfl
  | f + 1, left, out, j, hin, hj, hl => by
    rw [tl]
    split
    · rfl
    · next k s e =>
      have hk := hl k s e
      rw [tl_out f _ _ j (fun x hx => by rw [List.length_set]; exact hin x (List.mem_filter.mp hx).1) (fun z => hj (List.mem_filter.mp z).1) fun k' s' e' => by
        obtain ⟨l1, a, l2, e1, e2, _⟩ := List.findSome?_eq_some_iff.mp e'
        have : a = k' := by
          cases e3 : (ends ps (left.filter fun j => decide (j ≠ k)) a).head? with
          | none => rw [e3] at e2; cases e2
          | some b => rw [e3] at e2; have e2 : some (a, b) = some (k', s') := e2; injection e2 with e2; injection e2
        rw [← this, e1]; simp, getD_set _ _ _ _ _ (hin k hk), if_neg fun z => hj (by rw [z]; exact hk)]
theorem lf_mem {left : List Nat} {k s : Nat} (e : lf ps left = some (k, s)) : k ∈ left := by
  obtain ⟨l1, a, l2, e1, e2, _⟩ := List.findSome?_eq_some_iff.mp e
  have : a = k := by
    cases e3 : (ends ps left a).head? with
    | none => rw [e3] at e2; cases e2
    | some b => rw [e3] at e2; have e2 : some (a, b) = some (k, s) := e2; injection e2 with e2; injection e2
  rw [← this, e1]; simp
/-- the numbers at a vertex -/
def res (n : Nat) (ps : List (Nat × Nat)) (out : List Int) (v : Nat) : Int :=
  sm ps.length (fun j => if vt n ps j 0 = v then out.getD j 0 else 0) + sm ps.length (fun j => if vt n ps j 1 = v then out.getD j 0 else 0)
theorem esum_eq (h : PW n m ps) {out : List Int} {k s : Nat} (hk : k < ps.length) (hs : s < 2) : esum ps out k s = res n ps out (vt n ps k s) - out.getD k 0 := by
  have hi := pa_in h hk
  rw [esum, sm_filter]
  have e1 : sm ps.length (fun j => if (decide (sd s (pa ps j) = sd s (pa ps k)) && decide (j ≠ k)) = true then out.getD j 0 else 0) = sm ps.length (fun j => if j = k then 0 else if vt n ps j s = vt n ps k s then out.getD j 0 else 0) := by
    refine sm_congr fun j hj => ?_
    by_cases e : j = k
    · simp [e]
    · have hs' : s = 0 ∨ s = 1 := by omega
      have : sd s (pa ps j) = sd s (pa ps k) ↔ vt n ps j s = vt n ps k s := by
        rcases hs' with rfl | rfl
        · rfl
        · simp [vt, sd]
      by_cases e2 : vt n ps j s = vt n ps k s
      · rw [if_neg e, if_pos e2, if_pos (by simp [this.mpr e2, e])]
      · rw [if_neg e, if_neg e2, if_neg (by simp [e]; exact fun z => absurd (this.mp z) e2)]
  rw [e1, sm_upd _ _ hk, if_pos rfl, res]
  have hs' : s = 0 ∨ s = 1 := by omega
  rcases hs' with rfl | rfl
  · rw [sm_zero ps.length (fun j => if vt n ps j 1 = vt n ps k 0 then out.getD j 0 else 0) fun j hj => if_neg (by simp [vt]; omega)]; omega
  · rw [sm_zero ps.length (fun j => if vt n ps j 0 = vt n ps k 1 then out.getD j 0 else 0) fun j hj => if_neg (by have := pa_in h hj; simp [vt]; omega)]; omega
theorem res_set (h : PW n m ps) {out : List Int} (ho : out.length = ps.length) {k : Nat} (hk : k < ps.length) (x : Int) (v : Nat) :
    res n ps (out.set k x) v = res n ps out v + ((if vt n ps k 0 = v then x - out.getD k 0 else 0) + (if vt n ps k 1 = v then x - out.getD k 0 else 0)) := by
  have key : ∀ s, sm ps.length (fun j => if vt n ps j s = v then (out.set k x).getD j 0 else 0) = sm ps.length (fun j => if vt n ps j s = v then out.getD j 0 else 0) + (if vt n ps k s = v then x - out.getD k 0 else 0) := fun s => by
    have : sm ps.length (fun j => if vt n ps j s = v then (out.set k x).getD j 0 else 0) = sm ps.length (fun j => if j = k then (if vt n ps k s = v then x else 0) else if vt n ps j s = v then out.getD j 0 else 0) := by
      refine sm_congr fun j hj => ?_
      rw [getD_set _ _ _ _ _ (by omega)]
      by_cases e : j = k
      · subst e; rw [if_pos rfl, if_pos rfl]
      · rw [if_neg e, if_neg e]
    rw [this, sm_upd _ _ hk]
    split <;> omega
  rw [res, key 0, key 1, res]
  omega
/-- a potential on a forest's places; each tour's numbers at a vertex add up to 0 or count for nothing -/
theorem potential {U : Type} [Gp U] (h : PW n m ps) (q : Nat → U) : ∀ (f : Nat) (left : List Nat), left.length = f → left.Nodup → (∀ k ∈ left, k < ps.length) → Fo n ps left →
    ∃ g : Nat → U, (∀ k ∈ left, q k = g (vt n ps k 0) * g (vt n ps k 1)) ∧ ∀ out : List Int, out.length = ps.length → ∀ v, g v = 1 ∨ res n ps (tl ps f left out) v = 0 := by
  intro f
  induction f with
  | zero =>
    intro left hl _ _ _
    rw [List.length_eq_zero_iff] at hl
    subst hl
    exact ⟨fun _ => 1, fun k hk => (by cases hk), fun _ _ _ => .inl rfl⟩
  | succ f ih =>
    intro left hl nd hin fo
    obtain ⟨k, s, e, hk, hs, hg⟩ := lf_some h hin fo (fun z => by rw [z] at hl; cases hl)
    have hkl := hin k hk
    have hleft : (left.filter fun j => decide (j ≠ k)).length = f := by
      have hp : left.erase k = left.filter fun j => decide (j ≠ k) := by
        rw [nd.erase_eq_filter]; exact List.filter_congr fun x _ => by by_cases z : x = k <;> simp [bne, z]
      rw [← hp, List.length_erase_of_mem hk, hl]; rfl
    obtain ⟨g, g1, g2⟩ := ih (left.filter fun j => decide (j ≠ k)) hleft (nd.sublist List.filter_sublist) (fun j hj => hin j (List.mem_filter.mp hj).1) (fo.sub fun j hj => (List.mem_filter.mp hj).1)
    have hs' : s = 0 ∨ s = 1 := by omega
    have hik := pa_in h hkl
    -- no other place of left stands at the vertex
    have free : ∀ j ∈ left, j ≠ k → vt n ps j 0 ≠ vt n ps k s ∧ vt n ps j 1 ≠ vt n ps k s := fun j hj hn => by
      have := List.all_eq_true.mp hg j hj
      have hne : sd s (pa ps j) ≠ sd s (pa ps k) := by simpa [hn] using this
      have hij := pa_in h (hin j hj)
      rcases hs' with rfl | rfl
      · exact ⟨hne, by simp [vt]; omega⟩
      · exact ⟨by simp [vt]; omega, by simp [vt, sd] at hne ⊢; exact hne⟩
    have nev : vt n ps k 0 ≠ vt n ps k 1 := by simp [vt]; omega
    refine ⟨fun v => if v = vt n ps k s then q k * (g (vt n ps k (1 - s)))⁻¹ else g v, fun j hj => ?_, fun out ho v => ?_⟩
    · by_cases ej : j = k
      · subst ej
        rcases hs' with rfl | rfl
        · show q j = (if vt n ps j 0 = vt n ps j 0 then _ else _) * if vt n ps j 1 = vt n ps j 0 then _ else _
          rw [if_pos rfl, if_neg (Ne.symm nev)]; show _ = q j * (g (vt n ps j 1))⁻¹ * g (vt n ps j 1); rw [Gp.ma, im, mo]
        · show q j = (if vt n ps j 0 = vt n ps j 1 then _ else _) * if vt n ps j 1 = vt n ps j 1 then _ else _
          rw [if_neg nev, if_pos rfl]; show _ = g (vt n ps j 0) * (q j * (g (vt n ps j 0))⁻¹); rw [mc, Gp.ma, im, mo]
      · obtain ⟨f0, f1⟩ := free j hj ej
        show q j = (if vt n ps j 0 = vt n ps k s then _ else _) * if vt n ps j 1 = vt n ps k s then _ else _
        rw [if_neg f0, if_neg f1]
        exact g1 j (List.mem_filter.mpr ⟨hj, by simp [ej]⟩)
    · have et : tl ps (f + 1) left out = tl ps f (left.filter fun j => decide (j ≠ k)) (out.set k (0 - esum ps out k s)) := by rw [tl, e]
      rw [et]
      by_cases ev : v = vt n ps k s
      · right
        subst ev
        have same : res n ps (tl ps f (left.filter fun j => decide (j ≠ k)) (out.set k (0 - esum ps out k s))) (vt n ps k s) = res n ps (out.set k (0 - esum ps out k s)) (vt n ps k s) := by
          have key : ∀ s', sm ps.length (fun j => if vt n ps j s' = vt n ps k s then (tl ps f (left.filter fun j => decide (j ≠ k)) (out.set k (0 - esum ps out k s))).getD j 0 else 0) = sm ps.length (fun j => if vt n ps j s' = vt n ps k s then (out.set k (0 - esum ps out k s)).getD j 0 else 0) := fun s' => by
            refine sm_congr fun j hj => ?_
            by_cases c : vt n ps j s' = vt n ps k s
            · rw [if_pos c, if_pos c]
              refine tl_out _ _ _ _ (fun x hx => by rw [List.length_set, ho]; exact hin x (List.mem_filter.mp hx).1) (fun hm => ?_) fun k' s'' e' => lf_mem e'
              obtain ⟨hm1, hm2⟩ := List.mem_filter.mp hm
              have hn : j ≠ k := by simpa using hm2
              obtain ⟨f0, f1⟩ := free j hm1 hn
              unfold vt at c f0 f1
              split at c <;> simp_all
            · rw [if_neg c, if_neg c]
          rw [res, key 0, key 1, res]
        rw [same, res_set h ho hkl, esum_eq h hkl hs]
        rcases hs' with rfl | rfl
        · rw [if_pos rfl, if_neg (Ne.symm nev)]; omega
        · rw [if_neg nev, if_pos rfl]; omega
      · show (if v = vt n ps k s then _ else g v) = 1 ∨ _
        rw [if_neg ev]
        exact g2 _ (by rw [List.length_set]; exact ho) v
/-! the size of a tour's numbers -/
def tot (n m : Nat) (ps : List (Nat × Nat)) (out : List Int) : Int := sm (n + m) fun v => (res n ps out v).natAbs
theorem sm_nn (N : Nat) (f : Nat → Int) (h : ∀ i, i < N → 0 ≤ f i) : 0 ≤ sm N f := by
  induction N with
  | zero => exact Int.le_refl 0
  | succ N ih => show 0 ≤ sm N f + f N; have := ih fun i hi => h i (by omega); have := h N (by omega); omega
theorem sm_ge (N : Nat) (f : Nat → Int) (h : ∀ i, i < N → 0 ≤ f i) (k : Nat) (hk : k < N) : f k ≤ sm N f := by
  induction N with
  | zero => omega
  | succ N ih =>
    show f k ≤ sm N f + f N
    have h1 := sm_nn N f fun i hi => h i (by omega)
    have h2 := h N (by omega)
    by_cases e : k = N
    · subst e; omega
    · have := ih (fun i hi => h i (by omega)) (by omega); omega
theorem tot_set (h : PW n m ps) {out : List Int} (ho : out.length = ps.length) {k : Nat} (hk : k < ps.length) (x : Int) :
    tot n m ps (out.set k x) = tot n m ps out + (((res n ps out (vt n ps k 0) + (x - out.getD k 0)).natAbs - (res n ps out (vt n ps k 0)).natAbs : Int) + ((res n ps out (vt n ps k 1) + (x - out.getD k 0)).natAbs - (res n ps out (vt n ps k 1)).natAbs : Int)) := by
  have hik := pa_in h hk
  have nev : vt n ps k 0 ≠ vt n ps k 1 := by simp [vt]; omega
  have e : tot n m ps (out.set k x) = sm (n + m) fun v => if v = vt n ps k 1 then ((res n ps out (vt n ps k 1) + (x - out.getD k 0)).natAbs : Int) else if v = vt n ps k 0 then ((res n ps out (vt n ps k 0) + (x - out.getD k 0)).natAbs : Int) else (res n ps out v).natAbs := by
    refine sm_congr fun v _ => ?_
    rw [res_set h ho hk]
    by_cases e1 : v = vt n ps k 1
    · subst e1; rw [if_pos rfl, if_neg nev, if_pos rfl]; congr 2; omega
    · rw [if_neg e1]
      by_cases e0 : v = vt n ps k 0
      · subst e0; rw [if_pos rfl, if_neg (Ne.symm nev), if_pos rfl]; congr 2; omega
      · rw [if_neg e0, if_neg (Ne.symm e0), if_neg (Ne.symm e1)]; congr 2; omega
  rw [e, sm_upd _ _ (vt_lt h hk), sm_upd _ _ (vt_lt h hk), if_neg (Ne.symm nev), tot]
  omega
theorem tl_small (h : PW n m ps) (B : Int) : ∀ (f : Nat) (left : List Nat) (out : List Int), left.length = f → left.Nodup → (∀ k ∈ left, k < ps.length) → Fo n ps left → out.length = ps.length → (∀ k ∈ left, out.getD k 0 = 0) →
    tot n m ps out ≤ B → (∀ j, ((out.getD j 0).natAbs : Int) ≤ B) → ∀ j, (((tl ps f left out).getD j 0).natAbs : Int) ≤ B := by
  intro f
  induction f with
  | zero => intro left out _ _ _ _ _ _ _ hb; exact hb
  | succ f ih =>
    intro left out hl nd hin fo ho hz ht hb
    obtain ⟨k, s, e, hk, hs, hg⟩ := lf_some h hin fo (fun z => by rw [z] at hl; cases hl)
    have hkl := hin k hk
    have hleft : (left.filter fun j => decide (j ≠ k)).length = f := by
      have hp : left.erase k = left.filter fun j => decide (j ≠ k) := by
        rw [nd.erase_eq_filter]; exact List.filter_congr fun x _ => by by_cases z : x = k <;> simp [bne, z]
      rw [← hp, List.length_erase_of_mem hk, hl]; rfl
    have et : tl ps (f + 1) left out = tl ps f (left.filter fun j => decide (j ≠ k)) (out.set k (0 - esum ps out k s)) := by rw [tl, e]
    have ex : 0 - esum ps out k s = - res n ps out (vt n ps k s) := by rw [esum_eq h hkl hs, hz k hk]; omega
    have hge : ((res n ps out (vt n ps k s)).natAbs : Int) ≤ tot n m ps out := sm_ge (n + m) (fun v => ((res n ps out v).natAbs : Int)) (fun i _ => by omega) _ (vt_lt h hkl)
    rw [et]
    refine ih _ _ hleft (nd.sublist List.filter_sublist) (fun j hj => hin j (List.mem_filter.mp hj).1) (fo.sub fun j hj => (List.mem_filter.mp hj).1) (by rw [List.length_set]; exact ho) (fun j hj => ?_) ?_ fun j => ?_
    · obtain ⟨h1, h2⟩ := List.mem_filter.mp hj
      rw [getD_set _ _ _ _ _ (by omega), if_neg (by simpa using h2)]
      exact hz j h1
    · refine Int.le_trans ?_ ht
      rw [tot_set h ho hkl, ex, hz k hk]
      have hs' : s = 0 ∨ s = 1 := by omega
      rcases hs' with rfl | rfl <;> omega
    · rw [getD_set _ _ _ _ _ (by omega), ex]
      split
      · rw [Int.natAbs_neg]; exact Int.le_trans hge ht
      · exact hb j
end
end K6
/-! text M3 -/
set_option Elab.async false
set_option linter.all false
set_option maxRecDepth 100000
set_option maxHeartbeats 4000000
/-! M3: basis tours, worths, and the factors that lead on; plain. -/
namespace K6
open Gp
section
variable {n m : Nat} {ps : List (Nat × Nat)}
def tree (n m : Nat) (ps : List (Nat × Nat)) : List Nat := (tr pfst n m ps ps.length).2
def oth (n m : Nat) (ps : List (Nat × Nat)) : List Nat := (List.range ps.length).filter fun k => decide (k ∉ tree n m ps)
theorem tree_lt {k : Nat} (h : k ∈ tree n m ps) : k < ps.length := ((tree_facts ps.length).1 k h).1
theorem tree_nd : (tree n m ps).Nodup := (tree_facts (pick := pfst) (n := n) (m := m) ps.length).2.imp fun h => Nat.ne_of_lt h
theorem oth_nd : (oth n m ps).Nodup := List.nodup_range.sublist List.filter_sublist
theorem oth_mem {k : Nat} : k ∈ oth n m ps ↔ k < ps.length ∧ k ∉ tree n m ps := by simp [oth, List.mem_filter]
theorem oth_len : (oth n m ps).length ≤ ps.length := Nat.le_trans (List.length_filter_le _ _) (by simp)
theorem oth_get {k : Nat} (h : k ∈ oth n m ps) : ∃ i, i < (oth n m ps).length ∧ (oth n m ps).getD i 0 = k := by
  obtain ⟨i, hi, e⟩ := List.getElem_of_mem h
  exact ⟨i, hi, by rw [List.getD_eq_getElem?_getD, List.getElem?_eq_getElem hi]; exact e⟩
theorem oth_getm {i : Nat} (h : i < (oth n m ps).length) : (oth n m ps).getD i 0 ∈ oth n m ps := by
  rw [List.getD_eq_getElem?_getD, List.getElem?_eq_getElem h]; exact List.getElem_mem h
theorem oth_inj {i j : Nat} (hi : i < (oth n m ps).length) (hj : j < (oth n m ps).length) (e : (oth n m ps).getD i 0 = (oth n m ps).getD j 0) : i = j := by
  rw [List.getD_eq_getElem?_getD, List.getD_eq_getElem?_getD, List.getElem?_eq_getElem hi, List.getElem?_eq_getElem hj] at e
  exact (List.getElem_inj oth_nd).mp e
/-- the numbers of a row at the other places -/
def put (os : List Nat) (row : List Int) (N i : Nat) : List Int := (List.range i).foldl (fun o k => o.set (os.getD k 0) (row.getD k 0)) (List.replicate N 0)
theorem put_succ (os : List Nat) (row : List Int) (N i : Nat) : put os row N (i + 1) = (put os row N i).set (os.getD i 0) (row.getD i 0) := by rw [put, List.range_succ, List.foldl_append]; rfl
theorem put_len (os : List Nat) (row : List Int) (N i : Nat) : (put os row N i).length = N := by
  induction i with
  | zero => simp [put]
  | succ i ih => rw [put_succ, List.length_set, ih]
def unit (many at_ : Nat) : List Int := (List.range many).map fun k => if k = at_ then 1 else 0
theorem unit_get {many at_ k : Nat} (h : k < many) : (unit many at_).getD k 0 = if k = at_ then 1 else 0 := by
  rw [unit, List.getD_eq_getElem?_getD, List.getElem?_map, List.getElem?_range h]; rfl
def tour (n m : Nat) (ps : List (Nat × Nat)) (row : List Int) : List Int := tl ps (tree n m ps).length (tree n m ps) (put (oth n m ps) row ps.length (oth n m ps).length)
def base0 (n m : Nat) (ps : List (Nat × Nat)) (at_ : Nat) : List Int := put (oth n m ps) (unit (oth n m ps).length at_) ps.length (oth n m ps).length
def btour (n m : Nat) (ps : List (Nat × Nat)) (at_ : Nat) : List Int := tour n m ps (unit (oth n m ps).length at_)
def basis (n m : Nat) (ps : List (Nat × Nat)) : List (List Int) := (List.range (oth n m ps).length).map (btour n m ps)
theorem rep_getD (N j : Nat) : (List.replicate N (0 : Int)).getD j 0 = 0 := by
  rw [List.getD_eq_getElem?_getD, List.getElem?_replicate]; split <;> rfl
theorem base0_get {at_ : Nat} (hat : at_ < (oth n m ps).length) (j : Nat) : (base0 n m ps at_).getD j 0 = if j = (oth n m ps).getD at_ 0 then 1 else 0 := by
  have key : ∀ i, i ≤ (oth n m ps).length → (put (oth n m ps) (unit (oth n m ps).length at_) ps.length i).getD j 0 = if at_ < i ∧ j = (oth n m ps).getD at_ 0 then 1 else 0 := by
    intro i
    induction i with
    | zero => intro _; rw [if_neg (by omega)]; exact rep_getD _ _
    | succ i ih =>
      intro hi
      have hm := oth_mem.mp (oth_getm (n := n) (m := m) (ps := ps) (i := i) (by omega))
      rw [put_succ, getD_set _ _ _ _ _ (by rw [put_len]; exact hm.1), unit_get (by omega), ih (by omega)]
      by_cases e : j = (oth n m ps).getD i 0
      · rw [if_pos e]
        by_cases e2 : i = at_
        · subst e2; rw [if_pos rfl, if_pos ⟨by omega, e⟩]
        · rw [if_neg e2, if_neg]
          rintro ⟨_, h2⟩
          exact e2 (oth_inj (n := n) (m := m) (ps := ps) (by omega) hat (by rw [← e, h2]))
      · rw [if_neg e]
        by_cases e2 : j = (oth n m ps).getD at_ 0
        · by_cases e3 : at_ < i
          · rw [if_pos ⟨e3, e2⟩, if_pos ⟨by omega, e2⟩]
          · rw [if_neg fun z => e3 z.1, if_neg]
            rintro ⟨h1, _⟩
            have : at_ = i := by omega
            subst this
            exact e e2
        · rw [if_neg fun z => e2 z.2, if_neg fun z => e2 z.2]
  rw [base0, key _ (Nat.le_refl _)]
  by_cases e : j = (oth n m ps).getD at_ 0
  · rw [if_pos ⟨hat, e⟩, if_pos e]
  · rw [if_neg fun z => e z.2, if_neg e]
theorem tot_zero (h : PW n m ps) : tot n m ps (List.replicate ps.length 0) = 0 := by
  refine sm_zero _ _ fun v _ => ?_
  rw [res, sm_zero, sm_zero]
  · rfl
  · intro j _; rw [rep_getD]; split <;> rfl
  · intro j _; rw [rep_getD]; split <;> rfl
theorem btour_len (at_ : Nat) : (btour n m ps at_).length = ps.length := by rw [btour, tour, tl_len, put_len]
theorem btour_small (h : PW n m ps) {at_ : Nat} (hat : at_ < (oth n m ps).length) (j : Nat) : ((btour n m ps at_).getD j 0).natAbs ≤ 2 := by
  have hm := oth_mem.mp (oth_getm (n := n) (m := m) (ps := ps) hat)
  have hik := pa_in h hm.1
  have el : base0 n m ps at_ = (List.replicate ps.length 0).set ((oth n m ps).getD at_ 0) 1 := by
    refine List.ext_getElem (by rw [base0, put_len]; simp) fun i h1 h2 => ?_
    have g1 := base0_get hat i
    rw [List.getD_eq_getElem?_getD, List.getElem?_eq_getElem h1] at g1
    have g2 := getD_set (List.replicate ps.length (0 : Int)) ((oth n m ps).getD at_ 0) i 1 0 (by simpa using hm.1)
    rw [rep_getD, List.getD_eq_getElem?_getD, List.getElem?_eq_getElem h2] at g2
    exact g1.trans g2.symm
  have hr : ∀ v, res n ps (List.replicate ps.length 0) v = 0 := fun v => by
    rw [res, sm_zero, sm_zero]
    · rfl
    · intro j _; rw [rep_getD]; split <;> rfl
    · intro j _; rw [rep_getD]; split <;> rfl
  have := tl_small h 2 _ (tree n m ps) (base0 n m ps at_) rfl tree_nd (fun k hk => tree_lt hk) (tree_fo h) (by rw [base0, put_len]) (fun k hk => by
    rw [base0_get hat, if_neg]
    rintro rfl
    exact hm.2 hk) (by rw [el, tot_set h (by simp) hm.1, tot_zero h, hr, hr, rep_getD]; decide) (fun i => by rw [base0_get hat]; split <;> decide) j
  show ((tl ps _ _ _).getD j 0).natAbs ≤ 2
  exact Int.ofNat_le.mp this
theorem btour_oth (h : PW n m ps) {at_ : Nat} (hat : at_ < (oth n m ps).length) {j : Nat} (hj : j ∉ tree n m ps) : (btour n m ps at_).getD j 0 = if j = (oth n m ps).getD at_ 0 then 1 else 0 := by
  rw [← base0_get hat]
  exact tl_out _ _ _ _ (fun k hk => by rw [put_len]; exact tree_lt hk) hj fun k s e => lf_mem e
/-- the worth of a tour under a table -/
def worth {U : Type} [Gp U] (N : Nat) (t : List U) (T : List Int) : U := pm N fun j => zp (t.getD j 1) (T.getD j 0)
theorem pm_inv {U : Type} [Gp U] (N : Nat) (f : Nat → U) : pm N (fun j => (f j)⁻¹) = (pm N f)⁻¹ := inv_of (by rw [← pm_mul]; exact pm_ones _ _ fun i _ => mi _)
theorem zp_inv {U : Type} [Gp U] (a : U) (e : Int) : zp a⁻¹ e = (zp a e)⁻¹ := inv_of (by rw [← zp_mulb, mi, zp_one])
/-- alike worths: the quotients are products of factors -/
theorem factors_ex {U : Type} [Gp U] (h : PW n m ps) (t1 t2 : List U) (hw : ∀ i, i < (oth n m ps).length → worth ps.length t1 (btour n m ps i) = worth ps.length t2 (btour n m ps i)) :
    ∃ g : Nat → U, ∀ k, k < ps.length → t2.getD k 1 * (t1.getD k 1)⁻¹ = g (vt n ps k 0) * g (vt n ps k 1) := by
  obtain ⟨g, g1, g2⟩ := potential h (fun k => t2.getD k 1 * (t1.getD k 1)⁻¹) _ (tree n m ps) rfl tree_nd (fun k hk => tree_lt hk) (tree_fo h)
  refine ⟨g, fun k hk => ?_⟩
  by_cases ht : k ∈ tree n m ps
  · exact g1 k ht
  · obtain ⟨i, hi, ei⟩ := oth_get (oth_mem.mpr ⟨hk, ht⟩)
    -- T: the tour; r: what is left of the quotients
    have hq : pm ps.length (fun j => zp (t2.getD j 1 * (t1.getD j 1)⁻¹) ((btour n m ps i).getD j 0)) = 1 := by
      rw [pm_congr (fun j _ => zp_mulb _ _ _), pm_mul, pm_congr (f := fun j => zp (t1.getD j 1)⁻¹ _) (fun j _ => zp_inv _ _), pm_inv]
      show worth ps.length t2 (btour n m ps i) * (worth ps.length t1 (btour n m ps i))⁻¹ = 1
      rw [hw i hi, mi]
    have hg : pm ps.length (fun j => zp (g (vt n ps j 0) * g (vt n ps j 1)) ((btour n m ps i).getD j 0)) = 1 := by
      rw [pm_congr (fun j _ => zp_mulb _ _ _), pm_mul, pm_swap ps.length (n + m) g (fun j => vt n ps j 0) _ fun j hj => vt_lt h hj, pm_swap ps.length (n + m) g (fun j => vt n ps j 1) _ fun j hj => vt_lt h hj, ← pm_mul]
      refine pm_ones _ _ fun v _ => ?_
      rw [← zp_add]
      rcases g2 (base0 n m ps i) (by rw [base0, put_len]) v with z | z
      · rw [z, zp_one]
      · show zp (g v) (res n ps (btour n m ps i) v) = 1
        have z : res n ps (btour n m ps i) v = 0 := z
        rw [z, zp_zero]
    have hr : pm ps.length (fun j => zp (t2.getD j 1 * (t1.getD j 1)⁻¹ * (g (vt n ps j 0) * g (vt n ps j 1))⁻¹) ((btour n m ps i).getD j 0)) = 1 := by
      rw [pm_congr (fun j _ => zp_mulb _ _ _), pm_mul, hq, om, pm_congr (fun j _ => zp_inv _ _), pm_inv, hg, inv_one]
    rw [pm_single ps.length k hk] at hr
    · rw [btour_oth h hi ht, if_pos ei.symm, zp_1] at hr
      have := inv_of hr
      rw [← inv_inv (t2.getD k 1 * (t1.getD k 1)⁻¹), ← this, inv_inv]
    · intro j hj hn
      by_cases hjt : j ∈ tree n m ps
      · have e := g1 j hjt
        have e : t2.getD j 1 * (t1.getD j 1)⁻¹ = g (vt n ps j 0) * g (vt n ps j 1) := e
        rw [e, mi, zp_one]
      · rw [btour_oth h hi hjt, if_neg fun z => hn (by rw [z, ei]), zp_zero]
end
/-! ### the spread of factors -/
def un {U : Type} : Nat → (Nat → Option U) → Nat
  | 0, _ => 0
  | N + 1, A => un N A + if (A N).isNone then 1 else 0
def ua {U : Type} (A : Nat → Option U) (v : Nat) (x : U) : Nat → Option U := fun w => if w = v then some x else A w
theorem un_le {U : Type} (N : Nat) (A : Nat → Option U) : un N A ≤ N := by
  induction N with
  | zero => exact Nat.le_refl _
  | succ N ih => rw [un]; split <;> omega
theorem un_congr {U : Type} {N : Nat} {A B : Nat → Option U} (h : ∀ v, v < N → A v = B v) : un N A = un N B := by
  induction N with
  | zero => rfl
  | succ N ih => rw [un, un, ih fun v hv => h v (by omega), h N (by omega)]
theorem un_upd {U : Type} {N : Nat} {A : Nat → Option U} {v : Nat} {x : U} (hv : v < N) (h : A v = none) : un N (ua A v x) + 1 = un N A := by
  induction N with
  | zero => omega
  | succ N ih =>
    rw [un, un]
    by_cases e : v = N
    · subst e
      rw [un_congr (A := ua A v x) (B := A) (N := v) fun w hw => if_neg (by omega)]
      simp [ua, h]
    · have := ih (by omega)
      have e2 : ua A v x N = A N := if_neg (Ne.symm e)
      rw [e2]; omega
/-- A: the factors told so far; D: the vertices that are settled; i1: the points that were roots or passed by -/
structure SI (F : Fk) (n m : Nat) (ps : List (Nat × Nat)) (q g : Nat → F.U) (mu : Nat → Nat) (i1 : Nat) (D : Nat → Prop) (h0 : F.U) (A : Nat → Option F.U) : Prop where
  ds : ∀ v, D v → A v ≠ none
  sat : ∀ k, k < ps.length → (D (vt n ps k 0) ↔ D (vt n ps k 1))
  eq : ∀ k, k < ps.length → D (vt n ps k 0) → ∃ x y, A (vt n ps k 0) = some x ∧ A (vt n ps k 1) = some y ∧ x * y = q k
  nw0 : ∀ v, v < n → ¬ D v → ∀ x, A v = some x → x = g v * h0
  nw1 : ∀ v, n ≤ v → ¬ D v → ∀ x, A v = some x → x = g v * h0⁻¹
  bd : ∀ v x, v < n + m → A v = some x → F.bd (32 * (n + m - un (n + m) A)) x
  rt : ∀ v, v < n + m → A v ≠ none → ∃ r, r < i1 ∧ mu v = mu r
  on : ∀ a, a < i1 → (∀ r, r < a → mu r ≠ mu a) → A a = some 1
  al : ∀ a, a < i1 → A a ≠ none
section
variable {F : Fk} {n m : Nat} {ps : List (Nat × Nat)} {q g : Nat → F.U} {mu : Nat → Nat} {i1 : Nat} {D : Nat → Prop} {h0 : F.U} {A : Nat → Option F.U}
theorem SI.step (S : SI F n m ps q g mu i1 D h0 A) (h : PW n m ps) (hq : ∀ k, k < ps.length → q k = g (vt n ps k 0) * g (vt n ps k 1)) (hb : ∀ k, k < ps.length → F.bd 32 (q k)) (hm : ∀ k, k < ps.length → mu (vt n ps k 0) = mu (vt n ps k 1))
    {k s : Nat} (hk : k < ps.length) (hs : s < 2) {y : F.U} (h1 : A (vt n ps k s) = some y) (h2 : A (vt n ps k (1 - s)) = none) : SI F n m ps q g mu i1 D h0 (ua A (vt n ps k (1 - s)) (q k * y⁻¹)) := by
  have hi := pa_in h hk
  have hne : ∀ w, A w ≠ none → w ≠ vt n ps k (1 - s) := fun w hw e => hw (by rw [e, h2])
  have keep : ∀ w, A w ≠ none → ua A (vt n ps k (1 - s)) (q k * y⁻¹) w = A w := fun w hw => if_neg (hne w hw)
  have hvl : vt n ps k (1 - s) < n + m := vt_lt h hk
  have hun := un_upd (N := n + m) (A := A) (x := q k * y⁻¹) hvl h2
  have hul := un_le (n + m) A
  have hs' : s = 0 ∨ s = 1 := by omega
  have hnD : ¬ D (vt n ps k (1 - s)) := fun z => S.ds _ z h2
  have hnD2 : ¬ D (vt n ps k s) := fun z => hnD (by
    rcases hs' with rfl | rfl
    · exact (S.sat k hk).mp z
    · exact (S.sat k hk).mpr z)
  refine ⟨fun v hv => by rw [keep v (S.ds v hv)]; exact S.ds v hv, S.sat, fun k' hk' hd => ?_, fun v hv hd x hx => ?_, fun v hv hd x hx => ?_, fun v x hv hx => ?_, fun v hv hx => ?_, fun a ha hr => ?_, fun a ha => by rw [keep a (S.al a ha)]; exact S.al a ha⟩
  · obtain ⟨x, z, e1, e2, e3⟩ := S.eq k' hk' hd
    exact ⟨x, z, by rw [keep _ (by rw [e1]; simp)]; exact e1, by rw [keep _ (by rw [e2]; simp)]; exact e2, e3⟩
  · by_cases e : v = vt n ps k (1 - s)
    · rw [ua, if_pos e] at hx
      have hx : q k * y⁻¹ = x := Option.some.inj hx
      rcases hs' with rfl | rfl
      · have : vt n ps k (1 - 0) = n + (pa ps k).2 := rfl
        omega
      · have hy := S.nw1 _ (by show n ≤ n + _; omega) hnD2 y h1
        rw [← hx, hq k hk, hy, e]
        show g (vt n ps k 0) * g (vt n ps k 1) * (g (vt n ps k 1) * h0⁻¹)⁻¹ = g (vt n ps k 0) * h0
        rw [inv_mul, inv_inv, Gp.ma, ← Gp.ma (g (vt n ps k 1)), mi, om]
    · rw [ua, if_neg e] at hx; exact S.nw0 v hv hd x hx
  · by_cases e : v = vt n ps k (1 - s)
    · rw [ua, if_pos e] at hx
      have hx : q k * y⁻¹ = x := Option.some.inj hx
      rcases hs' with rfl | rfl
      · have hy := S.nw0 _ (by show (pa ps k).1 < n; omega) hnD2 y h1
        rw [← hx, hq k hk, hy, e]
        show g (vt n ps k 0) * g (vt n ps k 1) * (g (vt n ps k 0) * h0)⁻¹ = g (vt n ps k 1) * h0⁻¹
        rw [inv_mul, mc (g (vt n ps k 0)), Gp.ma, ← Gp.ma (g (vt n ps k 0)), mi, om]
      · have : vt n ps k (1 - 1) = (pa ps k).1 := rfl
        omega
    · rw [ua, if_neg e] at hx; exact S.nw1 v hv hd x hx
  · by_cases e : v = vt n ps k (1 - s)
    · rw [ua, if_pos e] at hx
      have hx : q k * y⁻¹ = x := Option.some.inj hx
      rw [← hx]
      refine Fk.bd_mono (Fk.bd_mul (hb k hk) (Fk.bd_inv (S.bd _ y (vt_lt h hk) h1))) ?_
      omega
    · rw [ua, if_neg e] at hx
      exact Fk.bd_mono (S.bd v x hv hx) (by omega)
  · by_cases e : v = vt n ps k (1 - s)
    · obtain ⟨r, hr1, hr2⟩ := S.rt _ (vt_lt h hk) (by rw [h1]; simp : A (vt n ps k s) ≠ none)
      refine ⟨r, hr1, ?_⟩
      rw [e, ← hr2]
      rcases hs' with rfl | rfl
      · exact (hm k hk).symm
      · exact hm k hk
    · rw [ua, if_neg e] at hx; exact S.rt v hv hx
  · have := S.on a ha hr
    rw [keep a (by rw [this]; simp)]; exact this
/-- between two roots -/
theorem SI.close (S : SI F n m ps q g mu i1 D h0 A) (h : PW n m ps) (hq : ∀ k, k < ps.length → q k = g (vt n ps k 0) * g (vt n ps k 1)) (hc : ∀ k, k < ps.length → (A (vt n ps k 0) = none ↔ A (vt n ps k 1) = none)) (h1 : F.U) : SI F n m ps q g mu i1 (fun v => A v ≠ none) h1 A := by
  refine ⟨fun v hv => hv, fun k hk => not_congr (hc k hk), fun k hk hd => ?_, fun v _ hd x hx => absurd (by rw [hx]; simp) hd, fun v _ hd x hx => absurd (by rw [hx]; simp) hd, S.bd, S.rt, S.on, S.al⟩
  by_cases e : D (vt n ps k 0)
  · exact S.eq k hk e
  · have e2 : ¬ D (vt n ps k 1) := fun z => e ((S.sat k hk).mpr z)
    have hi := pa_in h hk
    obtain ⟨x, hx⟩ := Option.ne_none_iff_exists'.mp hd
    obtain ⟨y, hy⟩ := Option.ne_none_iff_exists'.mp (fun z => hd ((hc k hk).mpr z))
    refine ⟨x, y, hx, hy, ?_⟩
    rw [S.nw0 _ (by show (pa ps k).1 < n; omega) e x hx, S.nw1 _ (by show n ≤ n + _; omega) e2 y hy, hq k hk, mmm, mi, mo]
theorem SI.start (h : PW n m ps) : SI F n m ps q g mu 0 (fun _ => False) h0 (fun _ => none) :=
  ⟨fun _ z => z.elim, fun _ _ => Iff.rfl, fun _ _ z => z.elim, fun _ _ _ _ z => (by cases z), fun _ _ _ _ z => (by cases z), fun _ _ _ z => (by cases z), fun _ _ z => absurd rfl z, fun _ z => (by omega), fun _ z => (by omega)⟩
theorem SI.next (S : SI F n m ps q g mu i1 (fun v => A v ≠ none) h0 A) (hi : i1 < n) (hA : A i1 ≠ none) : SI F n m ps q g mu (i1 + 1) (fun v => A v ≠ none) h0 A := by
  refine ⟨S.ds, S.sat, S.eq, S.nw0, S.nw1, S.bd, fun v hv hx => ?_, fun a ha hr => ?_, fun a ha => ?_⟩
  · obtain ⟨r, h1, h2⟩ := S.rt v hv hx; exact ⟨r, by omega, h2⟩
  · by_cases e : a = i1
    · subst e
      obtain ⟨r, h1, h2⟩ := S.rt a (by omega) hA
      exact absurd h2.symm (hr r h1)
    · exact S.on a (by omega) hr
  · by_cases e : a = i1
    · subst e; exact hA
    · exact S.al a (by omega)
theorem SI.open_ (S : SI F n m ps q g mu i1 (fun v => A v ≠ none) h0 A) (hi : i1 < n) (hA : A i1 = none) : SI F n m ps q g mu (i1 + 1) (fun v => A v ≠ none) (g i1)⁻¹ (ua A i1 1) := by
  have keep : ∀ w, A w ≠ none → ua A i1 1 w = A w := fun w hw => if_neg fun e => hw (by rw [e, hA])
  have hun := un_upd (N := n + m) (A := A) (v := i1) (x := (1 : F.U)) (by omega) hA
  have hul := un_le (n + m) A
  refine ⟨fun v hv => by rw [keep v hv]; exact hv, S.sat, fun k hk hd => ?_, fun v hv hd x hx => ?_, fun v hv hd x hx => ?_, fun v x hv hx => ?_, fun v hv hx => ?_, fun a ha hr => ?_, fun a ha => ?_⟩
  · obtain ⟨x, y, e1, e2, e3⟩ := S.eq k hk hd
    exact ⟨x, y, by rw [keep _ (by rw [e1]; simp)]; exact e1, by rw [keep _ (by rw [e2]; simp)]; exact e2, e3⟩
  · by_cases e : v = i1
    · rw [ua, if_pos e] at hx
      rw [← Option.some.inj hx, e, mi]
    · rw [ua, if_neg e] at hx; exact absurd (by rw [hx]; simp) hd
  · rw [ua, if_neg (by omega)] at hx; exact absurd (by rw [hx]; simp) hd
  · by_cases e : v = i1
    · rw [ua, if_pos e] at hx
      rw [← Option.some.inj hx]; exact Fk.bd_mono Fk.bd_one (Nat.zero_le _)
    · rw [ua, if_neg e] at hx
      exact Fk.bd_mono (S.bd v x hv hx) (by omega)
  · by_cases e : v = i1
    · exact ⟨i1, by omega, by rw [e]⟩
    · rw [ua, if_neg e] at hx
      obtain ⟨r, h1, h2⟩ := S.rt v hv hx; exact ⟨r, by omega, h2⟩
  · by_cases e : a = i1
    · rw [ua, if_pos e]
    · rw [ua, if_neg e]; exact S.on a (by omega) hr
  · by_cases e : a = i1
    · rw [ua, if_pos e]; simp
    · rw [ua, if_neg e]; exact S.al a (by omega)
end
end K6
/-! text M4 -/
set_option Elab.async false
set_option linter.all false
set_option maxRecDepth 100000
set_option maxHeartbeats 4000000
/-! M4: lowest terms, primes, powers; plain. -/
namespace K6
open Gp
theorem low_part {t b : Int} (hb : b ≠ 0) : (if b < 0 then (0 : Int) - (Int.gcd t b : Nat) else (Int.gcd t b : Nat)) = b.sign * (Int.gcd t b : Nat) ∧ (Int.gcd t b : Int) ≠ 0 := by
  have h0 : Int.gcd t b ≠ 0 := fun z => hb (Int.gcd_eq_zero_iff.mp z).2
  refine ⟨?_, by omega⟩
  split
  · next h => rw [Int.sign_eq_neg_one_of_neg h]; omega
  · next h => rw [Int.sign_eq_one_of_pos (by omega)]; omega
theorem low_num {t b : Int} (hb : b ≠ 0) : t.fdiv (b.sign * (Int.gcd t b : Nat)) = (Rat.divInt t b).num := by
  obtain ⟨_, h0⟩ := low_part (t := t) hb
  have hd : (Int.gcd t b : Int) ∣ t := Int.gcd_dvd_left ..
  obtain ⟨c, hc⟩ := hd
  rw [Rat.num_divInt, Int.gcd_comm b t]
  generalize (Int.gcd t b : Int) = g at hc h0
  subst hc
  rcases Int.lt_or_gt_of_ne hb with h | h
  · rw [Int.sign_eq_neg_one_of_neg h, show (-1 : Int) * (g * c) = g * (-c) by rw [Int.mul_neg, Int.neg_mul, Int.one_mul], Int.mul_ediv_cancel_left _ h0, show g * c = -1 * g * (-c) by rw [Int.mul_neg, Int.neg_mul, Int.one_mul, Int.neg_mul, Int.neg_neg], Int.mul_fdiv_cancel_left _ (by omega)]
  · rw [Int.sign_eq_one_of_pos h, Int.one_mul, Int.one_mul, Int.mul_ediv_cancel_left _ h0, Int.mul_fdiv_cancel_left _ h0]
theorem low_den {t b : Int} (hb : b ≠ 0) : b.fdiv (b.sign * (Int.gcd t b : Nat)) = (Rat.divInt t b).den := by
  obtain ⟨_, h0⟩ := low_part (t := t) hb
  have hd : (Int.gcd t b : Int) ∣ b := Int.gcd_dvd_right ..
  obtain ⟨c, hc⟩ := hd
  rw [Rat.den_divInt, if_neg hb, Int.gcd_comm b t]
  have key : ((b.natAbs / Int.gcd t b : Nat) : Int) = b.natAbs / (Int.gcd t b : Int) := Int.natCast_ediv ..
  rw [key]
  generalize (Int.gcd t b : Int) = g at hc h0
  rcases Int.lt_or_gt_of_ne hb with h | h
  · have e : (b.natAbs : Int) = g * (-c) := by rw [Int.mul_neg, ← hc]; omega
    rw [Int.sign_eq_neg_one_of_neg h, e, Int.mul_ediv_cancel_left _ h0, show b = -1 * g * (-c) by rw [Int.mul_neg, Int.neg_mul, Int.one_mul, Int.neg_mul, Int.neg_neg, hc], Int.mul_fdiv_cancel_left _ (by omega)]
  · have e : (b.natAbs : Int) = g * c := by rw [← hc]; omega
    rw [Int.sign_eq_one_of_pos h, Int.one_mul, e, Int.mul_ediv_cancel_left _ h0]
    conv => lhs; rw [hc]
    rw [Int.mul_fdiv_cancel_left _ h0]
/-! primes -/
theorem pr_19997 : Pr 19997 := by
  refine ⟨by decide, by decide, fun d h2 hd hm => ?_⟩
  have hlt : d < 142 := by
    apply Classical.byContradiction
    intro h
    have : 142 * 142 ≤ d * d := Nat.mul_le_mul (by omega) (by omega)
    omega
  have key : ∀ d, d < 142 → 2 ≤ d → 19997 % d ≠ 0 := by decide
  exact key d hlt h2 hm
/-! products and quotients of fractions -/
theorem fr_mul (a b : Fr) : (a * b : Fr).1 = Rat.divInt (a.1.num * b.1.num) (a.1.den * b.1.den) := by
  show a.1 * b.1 = _
  rw [← Rat.divInt_mul_divInt, Rat.num_divInt_den, Rat.num_divInt_den]
theorem fr_inv (a : Fr) : (a⁻¹ : Fr).1 = Rat.divInt a.1.den a.1.num := Rat.inv_def _
theorem fr_quo (a b : Fr) : (a * b⁻¹ : Fr).1 = Rat.divInt (a.1.num * b.1.den) (a.1.den * b.1.num) := by
  show a.1 * b.1⁻¹ = _
  rw [Rat.inv_def, ← Rat.divInt_mul_divInt, Rat.num_divInt_den]
theorem divInt_ne {t b : Int} (ht : t ≠ 0) (hb : b ≠ 0) : Rat.divInt t b ≠ 0 := fun z => by
  have h1 : (Rat.divInt t b).num = 0 := by rw [z]; rfl
  rw [Rat.num_divInt] at h1
  obtain ⟨c, hc⟩ := Int.gcd_dvd_right (a := b) (b := t)
  have hg : (Int.gcd b t : Int) ≠ 0 := by
    have : Int.gcd b t ≠ 0 := fun z => hb (Int.gcd_eq_zero_iff.mp z).1
    omega
  generalize (Int.gcd b t : Int) = g at *
  subst hc
  rw [show b.sign * (g * c) = g * (b.sign * c) by rw [Int.mul_left_comm], Int.mul_ediv_cancel_left _ hg] at h1
  rcases Int.mul_eq_zero.mp h1 with z | z
  · exact hb (Int.sign_eq_zero_iff_zero.mp z)
  · subst z; simp at ht
/-- powers of a fraction -/
theorem fr_np (a : Fr) (n : Nat) : (np a n).1.num = a.1.num ^ n ∧ (np a n).1.den = a.1.den ^ n := by
  have e : (np a n).1 = a.1 ^ n := by
    induction n with
    | zero => exact (Rat.pow_zero _).symm
    | succ n ih => show (np a n).1 * a.1 = _; rw [ih, Rat.pow_succ]
  rw [e]
  exact ⟨Rat.num_pow .., Rat.den_pow ..⟩
/-! repeated squaring -/
theorem np_half {U : Type} [Gp U] (b : U) (l : Nat) : np b l = (if l % 2 = 1 then b else 1) * np (b * b) (l / 2) := by
  rw [np_sq]
  have h := Nat.div_add_mod l 2
  by_cases c : l % 2 = 1
  · rw [if_pos c]
    conv => lhs; rw [← h, c, np_add]
    rw [mc]; show np b 1 * _ = _; show (1 * b) * _ = _; rw [om]
  · have c0 : l % 2 = 0 := by omega
    rw [if_neg c, om]
    conv => lhs; rw [← h, c0]
    rfl
end K6
/-! text K7 -/
set_option Elab.async false
set_option linter.all false
set_option maxRecDepth 100000
set_option maxHeartbeats 4000000
/-! K7: forms of promises; numbers, rows and pictures over the knowledge. -/
namespace K6
open PySem L2 K3 PySem.Spec PyProof.Rows
open Evl (Ex)
/-! rules in which the fragment stands by name (blocks have a context of their own) -/
section
variable {X : Cx}
theorem ixK (K : PySem.W.Frag) (h : X.K = K) : IxR X (rIx K) := by subst h; exact ix_seq
theorem ixLK (K : PySem.W.Frag) (h : X.K = K) : IxR X (rIxL K) := by subst h; exact ix_list
theorem inK (K : PySem.W.Frag) (h : X.K = K) : OpR X (compareOp .In) (rIn K false) := by subst h; exact op_in_seq
theorem ninK (K : PySem.W.Frag) (h : X.K = K) : OpR X (compareOp .NotIn) (rIn K true) := by subst h; exact op_notIn_seq
theorem eqDK (K : PySem.W.Frag) (h : X.K = K) (hu : X.A.units + 64 < cLine) : OpR X (compareOp .Eq) (rEqD K) := by subst h; exact op_eqD hu
theorem neDK (K : PySem.W.Frag) (h : X.K = K) (hu : X.A.units + 64 < cLine) : OpR X (compareOp .NotEq) (rNeD K) := by subst h; exact op_neD hu
theorem lenK (K : PySem.W.Frag) (h : X.K = K) : CallR X (.builtin "len") (rLenK K) := by subst h; exact cl_len
theorem listK (K : PySem.W.Frag) (h : X.K = K) : CallR X (.type "list") (rLstOf K) := by subst h; exact cl_list
theorem tupleK (K : PySem.W.Frag) (h : X.K = K) : CallR X (.type "tuple") (rTupOf K) := by subst h; exact cl_tuple
theorem sumK (K : PySem.W.Frag) (h : X.K = K) (hc : X.calm = true) : CallR X (.builtin "sum") (rSum K) := by subst h; exact cr_sum hc
theorem anyK (K : PySem.W.Frag) (h : X.K = K) (hc : X.calm = true) : CallR X (.builtin "any") (rAny K) := by subst h; exact cr_any hc
theorem allK (K : PySem.W.Frag) (h : X.K = K) (hc : X.calm = true) : CallR X (.builtin "all") (rAll K) := by subst h; exact cr_all hc
theorem isiK (K : PySem.W.Frag) (h : X.K = K) : CallR X (.builtin "isinstance") (rIsi K) := by subst h; exact call_isi
theorem isiTK (K : PySem.W.Frag) (h : X.K = K) : CallR X (.builtin "isinstance") (rIsiT K) := by subst h; exact call_isiT
theorem slLK (K : PySem.W.Frag) (h : X.K = K) : SlR X (rSlL K) := by subst h; exact sl_list
theorem catAK (K : PySem.W.Frag) (h : X.K = K) : OpR X (binaryOp .Add) (rCatA K) := by subst h; exact op_catA
theorem pe_fldK (K : PySem.W.Frag) (h : X.K = K) {e : Expr} {ta : TE} {f : Str} {pos : Pos} (he : PE X e ta) (hb : attributeBase e f X.env (eval e X.env) = eval e X.env) : PE X (.Attribute e f pos) (tFld K ta f) := by subst h; exact pe_fld he hb
theorem pi_listK (K : PySem.W.Frag) (h : X.K = K) {tg l : Expr} {tl : TE} (hl : PE X l tl) : PI X tg l (iList K tl) := by subst h; exact pi_list hl
theorem pi_tupK (K : PySem.W.Frag) (h : X.K = K) {tg l : Expr} {tl : TE} (hl : PE X l tl) : PI X tg l (iTup K tl) := by subst h; exact pi_tup hl
theorem pi_enumK (K : PySem.W.Frag) (h : X.K = K) {e : Expr} {ta : TA} {p pos tpos : Pos} {elts : List Expr} {kk : Nat} (hg : Gl X "enumerate") (hm : X.mg "enumerate" = none) (ha : PA X [e] ta) (hs : starEach [e] X.env = [(false, eval e X.env)] := by rfl) :
    PI X (.Tuple elts kk tpos) (.Call (.Name "enumerate" p) [e] [] pos) (iEnum K ta) := by subst h; exact pi_enum hg hm ha hs
theorem pg_tupK (K : PySem.W.Frag) (h : X.K = K) {es : List Expr} {k : Nat} {t : TGs} {n : Nat} {pos : Pos} (hc : X.calm = true) (hh : PGs X es t) (hn : (assignEach es X.env).length = n := by rfl) (hst : (assignEach es X.env).findIdx? (·.1) = none := by rfl) : PG X (.Tuple es k pos) (gTup K n t) := by subst h; exact pg_tup hc hh hn hst
theorem pg_lstK (K : PySem.W.Frag) (h : X.K = K) {es : List Expr} {k : Nat} {t : TGs} {n : Nat} {pos : Pos} (hc : X.calm = true) (hh : PGs X es t) (hn : (assignEach es X.env).length = n := by rfl) (hst : (assignEach es X.env).findIdx? (·.1) = none := by rfl) : PG X (.Tuple es k pos) (gLst K n t) := by subst h; exact pg_lst hc hh hn hst
theorem ps_fldK (K : PySem.W.Frag) (h : X.K = K) {o value : Expr} {ta tv : TE} {f : Str} {pos pos' : Pos} (ha : PE X o ta) (hv : PE X value tv) (hs : swapsWith value (some (.Attribute o f pos')) pos.line X.env = pure false) : PS X (.Assign [.Attribute o f pos'] value pos) (sFld K ta tv f) := by subst h; exact ps_fld ha hv hs
theorem pt_truK (K : PySem.W.Frag) (h : X.K = K) {a : Expr} {ta : TE} (ha : PE X a ta) (he : ∀ whole, isTrue a X.env whole = (do let v ← whole; standAt a.pos; holding [v] (truthy v))) : PT X a (tTru K ta) := by subst h; exact pt_tru ha he
end
abbrev Rel := List V → Hp → (V → Hp → Prop) → Prop
/-- nothing owned is touched -/
def SP (rel : Rel) : Sg := fun vs G O R => O = [] ∧ ∃ post, rel vs G post ∧ R = fun v G' O' => O' = [] ∧ post v G'
/-- the hand is drawn from -/
def SH (rel : Rel) : Sg := fun vs G O R => ∃ h o ws, vs = .ref h :: ws ∧ O = [(h, o)] ∧ HdOk G o ∧ ∃ post, rel ws G post ∧ R = fun v G' O' => ∃ o', O' = [(h, o')] ∧ HdOk G' o' ∧ post v G'
section
variable {G : Hp} {O : OL} {vs ws : List V} {rel : Rel} {post : V → Hp → Prop} {E : XK} {R : V → Hp → OL → Prop} {h : Addr} {o : HO}
theorem f_p (hr : rel vs G post) (q : ∀ v G2, Ex G G2 → post v G2 → R v G2 O) : W (fun H Q => Fn (SP rel) vs H Q E) G O R :=
  f_pure ⟨rfl, post, hr, rfl⟩ fun v G2 A2 e ⟨hA, hd⟩ => by subst hA; exact q v G2 e hd
theorem f_h (ho : HdOk G o) (hr : rel ws G post) (q : ∀ v G2 o2, Ex G G2 → HdOk G2 o2 → post v G2 → R v G2 ((h, o2) :: O)) : W (fun H Q => Fn (SH rel) (.ref h :: ws) H Q E) G ((h, o) :: O) R :=
  f_head ⟨h, o, ws, rfl, rfl, ho, post, hr, rfl⟩ fun v G2 A2 e ⟨o2, hA, h2, hd⟩ => by subst hA; exact q v G2 o2 e h2 hd
/-- the end of a def with a hand -/
theorem sh_end {v : V} {G' : Hp} {o' : HO} (h1 : HdOk G' o') (h2 : post v G') : ∃ o2, [(h, o')] = [(h, o2)] ∧ HdOk G' o2 ∧ post v G' := ⟨o', rfl, h1, h2⟩
/-- reading and writing the list at a place of what is owned -/
theorem r_own {K : PySem.W.Frag} {p : Addr} {xs : List V} {i : Int} {v : V} (k : Nat) (h : O[k]? = some (p, .lst xs)) (ha : atI xs i = some v) (r : R v G O) : W (rIx K (.ref p) (.int i)) G O R := r_ixS (r_ixO k h ha r)
end
theorem ws_seqI {ts tu : TS} {σ : L2.St} {D : En} (M : L2.St → Hp → OL → Prop) (h1 : WS ts σ G O { D with nx := M }) (h2 : ∀ σ' G' O', Ex G G' → M σ' G' O' → WS tu σ' G' O' D) : WS (tSeq ts tu) σ G O D := ws_seq fun H m D0 l =>
  h1 H m D0 ⟨fun σ' H' G' O' m' u r => l.nx σ' H' G' O' m' u (h2 σ' G' O' u.g r), l.rt, l.bk, l.ct⟩
theorem w_call0 {S : Sg} {t : TA} {σ : L2.St} (h1 : W (t σ) G O fun vs G1 O1 => W (fun H Q => Fn S vs H Q E) G1 O1 R) : W (tCall (Fn S) [] E t σ) G O R := w_call (w_imp h1 fun vs G1 O1 _ z => by rw [List.append_nil]; exact z)
theorem w_meth0 {S : Sg} {ta : TE} {t : TA} {σ : L2.St} {C : Addr} {m : Str} (h1 : W (ta σ) G O fun x G1 O1 => ∃ a dx fs, x = .ref a ∧ G1 a = some (.ins C dx fs) ∧ fs.lookup m = none ∧ W (t σ) G1 O1 fun vs G2 O2 => W (fun H Q => Fn S (x :: vs) H Q E) G2 O2 R) :
    W (tMeth C m (Fn S) [] E ta t σ) G O R := w_meth (w_imp h1 fun x G1 O1 _ ⟨a, dx, fs, e1, e2, e3, z⟩ => ⟨a, dx, fs, e1, e2, e3, w_imp z fun vs G2 O2 _ y => by rw [List.append_nil]; exact y⟩)
/-! both answers of a test -/
theorem cj_f {A B : Prop} (h : B) : (false = true → A) ∧ (false = false → B) := ⟨fun z => (by cases z), fun _ => h⟩
theorem cj_t {A B : Prop} (h : A) : (true = true → A) ∧ (true = false → B) := ⟨fun _ => h, fun z => (by cases z)⟩
theorem cj_nf {A B : Prop} (h : A) : ((!false) = true → A) ∧ ((!false) = false → B) := ⟨fun _ => h, fun z => (by cases z)⟩
theorem cj_nt {A B : Prop} (h : B) : ((!true) = true → A) ∧ ((!true) = false → B) := ⟨fun z => (by cases z), fun _ => h⟩
theorem cj_i {i j : Int} {A B : Prop} (h1 : i = j → A) (h2 : i ≠ j → B) : (decide (V.int i = V.int j) = true → A) ∧ (decide (V.int i = V.int j) = false → B) :=
  ⟨fun z => h1 (by simpa using z), fun z => h2 (by simpa using z)⟩
theorem cj_ni {i j : Int} {A B : Prop} (h1 : i ≠ j → A) (h2 : i = j → B) : ((!decide (V.int i = V.int j)) = true → A) ∧ ((!decide (V.int i = V.int j)) = false → B) :=
  ⟨fun z => h1 (by simpa using z), fun z => h2 (by simpa using z)⟩
theorem cj_d {p : Prop} [Decidable p] {A B : Prop} (h1 : p → A) (h2 : ¬ p → B) : (decide p = true → A) ∧ (decide p = false → B) := ⟨fun z => h1 (of_decide_eq_true z), fun z => h2 (of_decide_eq_false z)⟩
theorem cj_nd {p : Prop} [Decidable p] {A B : Prop} (h1 : ¬ p → A) (h2 : p → B) : ((!decide p) = true → A) ∧ ((!decide p) = false → B) := ⟨fun z => h1 (by simpa using z), fun z => h2 (by simpa using z)⟩
theorem cj_b {b : Bool} {A B : Prop} (h1 : b = true → A) (h2 : b = false → B) : (b = true → A) ∧ (b = false → B) := ⟨h1, h2⟩
theorem cj_nb {b : Bool} {A B : Prop} (h1 : b = false → A) (h2 : b = true → B) : ((!b) = true → A) ∧ ((!b) = false → B) := ⟨fun z => h1 (by simpa using z), fun z => h2 (by simpa using z)⟩
theorem hd_up {G' : Hp} (e : Ex G G') (h1 : HdOk G o) : HdOk G' o := mlift (R := fun G => HdOk G o) e h1
theorem sq_up {G' : Hp} {v : V} {ds : List PyData} (e : Ex G G') (h1 : Sq G v ds) : Sq G' v ds := mlift (R := fun G => Sq G v ds) e h1
theorem r_isiTy {K : PySem.W.Frag} {x : V} {n m : String} {b : Bool} (ty : TyK K G O x (.type n)) (e : kitB n m = some b) (r : R (.bl b) G O) : W (rIsi K [x, .ty m]) G O R := r_isi (.ty m) ty (kit_ty e) r
theorem ex_bl {b : Bool} {S : Bool → Prop} (r : S b) : ∃ c, V.bl b = .bl c ∧ S c := ⟨b, rfl, r⟩
theorem ex_int {b : Int} {S : Int → Prop} (r : S b) : ∃ c, V.int b = .int c ∧ S c := ⟨b, rfl, r⟩
theorem ex_int1 {b : Int} {S : Int → Prop} (r : S b) : ∃ c, [V.int b] = [.int c] ∧ S c := ⟨b, rfl, r⟩
theorem ex_own {S : HO → Prop} (r : S o) : ∃ o', [(h, o)] = [(h, o')] ∧ S o' := ⟨o, rfl, r⟩
/-! numbers, rows -/
def Nu (F : Fk) (G : Hp) (v : V) (u : F.U) : Prop := Da G [] v (F.dat u)
instance {F : Fk} {v : V} {u : F.U} : Mono (fun G => Nu F G v u) := ⟨fun e h => Da.up e h⟩
/-- a list or a tuple of numbers -/
def Ro (F : Fk) (G : Hp) (v : V) (us : List F.U) : Prop := Sq G v (us.map F.dat)
instance {F : Fk} {v : V} {us : List F.U} : Mono (fun G => Ro F G v us) := ⟨fun e h => mlift (R := fun G => Sq G v (us.map F.dat)) e h⟩
/-! makers and methods -/
abbrev RelM := List V → Hp → (List (Str × V) → Hp → Prop) → Prop
def SM (C : Addr) (rel : RelM) : Sg := fun vs G O R => ∃ x dx ws, vs = .ref x :: ws ∧ O = [(x, .ins C dx [])] ∧ ∃ post, rel ws G post ∧ R = fun v G' O' => v = .non ∧ ∃ fs, O' = [(x, .ins C dx fs)] ∧ post fs G'
section
variable {G : Hp} {O : OL} {σ : L2.St} {t : TA} {C : Addr} {rel : RelM} {E : XK} {R : V → Hp → OL → Prop}
theorem w_mk (h : W (t σ) G O fun vs G1 O1 => ∃ post, (∀ G2, Ex G1 G2 → rel vs G2 post) ∧ ∀ x dx fs G3 G4, Ex G1 G3 → post fs G3 → Ex G3 G4 → G4 x = some (.ins C dx fs) → R (.ref x) G4 O1) : W (tMake C (Fn (SM C rel)) [] E t σ) G O R :=
  w_make (w_imp h fun vs G1 O1 _ ⟨post, hr, hq⟩ => fun x dx G2 e hd => ⟨_, ⟨x, dx, _, rfl, rfl, post, by rw [List.append_nil]; exact hr G2 e, rfl⟩, fun v G3 A3 e3 ⟨hv, fs, hA, hp⟩ => ⟨hv, fs, hA, fun G4 e4 hx => hq x dx fs G3 G4 (e.trans e3) hp e4 hx⟩⟩)
variable {P : Program} {w : World} {K : PySem.W.Frag} {mg : Str → Option Value} {base : Heap}
theorem mak_by {x qual : Str} {f : Addr} {st : Stmt} {N ps : List Str} {k : Nat} {S : Sg} (M : Mk K C f) (g : mg x = some (.ref C)) (Fe : ∃ fd, L2.Fun K "__init__" qual st f fd ∧ Binds K fd ps []) (sc : FnScope N ps (defScope st)) (len : ∀ vs G O R, S vs G O R → vs.length = ps.length)
    (hbody : ∀ (cdv : Value) (A : Around) (outer : List Env) (s : Shared) (H : Hp) (vs : List V) (G : Hp) (O : OL) (R : V → Hp → OL → Prop) (E : XK), Room k (A.deeper (envOfC qual (defScope st) s.heap.objs.size f cdv)) → S vs G O R →
      ∃ t, PSs (cxOf CX0 P w K mg base N qual (defScope st) f cdv A outer s H E).nox (defBody st) t ∧ WS t (start N vs) G O { nx := fun _ G' O' => R .non G' O', rt := R }) : C8.Mak P w K mg base (k + 1) x C (Fn S) [] := by
  obtain ⟨fd, F, b⟩ := Fe
  exact ⟨f, fd, ps, [], M, fn_by F sc len hbody, g, b, .nil⟩
theorem met_by {m qual : Str} {f : Addr} {st : Stmt} {N ps : List Str} {k : Nat} {S : Sg} (c : Cls K C) (me : Meth K C m f) (Fe : ∃ fd, L2.Fun K m qual st f fd ∧ Binds K fd ps []) (sc : FnScope N ps (defScope st)) (len : ∀ vs G O R, S vs G O R → vs.length = ps.length)
    (hbody : ∀ (cdv : Value) (A : Around) (outer : List Env) (s : Shared) (H : Hp) (vs : List V) (G : Hp) (O : OL) (R : V → Hp → OL → Prop) (E : XK), Room k (A.deeper (envOfC qual (defScope st) s.heap.objs.size f cdv)) → S vs G O R →
      ∃ t, PSs (cxOf CX0 P w K mg base N qual (defScope st) f cdv A outer s H E).nox (defBody st) t ∧ WS t (start N vs) G O { nx := fun _ G' O' => R .non G' O', rt := R }) : C8.Met P w K mg base (k + 1) C m (Fn S) [] := by
  obtain ⟨fd, F, b⟩ := Fe
  exact ⟨f, fd, ps, [], c, me, fn_by F sc len hbody, b, .nil⟩
end
/-! the field's object -/
def fcls (K : PySem.W.Frag) : Fk → Addr
  | .frac => ga K "FractionField"
  | .rest _ _ => ga K "RestField"
def Fk.flds (vz vo vm : V) : Fk → List (Str × V)
  | .frac => [("zero", vz), ("one", vo), ("minus_one", vm)]
  | .rest p _ => [("prime", .int (p : Int)), ("zero", vz), ("one", vo), ("minus_one", vm)]
def FldOk (K : PySem.W.Frag) (F : Fk) (G : Hp) (v : V) : Prop := ∃ a dx vz vo vm, v = .ref a ∧ Da G [] vz F.zero ∧ Nu F G vo 1 ∧ Nu F G vm F.minus ∧ G a = some (.ins (fcls K F) dx (F.flds vz vo vm))
instance {K : PySem.W.Frag} {F : Fk} {v : V} : Mono (fun G => FldOk K F G v) := ⟨fun e ⟨a, dx, vz, vo, vm, h1, h2, h3, h4, h5⟩ => ⟨a, dx, vz, vo, vm, h1, Da.up e h2, Da.up e h3, Da.up e h4, e _ _ h5⟩⟩
theorem fld_up {K : PySem.W.Frag} {F : Fk} {v : V} {G G' : Hp} (e : Ex G G') (h : FldOk K F G v) : FldOk K F G' v := mlift (R := fun G => FldOk K F G v) e h
theorem nu_up {F : Fk} {v : V} {u : F.U} {G G' : Hp} (e : Ex G G') (h : Nu F G v u) : Nu F G' v u := Da.up e h
theorem ro_up {F : Fk} {v : V} {u : List F.U} {G G' : Hp} (e : Ex G G') (h : Ro F G v u) : Ro F G' v u := sq_up e h
def dpair (p : Nat × Nat) : PyData := .tuple [.int (p.1 : Int), .int (p.2 : Int)]
/-- the law's picture -/
def dpic (n m : Nat) (ps : List (Nat × Nat)) : PyData := .list [.int (n : Int), .int (m : Int), .list (ps.map dpair)]
def dints (l : List Int) : List PyData := l.map PyData.int
def dnats (l : List Nat) : List PyData := l.map fun x : Nat => PyData.int (x : Int)
end K6
/-! text K8 -/
set_option Elab.async false
set_option linter.all false
set_option maxRecDepth 100000
set_option maxHeartbeats 4000000
/-! K8: comparing numbers and rows. -/
namespace K6
open PySem L2 K3 PySem.Spec PyProof.Rows Gp
open Evl (Ex)
theorem shp {d : PyData} (h : d.canLay0 = true ∧ d.depth ≤ 64) : SeqAt.shaped d = true := by
  unfold SeqAt.shaped
  rw [h.1, Bool.true_and]
  exact decide_eq_true h.2
theorem shp_dat {F : Fk} (a : F.U) : SeqAt.shaped (F.dat a) = true := shp ⟨(Fk.shaped_dat a).1, Nat.le_trans (Fk.shaped_dat a).2 (by decide)⟩
theorem lay_all {F : Fk} (us : List F.U) : PyData.canLayAll0 (us.map F.dat) = true ∧ PyData.depthAll (us.map F.dat) ≤ 1 := by
  induction us with
  | nil => exact ⟨rfl, Nat.zero_le _⟩
  | cons a us ih =>
    have h := Fk.shaped_dat a
    refine ⟨?_, ?_⟩
    · show (PyData.canLay0 _ && PyData.canLayAll0 _) = true
      rw [h.1, ih.1]; rfl
    · show max (PyData.depth _) (PyData.depthAll _) ≤ 1
      exact Nat.max_le.mpr ⟨h.2, ih.2⟩
theorem shp_tup {F : Fk} (us : List F.U) : SeqAt.shaped (.tuple (us.map F.dat)) = true := shp ⟨by rw [PyData.canLay0]; exact (lay_all us).1, by rw [PyData.depth]; have := (lay_all us).2; omega⟩
theorem shp_lst {F : Fk} (us : List F.U) : SeqAt.shaped (.list (us.map F.dat)) = true := shp ⟨by rw [PyData.canLay0]; exact (lay_all us).1, by rw [PyData.depth]; have := (lay_all us).2; omega⟩
theorem shp_zero {F : Fk} : SeqAt.shaped F.zero = true := by
  cases F with
  | frac => exact shp ⟨rfl, by decide⟩
  | rest p h => exact shp ⟨rfl, Nat.zero_le _⟩
theorem eqvAll_dat {F : Fk} : ∀ us vs : List F.U, PyData.eqvAll (us.map F.dat) (vs.map F.dat) = decide (us = vs)
  | [], [] => by simp [PyData.eqvAll]
  | [], b :: vs => by simp [PyData.eqvAll]
  | a :: us, [] => by simp [PyData.eqvAll]
  | a :: us, b :: vs => by
    rw [List.map_cons, List.map_cons, PyData.eqvAll, Fk.eqv_dat, eqvAll_dat us vs]
    by_cases h : a = b <;> by_cases h2 : us = vs <;> simp [h, h2]
section
variable {F : Fk} {G : Hp} {O : OL} {x y : V} {a b : F.U} {us vs : List F.U} {K : PySem.W.Frag} {R : V → Hp → OL → Prop}
theorem r_eqN (ha : Nu F G x a) (hb : Nu F G y b) (r : R (.bl (decide (a = b))) G O) : W (rEqD K x y) G O R :=
  r_eqD (da_wk O ha) (da_wk O hb) (shp_dat a) (shp_dat b) (by rw [Fk.eqv_dat]; exact r)
theorem r_neN (ha : Nu F G x a) (hb : Nu F G y b) (r : R (.bl (!decide (a = b))) G O) : W (rNeD K x y) G O R :=
  r_neD (da_wk O ha) (da_wk O hb) (shp_dat a) (shp_dat b) (by rw [Fk.eqv_dat]; exact r)
theorem r_eqZ (ha : Nu F G x a) (hb : Da G [] y F.zero) (r : R (.bl false) G O) : W (rEqD K x y) G O R :=
  r_eqD (da_wk O ha) (da_wk O hb) (shp_dat a) shp_zero (by rw [Fk.eqv_zero]; exact r)
theorem r_neZ (ha : Nu F G x a) (hb : Da G [] y F.zero) (r : R (.bl true) G O) : W (rNeD K x y) G O R :=
  r_neD (da_wk O ha) (da_wk O hb) (shp_dat a) shp_zero (by rw [Fk.eqv_zero]; exact r)
theorem r_eqRT (ha : Da G [] x (.tuple (us.map F.dat))) (hb : Da G [] y (.tuple (vs.map F.dat))) (r : R (.bl (decide (us = vs))) G O) : W (rEqD K x y) G O R :=
  r_eqD (da_wk O ha) (da_wk O hb) (shp_tup us) (shp_tup vs) (by rw [PyData.eqv, eqvAll_dat]; exact r)
theorem r_eqRL (ha : Da G [] x (.list (us.map F.dat))) (hb : Da G [] y (.list (vs.map F.dat))) (r : R (.bl (decide (us = vs))) G O) : W (rEqD K x y) G O R :=
  r_eqD (da_wk O ha) (da_wk O hb) (shp_lst us) (shp_lst vs) (by rw [PyData.eqv, eqvAll_dat]; exact r)
theorem r_neRL (ha : Da G [] x (.list (us.map F.dat))) (hb : Da G [] y (.list (vs.map F.dat))) (r : R (.bl (!decide (us = vs))) G O) : W (rNeD K x y) G O R :=
  r_neD (da_wk O ha) (da_wk O hb) (shp_lst us) (shp_lst vs) (by rw [PyData.eqv, eqvAll_dat]; exact r)
end
section
variable {G : Hp} {O : OL} {σ : L2.St} {K : PySem.W.Frag} {R : V → Hp → OL → Prop} {v : V} {ds : List PyData}
theorem g_lstD {N : L2.St → Hp → OL → Prop} {n : Nat} {t : TGs} (h : Da G [] v (.list ds)) (hl : ds.length = n) (q : ∀ xs, DaAll G [] xs ds → W (t xs σ) G O N) : W (gLst K n t v σ) G O N := by
  obtain ⟨a, xs, rfl, h1, h2⟩ := da_lst h
  exact fun H m Q z => ⟨a, xs, rfl, SqL.of (m.g _ _ h1), by rw [daAll_len h2]; exact hl, q xs h2 H m Q z⟩
theorem w_listRg {ta : TE} (h : W (ta σ) G O fun x G1 O1 => ∃ n : Nat, x = .int (n : Int) ∧ n ≤ 1000 ∧ ∀ v G2, Ex G1 G2 → Da G2 [] v (.list (dnats (List.range n))) → R v G2 O1) : W (tLstRg (tRg1 ta) σ) G O R := fun H m Q q =>
  h H m _ fun x H1 G1 O1 m1 u1 ⟨n, e, hn, r⟩ => by
    refine ⟨n, e, ⟨by decide, by decide, by omega, by omega, by omega⟩, fun p hp => q _ _ _ _ (m1.newG hp) (u1.trans m1 (m1.upG hp)) (r _ _ (m1.upG hp).g (.lst (.inl upd_same) ?_))⟩
    have e1 : rgV 0 (n : Int) = (List.range n).map fun i : Nat => V.int (i : Int) := by
      unfold rgV
      rw [show ((n : Int) - 0).toNat = n by omega]
      exact List.map_congr_left fun i _ => by rw [Int.zero_add]
    rw [e1]
    have : ∀ l : List Nat, DaAll (upd G1 p (.lst (l.map fun i : Nat => V.int (i : Int)))) [] (l.map fun i : Nat => V.int (i : Int)) (dnats l) → True := fun _ _ => trivial
    have key : ∀ (G : Hp) (l : List Nat), DaAll G [] (l.map fun i : Nat => V.int (i : Int)) (dnats l) := fun G l => by
      induction l with
      | nil => exact .nil
      | cons a l ih => exact .cons (.int _) ih
    exact key _ _
theorem inV_2 (x o t : Int) : inV (.int x) [.int o, .int t] = decide (x = o ∨ x = t) := by
  show ((o == x) || ((t == x) || false)) = _
  rw [Bool.eq_iff_iff, Bool.or_false, Bool.or_eq_true, beq_iff_eq, beq_iff_eq, decide_eq_true_eq]
  constructor <;> intro h <;> omega
theorem dn_get {l : List Nat} {k : Nat} (h : k < l.length) : (dnats l)[k]? = some (.int (l.getD k 0 : Nat)) := by
  rw [dnats, List.getElem?_map, List.getD_eq_getElem?_getD, List.getElem?_eq_getElem h]; rfl
theorem pa_get {ps : List (Nat × Nat)} {k : Nat} (h : k < ps.length) : (ps.map dpair)[k]? = some (dpair (pa ps k)) := by
  rw [pa, List.getElem?_map, List.getD_eq_getElem?_getD, List.getElem?_eq_getElem h]; rfl
end
section
variable {G : Hp} {O : OL} {σ : L2.St} {K : PySem.W.Frag} {R : V → Hp → OL → Prop} {te0 te : TE} {tt : TT} {vs : List Nat} {j : Nat}
theorem da1 {xs : List V} {d1 : PyData} (h : DaAll G O xs [d1]) : ∃ a, xs = [a] ∧ Da G O a d1 := by
  cases h with | cons a h => cases h; exact ⟨_, rfl, a⟩
theorem da2 {xs : List V} {d1 d2 : PyData} (h : DaAll G O xs [d1, d2]) : ∃ a b, xs = [a, b] ∧ Da G O a d1 ∧ Da G O b d2 := by
  cases h with | cons a h => obtain ⟨b, rfl, hb⟩ := da1 h; exact ⟨_, b, rfl, a, hb⟩
theorem da3 {xs : List V} {d1 d2 d3 : PyData} (h : DaAll G O xs [d1, d2, d3]) : ∃ a b c, xs = [a, b, c] ∧ Da G O a d1 ∧ Da G O b d2 ∧ Da G O c d3 := by
  cases h with | cons a h => obtain ⟨b, c, rfl, hb, hc⟩ := da2 h; exact ⟨_, b, c, rfl, a, hb, hc⟩
/-- comprehensions over a list, a tuple, a range -/
theorem w_lcL (h : W (te0 σ) G O fun x G1 O1 => ∃ ds, ds.length ≤ 1000 ∧ Da G1 [] x (.list ds) ∧ ∃ (b : Nat → Bool) (e : Nat → PyData),
    (∀ i y d G', ds[i]? = some d → Ex G1 G' → Da G' [] y d → wipe ((wipe σ vs).set j (some y)) vs = wipe σ vs ∧ W (tt ((wipe σ vs).set j (some y))) G' O1 fun c G2 O2 => O2 = O1 ∧ c = b i ∧ (b i = true → W (te ((wipe σ vs).set j (some y))) G2 O1 fun z G3 O3 => O3 = O1 ∧ Da G3 [] z (e i))) ∧
    (∀ p G', Ex G1 G' → Da G' [] (.ref p) (.list (((List.range ds.length).filter b).map e)) → R (.ref p) G' O1)) : W (tLc (iList K te0) (gName j) tt te vs σ) G O R := by
  refine w_lcF (i_list (w_imp h fun x G1 O1 _ ⟨ds, hl, hd, b, e, hs, hq⟩ => ?_))
  obtain ⟨a, xs, rfl, h1, h2⟩ := da_lst hd
  have hlen := daAll_len h2
  refine ⟨a, xs, rfl, .inl h1, _, _, by rw [hlen]; omega, wk_list h1, b, e, fun i y G' hi he hy => ?_, fun p G' he hp => hq p G' he (by rw [hlen] at hp; exact hp)⟩
  obtain ⟨d, e1, e2⟩ := daAll_of h2 hy
  exact hs i y d G' e1 he (Da.up he e2)
theorem w_lcT (h : W (te0 σ) G O fun x G1 O1 => ∃ ds, ds.length ≤ 1000 ∧ Da G1 [] x (.tuple ds) ∧ ∃ (b : Nat → Bool) (e : Nat → PyData),
    (∀ i y d G', ds[i]? = some d → Ex G1 G' → Da G' [] y d → wipe ((wipe σ vs).set j (some y)) vs = wipe σ vs ∧ W (tt ((wipe σ vs).set j (some y))) G' O1 fun c G2 O2 => O2 = O1 ∧ c = b i ∧ (b i = true → W (te ((wipe σ vs).set j (some y))) G2 O1 fun z G3 O3 => O3 = O1 ∧ Da G3 [] z (e i))) ∧
    (∀ p G', Ex G1 G' → Da G' [] (.ref p) (.list (((List.range ds.length).filter b).map e)) → R (.ref p) G' O1)) : W (tLc (iTup K te0) (gName j) tt te vs σ) G O R := by
  refine w_lcF (i_tup (w_imp h fun x G1 O1 _ ⟨ds, hl, hd, b, e, hs, hq⟩ => ?_))
  obtain ⟨a, xs, rfl, h1, h2⟩ := da_tup hd
  have hlen := daAll_len h2
  refine ⟨a, xs, rfl, h1, _, _, by rw [hlen]; omega, wk_tup h1, b, e, fun i y G' hi he hy => ?_, fun p G' he hp => hq p G' he (by rw [hlen] at hp; exact hp)⟩
  obtain ⟨d, e1, e2⟩ := daAll_of h2 hy
  exact hs i y d G' e1 he (Da.up he e2)
theorem w_lcR {t : TA} (h : W (t σ) G O fun ws G1 O1 => ∃ n : Nat, ws = [.int (n : Int)] ∧ n ≤ 1000 ∧ ∃ (b : Nat → Bool) (e : Nat → PyData),
    (∀ i G', i < n → Ex G1 G' → wipe ((wipe σ vs).set j (some (.int (i : Int)))) vs = wipe σ vs ∧ W (tt ((wipe σ vs).set j (some (.int (i : Int))))) G' O1 fun c G2 O2 => O2 = O1 ∧ c = b i ∧ (b i = true → W (te ((wipe σ vs).set j (some (.int (i : Int))))) G2 O1 fun z G3 O3 => O3 = O1 ∧ Da G3 [] z (e i))) ∧
    (∀ p G', Ex G1 G' → Da G' [] (.ref p) (.list (((List.range n).filter b).map e)) → R (.ref p) G' O1)) : W (tLc (iRng1 t) (gName j) tt te vs σ) G O R := by
  refine w_lcF (i_range1 (w_imp h fun x G1 O1 _ ⟨n, hws, hl, b, e, hs, hq⟩ => ⟨n, hws, by omega, by omega, _, _, by omega, wk_range, b, e, fun i y G' hi he hy => ?_, fun p G' he hp => hq p G' he hp⟩))
  subst hy
  rw [Int.zero_add]
  exact hs i G' hi he
theorem filter_tt {α : Type} (l : List α) : l.filter (fun _ => true) = l := List.filter_eq_self.mpr fun _ _ => rfl
/-- .. that map alone -/
theorem w_lcLm (h : W (te0 σ) G O fun x G1 O1 => ∃ ds, ds.length ≤ 1000 ∧ Da G1 [] x (.list ds) ∧ ∃ (e : Nat → PyData),
    (∀ i y d G', ds[i]? = some d → Ex G1 G' → Da G' [] y d → wipe ((wipe σ vs).set j (some y)) vs = wipe σ vs ∧ W (te ((wipe σ vs).set j (some y))) G' O1 fun z G3 O3 => O3 = O1 ∧ Da G3 [] z (e i)) ∧
    (∀ p G', Ex G1 G' → Da G' [] (.ref p) (.list ((List.range ds.length).map e)) → R (.ref p) G' O1)) : W (tLc (iList K te0) (gName j) tYes te vs σ) G O R :=
  w_lcL (w_imp h fun x G1 O1 _ ⟨ds, hl, hd, e, hs, hq⟩ => ⟨ds, hl, hd, fun _ => true, e, fun i y d G' h1 h2 h3 => ⟨(hs i y d G' h1 h2 h3).1, t_yes ⟨rfl, rfl, fun _ => (hs i y d G' h1 h2 h3).2⟩⟩, fun p G' h1 h2 => hq p G' h1 (by rw [filter_tt] at h2; exact h2)⟩)
theorem w_lcTm (h : W (te0 σ) G O fun x G1 O1 => ∃ ds, ds.length ≤ 1000 ∧ Da G1 [] x (.tuple ds) ∧ ∃ (e : Nat → PyData),
    (∀ i y d G', ds[i]? = some d → Ex G1 G' → Da G' [] y d → wipe ((wipe σ vs).set j (some y)) vs = wipe σ vs ∧ W (te ((wipe σ vs).set j (some y))) G' O1 fun z G3 O3 => O3 = O1 ∧ Da G3 [] z (e i)) ∧
    (∀ p G', Ex G1 G' → Da G' [] (.ref p) (.list ((List.range ds.length).map e)) → R (.ref p) G' O1)) : W (tLc (iTup K te0) (gName j) tYes te vs σ) G O R :=
  w_lcT (w_imp h fun x G1 O1 _ ⟨ds, hl, hd, e, hs, hq⟩ => ⟨ds, hl, hd, fun _ => true, e, fun i y d G' h1 h2 h3 => ⟨(hs i y d G' h1 h2 h3).1, t_yes ⟨rfl, rfl, fun _ => (hs i y d G' h1 h2 h3).2⟩⟩, fun p G' h1 h2 => hq p G' h1 (by rw [filter_tt] at h2; exact h2)⟩)
theorem w_lcRm {t : TA} (h : W (t σ) G O fun ws G1 O1 => ∃ n : Nat, ws = [.int (n : Int)] ∧ n ≤ 1000 ∧ ∃ (e : Nat → PyData),
    (∀ i G', i < n → Ex G1 G' → wipe ((wipe σ vs).set j (some (.int (i : Int)))) vs = wipe σ vs ∧ W (te ((wipe σ vs).set j (some (.int (i : Int))))) G' O1 fun z G3 O3 => O3 = O1 ∧ Da G3 [] z (e i)) ∧
    (∀ p G', Ex G1 G' → Da G' [] (.ref p) (.list ((List.range n).map e)) → R (.ref p) G' O1)) : W (tLc (iRng1 t) (gName j) tYes te vs σ) G O R :=
  w_lcR (w_imp h fun x G1 O1 _ ⟨n, hws, hl, e, hs, hq⟩ => ⟨n, hws, hl, fun _ => true, e, fun i G' h1 h2 => ⟨(hs i G' h1 h2).1, t_yes ⟨rfl, rfl, fun _ => (hs i G' h1 h2).2⟩⟩, fun p G' h1 h2 => hq p G' h1 (by rw [filter_tt] at h2; exact h2)⟩)
/-- an owned list is data once it is frozen -/
theorem w_frzD {α : Type} {k : Hp → (α → Hp → Prop) → Prop} {R : α → Hp → OL → Prop} (i : Nat) {l : Addr} {xs : List V} {ds : List PyData} (h : O[i]? = some (l, .lst xs)) (hd : DaAll G [] xs ds) (q : ∀ G', Ex G G' → Da G' [] (.ref l) (.list ds) → W k G' (O.eraseIdx i) R) : W k G O R :=
  w_freeze i h fun G' e hl => q G' e (.lst (.inl hl) (DaAll.up e hd))
theorem ws_frzD {ts : TS} {D : En} (i : Nat) {l : Addr} {xs : List V} {ds : List PyData} (h : O[i]? = some (l, .lst xs)) (hd : DaAll G [] xs ds) (q : ∀ G', Ex G G' → Da G' [] (.ref l) (.list ds) → WS ts σ G' (O.eraseIdx i) D) : WS ts σ G O D :=
  ws_freeze i h fun G' e hl => q G' e (.lst (.inl hl) (DaAll.up e hd))
end
theorem wk_range0 {G : Hp} {n : Nat} : Wk (Itr 0 n) G [] n (fun i x _ => x = .int (i : Int)) where
  go := fun i H G' O' hi _ _ _ => hi
  stop := fun H G' O' _ _ _ => Nat.le_refl _
  yld := fun i H G' O' x H' hi m _ _ ⟨e, ex⟩ => by subst e; exact ⟨G', m, Up.refl, by rw [ex, Int.zero_add]⟩
theorem daAll_nats (G : Hp) (l : List Nat) : DaAll G [] (l.map fun x : Nat => V.int (x : Int)) (dnats l) := by
  induction l with
  | nil => exact .nil
  | cons a l ih => exact .cons (.int _) ih
theorem list_range {α : Type} (l : List α) (d : α) : (List.range l.length).map (fun j => l.getD j d) = l := by
  refine List.ext_getElem (by simp) fun i h1 h2 => ?_
  simp only [List.getElem_map, List.getElem_range]
  rw [List.getD_eq_getElem?_getD, List.getElem?_eq_getElem h2]; rfl
theorem filt_range {α β : Type} (l : List α) (d : α) (q : α → Bool) (f : α → β) : ((List.range l.length).filter (fun j => q (l.getD j d))).map (fun j => f (l.getD j d)) = (l.filter q).map f := by
  conv => rhs; rw [← list_range l d, List.filter_map, List.map_map]
  rfl
theorem map_range {α β : Type} (l : List α) (d : α) (f : α → β) : (List.range l.length).map (fun j => f (l.getD j d)) = l.map f := by
  conv => rhs; rw [← list_range l d, List.map_map]
  rfl
theorem sd_get {p : Nat × Nat} {s : Nat} (h : s < 2) : [PyData.int (p.1 : Int), PyData.int (p.2 : Int)][s]? = some (.int (sd s p : Nat)) := by
  have : s = 0 ∨ s = 1 := by omega
  rcases this with rfl | rfl <;> rfl
theorem ints_at {l : List Int} {j : Nat} (h : j < l.length) : (l.map V.int)[j]? = some (.int (l.getD j 0)) := by
  rw [List.getElem?_map, List.getD_eq_getElem?_getD, List.getElem?_eq_getElem h]; rfl
theorem di_get {l : List Int} {k : Nat} (h : k < l.length) : (dints l)[k]? = some (.int (l.getD k 0)) := by
  rw [dints, List.getElem?_map, List.getD_eq_getElem?_getD, List.getElem?_eq_getElem h]; rfl
theorem da_ints {G : Hp} {v : V} {l : List Int} (h : Da G [] v (.list (dints l))) : ∃ a, v = .ref a ∧ G a = some (.lst (l.map V.int)) := by
  obtain ⟨a, xs, rfl, h1, h2⟩ := da_lst h
  exact ⟨a, rfl, by rw [h1, daAll_ints' h2]⟩
theorem set_ints (l : List Int) (k : Nat) (x : Int) : (l.map V.int).set k (.int x) = (l.set k x).map V.int := (List.map_set ..).symm
theorem ixN_nat {n k : Nat} (h : k < n) : ixN n (k : Int) = some k := by
  unfold ixN
  rw [if_pos (by omega), if_pos (by omega)]; rfl
theorem w_permR {α : Type} {k : Hp → (α → Hp → Prop) → Prop} {G : Hp} {O : OL} {R R' : α → Hp → OL → Prop} (h : W k G O R') (p : ∀ v G' O', Ex G G' → R' v G' O' → ∃ O2, O'.Perm O2 ∧ R v G' O2) : W k G O R := fun H m Q q =>
  h H m Q fun v H' G' O' m' u r => by
    obtain ⟨O2, hp, r2⟩ := p v G' O' u.g r
    refine q v H' G' O2 ⟨m'.g, fun x hx => m'.o x (hp.mem_iff.mpr hx), (hp.map _).nodup_iff.mp m'.nd⟩ ⟨u.fr, u.g, fun a ha => u.nw a (ha.imp id fun z => (hp.map _).mem_iff.mpr z)⟩ r2
/-- a call whose new owned objects stand behind those at hand -/
theorem f_own {S : Sg} {vs : List V} {E : XK} {G : Hp} {O : OL} {R R1 : V → Hp → OL → Prop} (hS : S vs G [] R1) (q : ∀ v G2 A2, Ex G G2 → R1 v G2 A2 → R v G2 (O ++ A2)) : W (fun H Q => Fn S vs H Q E) G O R :=
  w_permR (f_pure (R := fun v G2 O2 => ∃ A2, O2 = A2 ++ O ∧ R v G2 (O ++ A2)) hS fun v G2 A2 e r => ⟨A2, rfl, q v G2 A2 e r⟩) fun v G2 O2 _ ⟨A2, e, r⟩ => by subst e; exact ⟨_, List.perm_append_comm, r⟩
section
variable {K : PySem.W.Frag}
/-- isinstance(x, (list, tuple)) of a list or a tuple -/
theorem r_isLT {G : Hp} {O : OL} {R : V → Hp → OL → Prop} {x tp : V} {ds : List PyData} (hx : Sq G x ds) (h : ∃ a, tp = .ref a ∧ G a = some (.tup [.ty "list", .ty "tuple"])) (r : R (.bl true) G O) : W (rIsiT K [x, tp]) G O R := by
  obtain ⟨a, rfl, ha⟩ := h
  rcases hx with h | h
  · obtain ⟨b, xs, rfl, h1, h2⟩ := da_lst h
    exact r_isiT ha (.cons (.ty "list") (.cons (.ty "tuple") .nil)) (.lst (.inl h1)) (kitAny_cons (b := true) (kit_ty rfl) (fun z => by cases z) fun _ => rfl) r
  · obtain ⟨b, xs, rfl, h1, h2⟩ := da_tup h
    exact r_isiT ha (.cons (.ty "list") (.cons (.ty "tuple") .nil)) (.tup h1) (kitAny_cons (b := false) (kit_ty rfl) (fun _ => kitAny_cons (b := true) (kit_ty rfl) (fun z => by cases z) fun _ => rfl) fun z => by cases z) r
/-- .. of another thing -/
theorem r_isLTf {G : Hp} {O : OL} {R : V → Hp → OL → Prop} {x tp : V} {t : String} (hx : TyK K G O x (.type t)) (e1 : kitB t "list" = some false) (e2 : kitB t "tuple" = some false) (h : ∃ a, tp = .ref a ∧ G a = some (.tup [.ty "list", .ty "tuple"])) (r : R (.bl false) G O) : W (rIsiT K [x, tp]) G O R := by
  obtain ⟨a, rfl, ha⟩ := h
  exact r_isiT ha (.cons (.ty "list") (.cons (.ty "tuple") .nil)) hx (kitAny_cons (b := false) (kit_ty e1) (fun _ => kitAny_cons (b := false) (kit_ty e2) (fun _ => rfl) fun z => by cases z) fun z => by cases z) r
/-- the tuple (list, tuple) -/
theorem w_tyLT {G : Hp} {O : OL} {σ : L2.St} {R : V → Hp → OL → Prop} (h : ∀ v G2, Ex G G2 → (∃ a, v = .ref a ∧ G2 a = some (.tup [.ty "list", .ty "tuple"])) → R v G2 O) : W (tTup (tCons (tC (.ty "list")) (tCons (tC (.ty "tuple")) tNil)) σ) G O R :=
  w_tup (w_cons (w_c (w_cons (w_c (w_nil ⟨by decide, fun p G2 e2 hp => h _ G2 e2 ⟨p, rfl, hp⟩⟩)))))
end
/-- the size of lowest terms -/
theorem divInt_le {t b : Int} (hb : b ≠ 0) : (Rat.divInt t b).num.natAbs ≤ t.natAbs ∧ (Rat.divInt t b).den ≤ b.natAbs := by
  rw [Rat.num_divInt, Rat.den_divInt, if_neg hb]
  refine ⟨?_, Nat.div_le_self _ _⟩
  rw [Int.natAbs_ediv_of_dvd (Int.dvd_trans (Int.gcd_dvd_right ..) (Int.dvd_mul_left ..)), Int.natAbs_mul, Int.natAbs_sign_of_ne_zero hb, Nat.one_mul]
  exact Nat.div_le_self _ _
end K6
/-! text Z1 -/
set_option Elab.async false
set_option linter.all false
set_option maxRecDepth 100000
set_option maxHeartbeats 4000000
/-! Z1: enumerate of a tuple, zip of a tuple and a list. -/
namespace K6
open PySem L2 K3 PySem.Spec PyProof.Rows
open Evl (Ex)
theorem at_ne {h : Heap} {a b : Addr} {o o' : Obj} {n m : String} (x : h.get? a = some o) (hx : o.cls = .type n) (y : h.get? b = some o') (hy : o'.cls = .type m) (hn : n ≠ m) : a ≠ b := fun e => by
  subst e
  rw [x] at y
  cases y
  rw [hx] at hy
  exact hn (by injection hy)
theorem tup_ne_iter {h : Heap} {a b t : Addr} {i : Nat} {items : Array Value} (x : h.IsTuple a items) (y : h.IsTupleIter b t i) : a ≠ b := by
  obtain ⟨o, ho, hc, _⟩ := x
  obtain ⟨o', ho', hc', _⟩ := y
  exact at_ne ho hc ho' hc' (by decide)
theorem lst_ne_iter {h : Heap} {a b t : Addr} {i : Nat} {items : Array Value} (x : h.IsList a items) (y : h.IsListIter b t i) : a ≠ b := by
  obtain ⟨o, ho, hc, _⟩ := x
  obtain ⟨o', ho', hc', _⟩ := y
  exact at_ne ho hc ho' hc' (by decide)
/-- the tuple at a, each item in a new pair -/
def IteT (K : PySem.W.Frag) (a : Addr) : It :=
  ⟨fun i H => ∃ (xs : List V) (x : V), SqT K H a xs ∧ xs[i]? = some x, fun i H v H' => ∃ T x, v = .ref T ∧ H T = none ∧ H' = upd H T (.tup [.int (i : Nat), x]) ∧ ∀ xs, SqT K H a xs → xs[i]? = some x, fun i H => ∃ xs : List V, SqT K H a xs ∧ xs.length = i⟩
theorem turn_enumT {P : Program} {w : World} {K : PySem.W.Frag} {elts : List Expr} {kk : Nat} {tpos : Pos} (a e it : Addr) :
    Turn P w K (.Tuple elts kk tpos) (IteT K a) [e, it] e (fun i h => (∃ old, IsEnum h e it ((i : Nat) : Int) old) ∧ h.IsTupleIter it a i ∧ e ≠ it) where
  mem := by simp
  obj := fun i h st b hb => by
    obtain ⟨⟨old, he⟩, ⟨o, ho, hc, hd⟩, _⟩ := st
    have e' : b = e ∨ b = it := by simpa using hb
    rcases e' with z | z
    · rw [z]; exact ⟨_, he, fun v q => nomatch q⟩
    · rw [z]; exact ⟨o, ho, fun v q => by rw [hd] at q; cases q⟩
  keep := fun i h h' st k => let ⟨⟨old, he⟩, hi, hne⟩ := st; ⟨⟨old, k e (by simp) _ he⟩, hi.at fun o q => k it (by simp) o q, hne⟩
  item := by
    intro X hP hw hK hc i pins s σ H E I hf st hg
    subst hP hw hK
    obtain ⟨⟨old, he⟩, hit, hne⟩ := st
    obtain ⟨xs, x, hq, hx⟩ := hg
    obtain ⟨its, rv, p, hz⟩ := I.tuple hq
    obtain ⟨u, hu, ru⟩ := rv.get hx
    have hp : s.heap.IsTuple a its.toArray := p
    have hel : e < s.heap.objs.size := Heap.lt_size he
    have hil : it < s.heap.objs.size := by obtain ⟨_, q, _⟩ := hit; exact Heap.lt_size q
    have hai : a ≠ it := tup_ne_iter hp hit
    have hea : e ≠ a := by obtain ⟨o, ho, hc', _⟩ := hp; exact at_ne he rfl ho hc' (by decide)
    have hui : its.toArray[i]? = some u := by simpa using hu
    have hlt : i < its.toArray.size := by
      apply Classical.byContradiction
      intro hn
      rw [Array.getElem?_eq_none (by omega)] at hui
      cases hui
    refine wpAny_pyNext_enum_itemD (Draws.tuple (prog := X.prog) (w := X.w) (A := X.A.in1) (show X.A.in1.handled = none from I.ok.hd hc) it a hai its.toArray) he ⟨hit, hp⟩ hlt hne (by simp [hne, hea]) fun v h' tk hv ho hst hT hsz hk => ?_
    have hv : its.toArray[i]? = some v := hv
    rw [hui] at hv
    obtain rfl := Option.some.inj hv
    have hit' := hst.1
    refine ⟨_, rfl, wpAny_letOwnedTupleGo_enum (s := { s with heap := h', toks := tk + 1 }) ho fun h'' he' sb => ?_⟩
    have hT2 : h''.get? s.heap.objs.size = some { cls := .type "tuple", data := .seq #[.int i tk, u] } := (sb.2 _ (Nat.ne_of_gt hel)).trans hT
    have new : ObjOk X.prog X.w (upd H s.heap.objs.size (.tup [.int (i : Nat), x])) h'' s.heap.objs.size (.tup [.int (i : Nat), x]) :=
      ⟨by show 2 ≤ sizeLine; decide, [.int i tk, u], .cons ⟨_, rfl⟩ (.cons ru .nil), ⟨_, hT2, rfl, _, rfl⟩⟩
    have I1 : Inv X pins σ (upd H s.heap.objs.size (.tup [.int (i : Nat), x])) { s with heap := h'', toks := tk + 1 } :=
      I.turnedNew (ch := [e, it]) (fun b ob hb q => (sb.2 b (fun z => hb (by simp [z]))).trans (hk b ob (fun z => hb (by simp [z])) (fun z => hb (by simp [z])) q)) hf (Nat.le_refl _) new
    refine ⟨.ref s.heap.objs.size, _, I1, rfl, ⟨_, x, rfl, I.hok.fresh (Nat.le_refl _), rfl, fun ys hy => by rw [I.tuple_inj hy hq]; exact hx⟩, ⟨⟨u, ?_⟩, hit'.at fun o q => (sb.2 it (Ne.symm hne)).trans q, hne⟩, fun b hb => ?_⟩
    · have e1 : ((i + 1 : Nat) : Int) = (i : Int) + 1 := by omega
      rw [e1]; exact he'
    · have hb' : b < s.heap.objs.size := by
        have e' : b = e ∨ b = it := by simpa using hb
        rcases e' with z | z
        · rw [z]; exact hel
        · rw [z]; exact hil
      rw [upd_ne (Nat.ne_of_lt hb')]
      exact (hf b hb).1
  done := by
    intro X hP hw hK hc i pins s σ H E I hf st hg
    subst hP hw hK
    obtain ⟨⟨old, he⟩, hit, hne⟩ := st
    obtain ⟨xs, hq, hx⟩ := hg
    obtain ⟨its, rv, p, hz⟩ := I.tuple hq
    obtain ⟨f0, f1, f2, f3, f4, f5⟩ := hf it (by simp)
    have hp : s.heap.IsTuple a its.toArray := p
    have hl := rv.length
    have hsz : its.toArray.size = i := by simp; omega
    have D := Draws.tuple (prog := X.prog) (w := X.w) (A := X.A.in1) (show X.A.in1.handled = none from I.ok.hd hc) it a (tup_ne_iter hp hit) its.toArray
    rw [hsz] at D
    exact wpAny_pyNext_enum_endD D he ⟨hit, hp⟩ fun h' eb => ⟨rfl, I.turned (t' := s.toks) (fun b o hb q => eb b o hb q) f0 f1 f3 f4 f5⟩
  self := fun A i s Q E st h => let ⟨⟨_, he⟩, _⟩ := st; wpAny_pyIter_enum he h
theorem meets_enum1B {v : Value} {o : Obj} {H : Heap → Prop} (B : Begins v o H) :
    Meets (Builtin.«enumerate.__new__» ⟨[.type "enumerate", v], []⟩) (fun _ R s => H s.heap ∧
      R (.ok (.ret (.ref (s.heap.push o).objs.size))) { s with heap := (s.heap.push o).push { cls := .type "enumerate", data := .fields #[.none, .bool false, .ref s.heap.objs.size, rawInt 0, .none, .none] } }) :=
  .of_wp fun prog w A R s h => by
    obtain ⟨hp, g, d, tk, os⟩ := s; obtain ⟨h1, h⟩ := h
    have hsub := sub_enumerate
    have q1 : ∀ {A' : Around} {E : Value → Shared → Prop} {Q : Value → Shared → Prop}, Q (.ref hp.objs.size) ⟨hp.push o, g, d, tk, os⟩ → wpAny (model prog w) A' (pyIter v) Q E ⟨hp, g, d, tk, os⟩ :=
      fun q => B.iter prog w _ _ ⟨hp, g, d, tk, os⟩ _ h1 q
    wp_walk using q1
    refine wpAny_stack_any fun st => wpAny_pure ?_
    split
    · rename_i c _ _ _ _ _
      cases (c == Value.type "enumerate")
      · wp_walk using q1
        exact ⟨_, rfl, h⟩
      · wp_walk using q1
        exact ⟨_, rfl, h⟩
    · wp_walk using q1
      exact ⟨_, rfl, h⟩
section
variable {prog : Program} {w : World} {A : Around} {E : Value → Shared → Prop} {s : Shared}
theorem enum1_begins {v : Value} {o : Obj} {H : Heap → Prop} {Q : Value → Shared → Prop} (B : Begins v o H) (h1 : H s.heap)
    (h : ∀ h', IsEnum h' (s.heap.objs.size + 1) s.heap.objs.size 0 .none → h'.get? s.heap.objs.size = some o → h'.objs.size = s.heap.objs.size + 2 →
      (∀ b o, s.heap.get? b = some o → h'.get? b = some o) → Q (.ref (s.heap.objs.size + 1)) { s with heap := h' }) :
    wpAny (model prog w) A (call (.type "enumerate") [v]) Q E s := by
  refine callType_new F.called_enumerate (by decide) (F.typeCall_enumerate_1 _) (F.newCall_enumerate_1 _) (fun obj => F.args_object_init_2 obj _) F.entry_enumerate_new
    (meets_enum1B B) ⟨h1, ?_⟩
  have hz : (s.heap.push o).objs.size = s.heap.objs.size + 1 := Heap.size_push ..
  show _ ∧ _
  rw [hz]
  have he : IsEnum ((s.heap.push o).push { cls := .type "enumerate", data := .fields #[.none, .bool false, .ref s.heap.objs.size, rawInt 0, .none, .none] }) (s.heap.objs.size + 1) s.heap.objs.size 0 .none := by
    have := Heap.get?_push_size (s.heap.push o) (o := { cls := .type "enumerate", data := .fields #[.none, .bool false, .ref s.heap.objs.size, rawInt 0, .none, .none] }) rfl
    rw [hz] at this; exact this
  exact ⟨⟨_, he, rfl⟩, h _ he (Heap.get?_push_of_some _ (Heap.get?_push_size _ B.free)) (by rw [Heap.size_push, hz]) fun b o x => Heap.get?_push_of_some _ (Heap.get?_push_of_some _ x)⟩
end
def iEnumT (K : PySem.W.Frag) (ta : TA) : TI := fun σ H R => ta σ H fun vs H1 => ∃ a xs, vs = [.ref a] ∧ SqT K H1 a xs ∧ R (IteT K a) H1
theorem pi_enumT {X : Cx} {e : Expr} {ta : TA} {p pos tpos : Pos} {elts : List Expr} {kk : Nat} (hg : Gl X "enumerate") (hm : X.mg "enumerate" = none) (ha : PA X [e] ta) (hs : starEach [e] X.env = [(false, eval e X.env)] := by rfl) :
    PI X (.Tuple elts kk tpos) (.Call (.Name "enumerate" p) [e] [] pos) (iEnumT X.K ta) := by
  refine ⟨fun pins s σ H R I h => ?_⟩
  refine Call_ (ld_blt I hg hm boot_enumerate (PyProof.Rows.callWith_type1 (thn (ha.run pos pins s σ H _ I h) fun us s1 ⟨vs, H1, I1, r1, q1⟩ => ?_) hs rfl))
  obtain ⟨a, xs, ex, hq, q⟩ := q1
  subst ex
  cases r1 with
  | cons r rr =>
    cases rr
    cases r
    obtain ⟨its, rv, p', hz⟩ := I1.tuple hq
    refine enum1_begins (begins_tuple a its.toArray) p' fun h' he hit hsz hk => wpAny_pyIter_enum he ?_
    have I2 : Inv X pins σ H1 { s1 with heap := h' } := I1.kept (t' := s1.toks) hk
    refine ⟨s1.heap.objs.size + 1, [s1.heap.objs.size + 1, s1.heap.objs.size], _, _, H1, rfl, I2, turn_enumT a (s1.heap.objs.size + 1) s1.heap.objs.size, ⟨⟨.none, he⟩, ⟨_, hit, rfl, rfl⟩, Nat.succ_ne_self _⟩, fun b hb => ?_, q⟩
    have e' : b = s1.heap.objs.size + 1 ∨ b = s1.heap.objs.size := by simpa using hb
    have hle : s1.heap.objs.size ≤ b := by
      rcases e' with z | z
      · rw [z]; exact Nat.le_add_right _ _
      · rw [z]; exact Nat.le_refl _
    exact I1.fpOk hle (I1.hok.fresh hle)
theorem pi_enumTK {X : Cx} (K : PySem.W.Frag) (h : X.K = K) {e : Expr} {ta : TA} {p pos tpos : Pos} {elts : List Expr} {kk : Nat} (hg : Gl X "enumerate") (hm : X.mg "enumerate" = none) (ha : PA X [e] ta) (hs : starEach [e] X.env = [(false, eval e X.env)] := by rfl) :
    PI X (.Tuple elts kk tpos) (.Call (.Name "enumerate" p) [e] [] pos) (iEnumT K ta) := by subst h; exact pi_enumT hg hm ha hs
theorem i_enumT {K : PySem.W.Frag} {G : Hp} {O : OL} {σ : L2.St} {t : TA} {R : It → Hp → OL → Prop} (h : W (t σ) G O fun vs G1 O1 => ∃ a xs, vs = [.ref a] ∧ G1 a = some (.tup xs) ∧ R (IteT K a) G1 O1) : W (iEnumT K t σ) G O R := fun H m Q q =>
  h H m _ fun x H1 G1 O1 m1 u1 ⟨a, xs, e, hl, r⟩ => ⟨a, xs, e, SqT.of (m1.g _ _ hl), q _ _ _ _ m1 u1 r⟩
theorem wk_enumT {K : PySem.W.Frag} {G : Hp} {a : Addr} {xs : List V} (h : G a = some (.tup xs)) : Wk (IteT K a) G [] xs.length (fun i v G => ∃ T x, v = .ref T ∧ xs[i]? = some x ∧ G T = some (.tup [.int (i : Nat), x])) where
  go := fun i H G' O' hi m e _ => ⟨xs, xs[i], SqT.of (m.g _ _ (e _ _ h)), by simp [hi]⟩
  stop := fun H G' O' m e _ => ⟨xs, SqT.of (m.g _ _ (e _ _ h)), rfl⟩
  yld := fun i H G' O' v H' hi m e _ ⟨T, x, e1, hT, e2, ex⟩ => by
    subst e2
    exact ⟨_, m.newG hT, m.upG hT, T, x, e1, ex xs (SqT.of (m.g _ _ (e _ _ h))), upd_same⟩
/-! ### zip of a tuple and a list -/
def ItzM (K : PySem.W.Frag) (a b : Addr) : It :=
  ⟨fun i H => ∃ (xs ys : List V) (x y : V), SqT K H a xs ∧ SqL K H b ys ∧ xs[i]? = some x ∧ ys[i]? = some y,
    fun i H v H' => ∃ T x y, v = .ref T ∧ H T = none ∧ H' = upd H T (.tup [x, y]) ∧ (∀ xs, SqT K H a xs → xs[i]? = some x) ∧ ∀ ys, SqL K H b ys → ys[i]? = some y,
    fun i H => ∃ xs ys : List V, SqT K H a xs ∧ SqL K H b ys ∧ xs.length = i ∧ ys.length = i⟩
/-- the five cells of a zip lie apart -/
structure Apart5 (z TI TO i1 i2 : Addr) : Prop where
  TIz : TI ≠ z
  TOz : TO ≠ z
  i1z : i1 ≠ z
  i2z : i2 ≠ z
  TITO : TI ≠ TO
  TIi1 : TI ≠ i1
  TIi2 : TI ≠ i2
  TOi1 : TO ≠ i1
  TOi2 : TO ≠ i2
  i12 : i1 ≠ i2
theorem getT {h : Heap} {a : Addr} {items : Array Value} (x : h.IsTuple a items) : ∃ o, h.get? a = some o ∧ o.cls = .type "tuple" := let ⟨o, ho, hc, _⟩ := x; ⟨o, ho, hc⟩
theorem turn_zipM {P : Program} {w : World} {K : PySem.W.Frag} {elts : List Expr} {kk : Nat} {tpos : Pos} {a b z TI TO i1 i2 : Addr} (D : Apart5 z TI TO i1 i2) :
    Turn P w K (.Tuple elts kk tpos) (ItzM K a b) [z, TI, TO, i1, i2] z (fun i h => IsZip h z TI TO .none ∧ IsTupOf2 h TI (.ref i1) (.ref i2) ∧ (∃ x y, IsTupOf2 h TO x y) ∧ h.IsTupleIter i1 a i ∧ h.IsListIter i2 b i ∧ a ≠ TO) where
  mem := by simp
  obj := fun i h st c hc => by
    obtain ⟨hz, hTI, ⟨x, y, hTO⟩, ⟨o1, e1, _, d1⟩, ⟨o2, e2, _, d2⟩, _⟩ := st
    have e' : c = z ∨ c = TI ∨ c = TO ∨ c = i1 ∨ c = i2 := by simpa using hc
    rcases e' with q | q | q | q | q
    · rw [q]; exact ⟨_, hz, fun v q => nomatch q⟩
    · rw [q]; exact ⟨_, hTI, fun v q => nomatch q⟩
    · rw [q]; exact ⟨_, hTO, fun v q => nomatch q⟩
    · rw [q]; exact ⟨o1, e1, fun v q => by rw [d1] at q; cases q⟩
    · rw [q]; exact ⟨o2, e2, fun v q => by rw [d2] at q; cases q⟩
  keep := fun i h h' st k => by
    obtain ⟨hz, hTI, ⟨x, y, hTO⟩, h1, h2, h3⟩ := st
    exact ⟨k z (by simp) _ hz, k TI (by simp) _ hTI, ⟨x, y, k TO (by simp) _ hTO⟩, h1.at fun o q => k i1 (by simp) o q, h2.at fun o q => k i2 (by simp) o q, h3⟩
  item := by
    intro X hP hw hK hc i pins s σ H E I hf st hg
    subst hP hw hK
    obtain ⟨hz, hTI, ⟨x0, y0, hTO⟩, h1, h2, haTO⟩ := st
    obtain ⟨xs, ys, x, y, hqx, hqy, hx, hy⟩ := hg
    obtain ⟨its, rv, p, _⟩ := I.tuple hqx
    obtain ⟨its2, rv2, p2, _⟩ := I.list hqy
    have p : s.heap.IsTuple a its.toArray := p
    have p2 := p2.isList
    obtain ⟨u, hu, ru⟩ := rv.get hx
    obtain ⟨u2, hu2, ru2⟩ := rv2.get hy
    have hu : its.toArray[i]? = some u := by simpa using hu
    have hu2 : its2.toArray[i]? = some u2 := by simpa using hu2
    have lt_of : ∀ {l : Array Value} {v : Value}, l[i]? = some v → i < l.size := fun {l v} h => by
      apply Classical.byContradiction
      intro hn
      rw [Array.getElem?_eq_none (by omega)] at h
      cases h
    have hzl : z < s.heap.objs.size := Heap.lt_size hz
    obtain ⟨oa, hoa, hca⟩ := getT p
    obtain ⟨ob, hob, hcb, _⟩ := id p2
    obtain ⟨o1, ho1, hc1, _⟩ := id h1
    obtain ⟨o2, ho2, hc2, _⟩ := id h2
    have S : ZipSep2 z TI TO i1 i2 [i1, a] [i2, b] :=
      { TIz := D.TIz, TOz := D.TOz, TITO := D.TITO, TIi1 := D.TIi1, mem1 := by simp, zf1 := by simp [Ne.symm D.i1z, at_ne hz rfl hoa hca (by decide)], Tf1 := by simp [D.TOi1, Ne.symm haTO]
        TIi2 := D.TIi2, mem2 := by simp, zf2 := by simp [Ne.symm D.i2z, at_ne hz rfl hob hcb (by decide)], Tf2 := by simp [D.TOi2, at_ne hTO rfl hob hcb (by decide)]
        sep1_2 := by simp [D.i12, at_ne ho1 hc1 hob hcb (by decide)], sep2_1 := by simp [Ne.symm D.i12, at_ne ho2 hc2 hoa hca (by decide)] }
    refine wpAny_pyNext_zipD2_item S (Draws.tuple (prog := X.prog) (w := X.w) (A := X.A.in1) (show X.A.in1.handled = none from I.ok.hd hc) i1 a (tup_ne_iter p h1) its.toArray) (Draws.list (prog := X.prog) (w := X.w) (A := X.A.in1) (show X.A.in1.handled = none from I.ok.hd hc) i2 b (lst_ne_iter p2 h2) its2.toArray)
      hz hTI hTO ⟨h1, p⟩ ⟨h2, p2⟩ (lt_of hu) (lt_of hu2) fun v1 v2 h' tk e1 e2 z' TO' st1 st2 hT hsz hk => ?_
    have e1 : its.toArray[i]? = some v1 := e1
    have e2 : its2.toArray[i]? = some v2 := e2
    rw [hu] at e1
    rw [hu2] at e2
    obtain rfl := Option.some.inj e1
    obtain rfl := Option.some.inj e2
    have h1' := st1.1
    have h2' := st2.1
    refine ⟨_, rfl, wpAny_letOwnedTupleGo_zip (s := { s with heap := h', toks := tk }) z' fun h'' z'' sb => ?_⟩
    have hT2 : h''.get? s.heap.objs.size = some { cls := .type "tuple", data := .seq #[u, u2] } := (sb.2 _ (Nat.ne_of_gt hzl)).trans hT
    have new : ObjOk X.prog X.w (upd H s.heap.objs.size (.tup [x, y])) h'' s.heap.objs.size (.tup [x, y]) :=
      ⟨by show 2 ≤ sizeLine; decide, [u, u2], .cons ru (.cons ru2 .nil), ⟨_, hT2, rfl, _, rfl⟩⟩
    have I1 : Inv X pins σ (upd H s.heap.objs.size (.tup [x, y])) { s with heap := h'', toks := tk } :=
      I.turnedNew (t' := tk) (ch := [z, TI, TO, i1, i2]) (fun c o hb q => (sb.2 c (fun q' => hb (by simp [q']))).trans (hk c o (fun q' => hb (by simp [q'])) (fun q' => hb (by simp [q'])) (fun q' => hb (by simp [q'])) (fun q' => hb (by simp [q'])) q)) hf (Nat.le_refl _) new
    refine ⟨.ref s.heap.objs.size, _, I1, rfl, ⟨_, x, y, rfl, I.hok.fresh (Nat.le_refl _), rfl, fun l hl => by rw [I.tuple_inj hl hqx]; exact hx, fun l hl => by rw [I.list_inj hl hqy]; exact hy⟩, ⟨z'', ?_, ⟨u, u2, ?_⟩, ?_, ?_, haTO⟩, fun c hcm => ?_⟩
    · exact (sb.2 _ D.TIz).trans (hk _ _ D.TIz D.TITO D.TIi1 D.TIi2 hTI)
    · exact (sb.2 _ D.TOz).trans TO'
    · exact h1'.at fun o q => (sb.2 _ D.i1z).trans q
    · exact h2'.at fun o q => (sb.2 _ D.i2z).trans q
    · have hlt : c < s.heap.objs.size := by
        have e' : c = z ∨ c = TI ∨ c = TO ∨ c = i1 ∨ c = i2 := by simpa using hcm
        rcases e' with q | q | q | q | q
        · rw [q]; exact hzl
        · rw [q]; exact Heap.lt_size hTI
        · rw [q]; exact Heap.lt_size hTO
        · rw [q]; exact Heap.lt_size ho1
        · rw [q]; exact Heap.lt_size ho2
      rw [upd_ne (Nat.ne_of_lt hlt)]
      exact (hf c hcm).1
  done := by
    intro X hP hw hK hc i pins s σ H E I hf st hg
    subst hP hw hK
    obtain ⟨hz, hTI, ⟨x0, y0, hTO⟩, h1, h2, haTO⟩ := st
    obtain ⟨xs, ys, hqx, hqy, hend1, hend2⟩ := hg
    obtain ⟨its, rv, p, _⟩ := I.tuple hqx
    obtain ⟨its2, rv2, p2, _⟩ := I.list hqy
    have p : s.heap.IsTuple a its.toArray := p
    have p2 := p2.isList
    have l1 := rv.length
    have l2 := rv2.length
    obtain ⟨oa, hoa, hca⟩ := getT p
    obtain ⟨ob, hob, hcb, _⟩ := id p2
    obtain ⟨o1, ho1, hc1, _⟩ := id h1
    obtain ⟨o2, ho2, hc2, _⟩ := id h2
    have S : ZipSep2 z TI TO i1 i2 [i1, a] [i2, b] :=
      { TIz := D.TIz, TOz := D.TOz, TITO := D.TITO, TIi1 := D.TIi1, mem1 := by simp, zf1 := by simp [Ne.symm D.i1z, at_ne hz rfl hoa hca (by decide)], Tf1 := by simp [D.TOi1, Ne.symm haTO]
        TIi2 := D.TIi2, mem2 := by simp, zf2 := by simp [Ne.symm D.i2z, at_ne hz rfl hob hcb (by decide)], Tf2 := by simp [D.TOi2, at_ne hTO rfl hob hcb (by decide)]
        sep1_2 := by simp [D.i12, at_ne ho1 hc1 hob hcb (by decide)], sep2_1 := by simp [Ne.symm D.i12, at_ne ho2 hc2 hoa hca (by decide)] }
    exact wpAny_pyNext_zipD2_end S (Draws.tuple (prog := X.prog) (w := X.w) (A := X.A.in1) (show X.A.in1.handled = none from I.ok.hd hc) i1 a (tup_ne_iter p h1) its.toArray) (Draws.list (prog := X.prog) (w := X.w) (A := X.A.in1) (show X.A.in1.handled = none from I.ok.hd hc) i2 b (lst_ne_iter p2 h2) its2.toArray)
      (i := i) hz hTI hTO ⟨h1, p⟩ ⟨h2, p2⟩ (by simp; omega) (by simp; omega) (by simp; omega) fun h' tk hk => ⟨rfl, I.turnedL (t' := tk) (ch := [z, TI, TO, i1, i2]) (fun c o hb q =>
      hk c o (fun q' => hb (by simp [q'])) (fun q' => hb (by simp [q'])) (fun q' => hb (by simp [q'])) (fun q' => hb (by simp [q'])) q) hf⟩
  self := fun A i s Q E st h => wpAny_pyIter_zip st.1 h
def iZipM (K : PySem.W.Frag) (ta : TA) : TI := fun σ H R => ta σ H fun vs H1 => ∃ a b xs ys, vs = [.ref a, .ref b] ∧ SqT K H1 a xs ∧ SqL K H1 b ys ∧ R (ItzM K a b) H1
theorem pi_zipM0 {X : Cx} {e e2 : Expr} {ta : TA} {p pos tpos : Pos} {elts : List Expr} {kk : Nat} (hg : Gl X "zip") (hm : X.mg "zip" = none) (ha : PA X [e, e2] ta)
    (hs : starEach [e, e2] X.env = (false, eval e X.env) :: starEach [e2] X.env := by rfl) (hpl : (backTo pos (starEach [e2] X.env)).any (·.1) = false := by rfl) :
    PI X (.Tuple elts kk tpos) (.Call (.Name "zip" p) [e, e2] [] pos) (iZipM X.K ta) := by
  refine ⟨fun pins s σ H R I h => ?_⟩
  refine Call_ (ld_blt I hg hm PyProof.Rows.boot_zip (PyProof.Rows.callWith_type1 (thn (ha.run pos pins s σ H _ I h) fun us s1 ⟨vs, H1, I1, r1, q1⟩ => ?_) hs hpl))
  obtain ⟨a, b, xs, ys, ex, hqx, hqy, q⟩ := q1
  subst ex
  cases r1 with
  | cons r rr =>
    cases rr with
    | cons r' rr =>
      cases rr
      cases r
      cases r'
      have fresh5 : ∀ c, c ∈ [s1.heap.objs.size + 4, s1.heap.objs.size + 2, s1.heap.objs.size + 3, s1.heap.objs.size, s1.heap.objs.size + 1] → FpOk X pins H1 c := fun c hcm => by
        have e' : c = s1.heap.objs.size + 4 ∨ c = s1.heap.objs.size + 2 ∨ c = s1.heap.objs.size + 3 ∨ c = s1.heap.objs.size ∨ c = s1.heap.objs.size + 1 := by simpa using hcm
        have hle : s1.heap.objs.size ≤ c := by
          rcases e' with z | z | z | z | z
          · rw [z]; exact Nat.le_add_right _ _
          · rw [z]; exact Nat.le_add_right _ _
          · rw [z]; exact Nat.le_add_right _ _
          · rw [z]; exact Nat.le_refl _
          · rw [z]; exact Nat.le_add_right _ _
        exact I1.fpOk hle (I1.hok.fresh hle)
      obtain ⟨its, rv, p1, _⟩ := I1.tuple hqx
      obtain ⟨its2, rv2, p2, _⟩ := I1.list hqy
      have p1 : s1.heap.IsTuple a its.toArray := p1
      have p2 := p2.isList
      obtain ⟨oa, hoa, _⟩ := id p1
      have hal : a < s1.heap.objs.size := Heap.lt_size hoa
      refine zip_begins2 (begins_tuple a its.toArray) (begins_list b its2.toArray) p1 p2 fun h' hz hTI hTO h1 h2 hsz hk => wpAny_pyIter_zip hz ?_
      have I2 : Inv X pins σ H1 { s1 with heap := h' } := I1.kept (t' := s1.toks) hk
      have ap : Apart5 (s1.heap.objs.size + 4) (s1.heap.objs.size + 2) (s1.heap.objs.size + 3) s1.heap.objs.size (s1.heap.objs.size + 1) := by
        generalize s1.heap.objs.size = n
        have neq : ∀ {x y : Nat}, x ≠ y → (x : Addr) ≠ y := fun h => h
        constructor <;> (refine neq ?_; omega)
      exact ⟨s1.heap.objs.size + 4, [s1.heap.objs.size + 4, s1.heap.objs.size + 2, s1.heap.objs.size + 3, s1.heap.objs.size, s1.heap.objs.size + 1], _, _, H1, rfl, I2, turn_zipM ap, ⟨hz, hTI, ⟨_, _, hTO⟩, ⟨_, h1, rfl, rfl⟩, ⟨_, h2, rfl, rfl⟩, Nat.ne_of_lt (Nat.lt_of_lt_of_le hal (Nat.le_add_right _ _))⟩, fresh5, q⟩
theorem pi_zipM {X : Cx} (K : PySem.W.Frag) (h : X.K = K) {e e2 : Expr} {ta : TA} {p pos tpos : Pos} {elts : List Expr} {kk : Nat} (hg : Gl X "zip") (hm : X.mg "zip" = none) (ha : PA X [e, e2] ta)
    (hs : starEach [e, e2] X.env = (false, eval e X.env) :: starEach [e2] X.env := by rfl) (hpl : (backTo pos (starEach [e2] X.env)).any (·.1) = false := by rfl) :
    PI X (.Tuple elts kk tpos) (.Call (.Name "zip" p) [e, e2] [] pos) (iZipM K ta) := by subst h; exact pi_zipM0 hg hm ha hs hpl
theorem i_zipM {K : PySem.W.Frag} {G : Hp} {O : OL} {σ : L2.St} {t : TA} {R : It → Hp → OL → Prop} (h : W (t σ) G O fun vs G1 O1 => ∃ a b xs ys, vs = [.ref a, .ref b] ∧ G1 a = some (.tup xs) ∧ LsAt G1 O1 b ys ∧ R (ItzM K a b) G1 O1) : W (iZipM K t σ) G O R := fun H m Q q =>
  h H m _ fun x H1 G1 O1 m1 u1 ⟨a, b, xs, ys, e, hl, hl2, r⟩ => ⟨a, b, xs, ys, e, SqT.of (m1.g _ _ hl), SqL.of (m1.ls hl2), q _ _ _ _ m1 u1 r⟩
/-- both known -/
theorem wk_zipM {K : PySem.W.Frag} {G : Hp} {a b : Addr} {xs ys : List V} (h : G a = some (.tup xs)) (h2 : G b = some (.lst ys)) (hl : xs.length = ys.length) : Wk (ItzM K a b) G [] xs.length (fun i v G => ∃ T x y, v = .ref T ∧ xs[i]? = some x ∧ ys[i]? = some y ∧ G T = some (.tup [x, y])) where
  go := fun i H G' O' hi m e _ => ⟨xs, ys, xs[i], ys[i]'(by omega), SqT.of (m.g _ _ (e _ _ h)), SqL.of (m.g _ _ (e _ _ h2)), by simp [hi], by simp⟩
  stop := fun H G' O' m e _ => ⟨xs, ys, SqT.of (m.g _ _ (e _ _ h)), SqL.of (m.g _ _ (e _ _ h2)), rfl, hl.symm⟩
  yld := fun i H G' O' v H' hi m e _ ⟨T, x, y, e1, hT, e2, ex, ey⟩ => by
    subst e2
    exact ⟨_, m.newG hT, m.upG hT, T, x, y, e1, ex xs (SqT.of (m.g _ _ (e _ _ h))), ey ys (SqL.of (m.g _ _ (e _ _ h2))), upd_same⟩
/-- the list owned, not changed meanwhile -/
theorem wk_zipMO {K : PySem.W.Frag} {G : Hp} {O : OL} {a b : Addr} {xs ys : List V} (h : G a = some (.tup xs)) (h2 : (b, HO.lst ys) ∈ O) (hl : xs.length = ys.length) : Wk (ItzM K a b) G O xs.length (fun i v G => ∃ T x y, v = .ref T ∧ xs[i]? = some x ∧ ys[i]? = some y ∧ G T = some (.tup [x, y])) where
  go := fun i H G' O' hi m e hO => ⟨xs, ys, xs[i], ys[i]'(by omega), SqT.of (m.g _ _ (e _ _ h)), SqL.of (m.o _ (hO _ h2)).1, by simp [hi], by simp⟩
  stop := fun H G' O' m e hO => ⟨xs, ys, SqT.of (m.g _ _ (e _ _ h)), SqL.of (m.o _ (hO _ h2)).1, rfl, hl.symm⟩
  yld := fun i H G' O' v H' hi m e hO ⟨T, x, y, e1, hT, e2, ex, ey⟩ => by
    subst e2
    exact ⟨_, m.newG hT, m.upG hT, T, x, y, e1, ex xs (SqT.of (m.g _ _ (e _ _ h))), ey ys (SqL.of (m.o _ (hO _ h2)).1), upd_same⟩
end K6
/-! text X1 -/
set_option Elab.async false
set_option linter.all false
set_option maxRecDepth 100000
set_option maxHeartbeats 4000000
/-! X1: readings that may raise; making, raising and catching the program's own errors. -/
namespace K6
open PySem L2 K3 PySem.Spec PyProof.Rows
open Evl (Ex)
structure LkX (E : XK) (RX : RXt) (H G : Hp) (O : OL) : Prop where
  x : ∀ c d H' G' O', Md H' G' O' → Up H G O H' G' O' → RX c d G' O' → E c d H'
theorem LkX.trans {E : XK} {RX : RXt} {H G H1 G1 : Hp} {O O1 : OL} (l : LkX E RX H G O) (m1 : Md H1 G1 O1) (u : Up H G O H1 G1 O1) : LkX E RX H1 G1 O1 := ⟨fun c d H' G' O' m v h => l.x c d H' G' O' m (u.trans m1 v) h⟩
def Wx {α : Type} (E : XK) (RX : RXt) (k : Hp → (α → Hp → Prop) → Prop) (G : Hp) (O : OL) (R : α → Hp → OL → Prop) : Prop :=
  ∀ H, Md H G O → LkX E RX H G O → ∀ Q : α → Hp → Prop, (∀ v H' G' O', Md H' G' O' → Up H G O H' G' O' → R v G' O' → Q v H') → k H Q
def WSx (E : XK) (RX : RXt) (ts : TS) (σ : L2.St) (G : Hp) (O : OL) (D : En) : Prop := ∀ H, Md H G O → LkX E RX H G O → ∀ D0 : Ends, Lk D0 D H G O → ts D0 σ H
section
variable {α β : Type} {E : XK} {RX : RXt} {G : Hp} {O : OL} {σ : L2.St} {D : En} {ta te to tb : TE} {t : TA} {tt : TT} {ts tu : TS} {K : PySem.W.Frag}
theorem wx_of {k : Hp → (α → Hp → Prop) → Prop} {R : α → Hp → OL → Prop} (h : W k G O R) : Wx E RX k G O R := fun H m _ Q q => h H m Q q
theorem wsx_of (h : WS ts σ G O D) : WSx E RX ts σ G O D := fun H m _ D0 l => h H m D0 l
theorem wx_imp {k : Hp → (α → Hp → Prop) → Prop} {R R' : α → Hp → OL → Prop} (h : Wx E RX k G O R) (i : ∀ v G' O', Ex G G' → R v G' O' → R' v G' O') : Wx E RX k G O R' :=
  fun H m x Q q => h H m x Q fun v H' G' O' m' u r => q v H' G' O' m' u (i v G' O' u.g r)
theorem wx_bind {k : Hp → (α → Hp → Prop) → Prop} {f : α → Hp → (β → Hp → Prop) → Prop} {R : β → Hp → OL → Prop} (h : Wx E RX k G O fun x G1 O1 => Wx E RX (f x) G1 O1 R) : Wx E RX (fun H Q => k H fun x H1 => f x H1 Q) G O R :=
  fun H m x Q q => h H m x _ fun v H' G' O' m' u r => r H' m' (x.trans m' u) Q fun v2 H2 G2 O2 m2 u2 r2 => q v2 H2 G2 O2 m2 (u.trans m' u2) r2
theorem wx_ret {v : α} {R : α → Hp → OL → Prop} (h : R v G O) : Wx E RX (fun H Q => Q v H) G O R := wx_of (w_ret h)
theorem wx_nil {R : List V → Hp → OL → Prop} (r : R [] G O) : Wx E RX (tNil σ) G O R := wx_ret r
theorem wx_cons {R : List V → Hp → OL → Prop} (h : Wx E RX (ta σ) G O fun x G1 O1 => Wx E RX (t σ) G1 O1 fun xs G2 O2 => R (x :: xs) G2 O2) : Wx E RX (tCons ta t σ) G O R :=
  wx_bind (k := ta σ) (f := fun x H Q => t σ H fun xs H2 => Q (x :: xs) H2) (wx_imp h fun x _ _ _ z => wx_bind (k := t σ) (f := fun xs H Q => Q (x :: xs) H) (wx_imp z fun _ _ _ _ r => wx_ret r))
/-- a list display, known from then on -/
theorem wx_lstG {R : V → Hp → OL → Prop} (h : Wx E RX (t σ) G O fun xs G1 O1 => xs.length ≤ sizeLine ∧ ∀ p G2, Ex G1 G2 → G2 p = some (.lst xs) → R (.ref p) G2 O1) : Wx E RX (tLst t σ) G O R := fun H m x Q q =>
  h H m x _ fun xs H1 G1 O1 m1 u1 ⟨hl, r⟩ => ⟨hl, fun p hp => q _ _ _ _ (m1.newG hp) (u1.trans m1 (m1.upG hp)) (r p _ (m1.upG hp).g upd_same)⟩
theorem wx_call0 {S : Sg} {E0 : XK} {R : V → Hp → OL → Prop} (h : Wx E RX (t σ) G O fun vs G1 O1 => W (fun H Q => Fn S vs H Q E0) G1 O1 R) : Wx E RX (tCall (Fn S) [] E0 t σ) G O R := fun H m x Q q =>
  h H m x _ fun vs H1 G1 O1 m1 u1 r => by
    show Fn S (vs ++ []) H1 Q E0
    rw [List.append_nil]
    exact r H1 m1 Q fun v H' G' O' m' u z => q v H' G' O' m' (u1.trans m1 u) z
abbrev SgX := List V → Hp → OL → (V → Hp → OL → Prop) → RXt → Prop
/-- a call that may raise -/
theorem wx_callX {S : SgX} {EE : L2.St → XK} {R : V → Hp → OL → Prop} (he : EE σ = E) (h : Wx E RX (t σ) G O fun vs G1 O1 => ∃ R1 RX1, S vs G1 [] R1 RX1 ∧ (∀ v G2 A2, Ex G1 G2 → R1 v G2 A2 → R v G2 (A2 ++ O1)) ∧ (∀ c d G2 A2, Ex G1 G2 → RX1 c d G2 A2 → RX c d G2 (A2 ++ O1))) :
    Wx E RX (tCallS (FnX S) EE t σ) G O R := fun H m x Q q =>
  h H m x _ fun vs H1 G1 O1 m1 u1 ⟨R1, RX1, hS, hr, hx⟩ => by
    subst he
    have mp : Md H1 G1 ([] ++ O1) := m1
    exact ⟨G1, [], R1, RX1, mp.left, hS, fun v H' G' A' m' u r => let ⟨m2, u2⟩ := mp.frame m' u; q v H' G' (A' ++ O1) m2 (u1.trans m1 u2) (hr v G' A' u.g r),
      fun c d H' G' A' m' u r => let ⟨m2, u2⟩ := mp.frame m' u; x.x c d H' G' (A' ++ O1) m2 (u1.trans m1 u2) (hx c d G' A' u.g r)⟩
theorem wsx_seq (h : WSx E RX ts σ G O { D with nx := fun σ' G' O' => WSx E RX tu σ' G' O' D }) : WSx E RX (tSeq ts tu) σ G O D := fun H m x D0 l => by
  -- the way on knows the errors' law too
  refine h H m x { D0 with nx := tu D0 } ⟨fun σ' H' G' O' m' u r => r H' m' (x.trans m' u) D0 (l.trans m' u), l.rt, l.bk, l.ct⟩
theorem wsx_set {i : Nat} (h : Wx E RX (te σ) G O fun v G1 O1 => D.nx (σ.set i (some v)) G1 O1) : WSx E RX (tAsg te (gName i)) σ G O D := fun H m x D0 l =>
  h H m x _ fun v H1 G1 O1 m1 u1 r => l.nx _ H1 G1 O1 m1 u1 r
theorem wsx_ret (h : Wx E RX (te σ) G O D.rt) : WSx E RX (tRet te) σ G O D := fun H m x D0 l => h H m x _ fun v H1 G1 O1 m1 u1 r => l.rt v H1 G1 O1 m1 u1 r
theorem wsx_if (h : W (tt σ) G O fun b G1 O1 => (b = true → WSx E RX ts σ G1 O1 D) ∧ (b = false → WSx E RX tu σ G1 O1 D)) : WSx E RX (tIfS tt ts tu) σ G O D := fun H m x D0 l =>
  h H m _ fun b H1 G1 O1 m1 u1 ⟨h1, h2⟩ => by
    cases b with
    | true => exact iteT (h1 rfl H1 m1 (x.trans m1 u1) D0 (l.trans m1 u1))
    | false => exact iteF (h2 rfl H1 m1 (x.trans m1 u1) D0 (l.trans m1 u1))
theorem wsx_nx (h : D.nx σ G O) : WSx E RX tNext σ G O D := wsx_of (ws_nx h)
theorem wsx_drop (h : Wx E RX (te σ) G O fun _ G1 O1 => D.nx σ G1 O1) : WSx E RX (tDrop te) σ G O D := fun H m x D0 l => h H m x _ fun v H1 G1 O1 m1 u1 r => l.nx _ H1 G1 O1 m1 u1 r
theorem wsx_freeze (i : Nat) {l : Addr} {o : HO} (h : O[i]? = some (l, o)) (q : ∀ G', Ex G G' → G' l = some o → WSx E RX ts σ G' (O.eraseIdx i) D) : WSx E RX ts σ G O D := fun H m x D0 l0 =>
  q _ (m.upF h).g upd_same H (m.frz h) (x.trans (m.frz h) (m.upF h)) D0 (l0.trans (m.frz h) (m.upF h))
end
/-! ### errors that are being made -/
def SE (C : Addr) (rel : List V → List (Str × V) → Prop) : Sg := fun vs G O R => ∃ a ws fs, vs = .ref a :: ws ∧ O = [(a, exo a C none)] ∧ rel ws fs ∧ R = fun v _ O' => v = .non ∧ ∃ d, O' = [(a, exo a C (some d)), (d, exd d fs)]
def SN (C : Addr) : Sg := fun vs G O R => ∃ a, vs = [.ref a] ∧ O = [(a, exo a C none)] ∧ R = fun v _ O' => v = .non ∧ O' = [(a, exo a C none)]
/-- C(), its own __init__ keeping sp, no field set -/
def tMkN (C : Addr) (sp : Sp) : L2.St → Hp → XK → Prop := fun _ H1 Q => ∀ a, H1 a = none → sp [.ref a] (upd H1 a (exo a C none))
  (fun v H2 => v = .non ∧ H2 a = some (exo a C none) ∧ Q (.ref C) none (del H2 a)) (fun _ _ _ => False)
section
variable {E : XK} {RX : RXt} {G : Hp} {O : OL} {σ : L2.St} {D : En} {t : TA} {te to : TE} {K : PySem.W.Frag} {C : Addr}
theorem Md.gone {H : Hp} {a : Addr} {o : HO} {B : OL} (m : Md H G ((a, o) :: B)) : Md (del H a) G B := by
  have nd := m.nd
  rw [dom, List.map_cons, List.nodup_cons] at nd
  have ha := m.o (a, o) (List.mem_cons_self ..)
  refine ⟨fun b u e => ?_, fun p hp => ?_, nd.2⟩
  · rw [del_ne fun z => by rw [z, ha.2] at e; cases e]; exact m.g b u e
  · rw [del_ne fun z => nd.1 (List.mem_map.mpr ⟨p, hp, z⟩)]; exact m.o p (List.mem_cons_of_mem _ hp)
/-- raise C(args) -/
theorem wsx_raiseO {rel : List V → List (Str × V) → Prop} (h : W (t σ) G O fun vs G1 O1 => vs.length ≤ 1000 ∧ ∃ fs, rel vs fs ∧ ∀ d G2, Ex G1 G2 → G2 d = some (.xd fs) → RX (.ref C) (some d) G2 O1) :
    WSx E RX (fun _ σ H => tMkO C (Fn (SE C rel)) [] t σ H fun cls d H' => (fun c d (_ : L2.St) H => E c d H) cls d σ H') σ G O D := fun H m x D0 l =>
  h H m _ fun vs H1 G1 O1 m1 u1 ⟨hl, fs, hr, hq⟩ => ⟨hl, fun a ha => by
    have ma := m1.newO (o := exo a C none) ha
    have ua := m1.upO (o := exo a C none) ha
    have mp : Md (upd H1 a (exo a C none)) G1 ([(a, exo a C none)] ++ O1) :=
      ⟨ma.g, fun p hp => ma.o p (List.mem_append.mpr ((List.mem_append.mp hp).symm)), by
        have := ma.nd
        rw [dom, List.map_append] at this ⊢
        exact (List.perm_append_comm.nodup_iff).mp this⟩
    refine ⟨G1, _, _, mp.left, ⟨a, vs, fs, by rw [List.append_nil], rfl, hr, rfl⟩, fun v H2 G2 A2 m2 u2 ⟨hv, d, hA⟩ => ?_⟩
    subst hA
    obtain ⟨m3, u3⟩ := mp.frame m2 u2
    have hda : d ≠ a := by
      have nd := m3.nd
      rw [dom] at nd
      simp only [List.cons_append, List.nil_append, List.map_cons, List.nodup_cons, List.mem_cons] at nd
      exact fun z => nd.1 (.inl z.symm)
    have eda := m3.o (d, exd d fs) (by simp)
    have hd1 : H1 d = none := by
      cases e : H1 d with
      | none => rfl
      | some o =>
        rcases u3.nw d (.inr (by simp [dom])) with z | z | z
        · exact absurd eda.2 (Ex.ne u3.g z)
        · rw [dom, List.map_append] at z
          rcases List.mem_append.mp z with z | z
          · have : d = a := by simpa using z
            exact absurd this hda
          · obtain ⟨p, hp, rfl⟩ := List.mem_map.mp z
            have nd := m3.nd
            rw [dom] at nd
            simp only [List.cons_append, List.nil_append, List.map_cons, List.nodup_cons] at nd
            exact absurd (List.mem_map.mpr ⟨p, hp, rfl⟩) nd.2.1
        · rw [upd_ne hda, e] at z; cases z
    refine ⟨hv, d, fs, (m3.o (a, exo a C (some d)) (by simp)).1, eda.1, hd1, ?_⟩
    -- the state behind
    have mg : Md (del H2 a) G2 ((d, exd d fs) :: O1) := Md.gone m3
    have mw := mg.writeO (o' := .xd fs) (k := 0) (l := d) (o := exd d fs) rfl
    have mf := mw.frz (k := 0) (l := d) (o := .xd fs) rfl
    have hd2 : G2 d = none := eda.2
    have ue : Up H1 G1 O1 (upd (del H2 a) d (.xd fs)) (upd G2 d (.xd fs)) O1 := by
      refine ⟨fun b u hb e => ?_, fun b u e => ?_, fun b hb => ?_⟩
      · have hba : b ≠ a := fun z => by rw [z, ha] at e; cases e
        have hbd : b ≠ d := fun z => by rw [z, hd1] at e; cases e
        rw [upd_ne hbd, del_ne hba]
        refine u3.fr b u (fun z => ?_) (by rw [upd_ne hba]; exact e)
        rw [dom, List.map_append] at z
        rcases List.mem_append.mp z with z | z
        · have : b = a := by simpa using z
          exact hba this
        · exact hb z
      · have e2 := u3.g b u e
        rw [upd_ne fun z => by rw [z, hd2] at e2; cases e2]; exact e2
      · by_cases hbd : b = d
        · subst hbd; exact .inr (.inr hd1)
        · rw [upd_ne hbd] at hb
          rcases u3.nw b (hb.imp id fun z => by
            rw [dom, List.map_append]
            exact List.mem_append_right _ z) with z | z | z
          · exact .inl z
          · rw [dom, List.map_append] at z
            rcases List.mem_append.mp z with z | z
            · have : b = a := by simpa using z
              subst this; exact .inr (.inr ha)
            · exact .inr (.inl z)
          · by_cases hba : b = a
            · subst hba; exact .inr (.inr ha)
            · rw [upd_ne hba] at z; exact .inr (.inr z)
    exact x.x _ _ _ _ _ mf (u1.trans m1 ue) (hq d _ ue.g upd_same)⟩
/-- raise C() -/
theorem wsx_raiseN (h : RX (.ref C) none G O) : WSx E RX (fun _ σ H => tMkN C (Fn (SN C)) σ H fun cls d H' => (fun c d (_ : L2.St) H => E c d H) cls d σ H') σ G O D := fun H1 m1 x D0 l => by
  intro a ha
  have ma := m1.newO (o := exo a C none) ha
  have mp : Md (upd H1 a (exo a C none)) G ([(a, exo a C none)] ++ O) :=
    ⟨ma.g, fun p hp => ma.o p (List.mem_append.mpr ((List.mem_append.mp hp).symm)), by
      have := ma.nd
      rw [dom, List.map_append] at this ⊢
      exact (List.perm_append_comm.nodup_iff).mp this⟩
  refine ⟨G, _, _, mp.left, ⟨a, rfl, rfl, rfl⟩, fun v H2 G2 A2 m2 u2 ⟨hv, hA⟩ => ?_⟩
  subst hA
  obtain ⟨m3, u3⟩ := mp.frame m2 u2
  refine ⟨hv, (m3.o (a, exo a C none) (by simp)).1, ?_⟩
  have mg : Md (del H2 a) G2 O := Md.gone m3
  -- the knowledge that is told on is G: what came beside may be forgotten
  have mG : Md (del H2 a) G O := ⟨fun b u e => mg.g b u (u3.g b u e), fun p hp => ⟨(mg.o p hp).1, (m1.o p hp).2⟩, mg.nd⟩
  refine x.x _ _ _ _ _ mG ⟨fun b u hb e => ?_, Evl.Ex.refl G, fun b hb => hb.elim .inl fun z => .inr (.inl z)⟩ h
  have hba : b ≠ a := fun z => by rw [z, ha] at e; cases e
  rw [del_ne hba]
  refine u3.fr b u (fun z => ?_) (by rw [upd_ne hba]; exact e)
  rw [dom, List.map_append] at z
  rcases List.mem_append.mp z with z | z
  · have : b = a := by simpa using z
    exact hba this
  · exact hb z
/-! an error's own __init__ -/
theorem w_vei {R : V → Hp → OL → Prop} (h : W (t σ) G O fun vs G1 O1 => ∃ (a C : Addr) (ws : List V) (k : Nat), vs = .ref a :: ws ∧ ws.length ≤ 1000 ∧ OexC K C ∧ O1[k]? = some (a, exo a C none) ∧ R .non G1 O1) : W (tVeI K t σ) G O R := fun H m Q q =>
  h H m _ fun vs H1 G1 O1 m1 u1 ⟨a, C, ws, k, e, hl, hc, ho, r⟩ => ⟨a, C, ws, e, hl, hc, m1.getO ho, q _ _ _ _ m1 u1 r⟩
theorem ws_ost1 {f : Str} (k : Nat) (h : W (te σ) G O fun y G1 O1 => W (to σ) G1 O1 fun x G2 O2 => ∃ a C, x = .ref a ∧ OexC K C ∧ PySem.W.findIn K (.ref C) f = some none ∧ O2[k]? = some (a, exo a C none) ∧
    ∀ dx, G2 dx = none → dx ≠ a → D.nx σ G2 ((O2 ++ [(dx, exd dx [(f, y)])]).set k (a, exo a C (some dx)))) : WS (tOst K f to te) σ G O D := fun H m D0 l =>
  h H m _ fun y H1 G1 O1 m1 u1 r => r H1 m1 _ fun x H2 G2 O2 m2 u2 ⟨a, C, e, hc, hf, ho, q⟩ => ⟨a, C, e, hc, hf, .inl ⟨m2.getO ho, fun dx hdx hne => by
    have mn := m2.newO (o := exd dx [(f, y)]) hdx
    have un := m2.upO (o := exd dx [(f, y)]) hdx
    have hk : (O2 ++ [(dx, exd dx [(f, y)])])[k]? = some (a, exo a C none) := by
      rw [List.getElem?_append_left (List.getElem?_eq_some_iff.mp ho).1]; exact ho
    exact l.nx _ _ _ _ (mn.writeO hk) ((u1.trans m1 u2).trans m2 (un.trans mn (mn.upW hk))) (q dx (m2.gnone hdx) hne)⟩⟩
theorem ws_ost2 {f : Str} (k j : Nat) (h : W (te σ) G O fun y G1 O1 => W (to σ) G1 O1 fun x G2 O2 => ∃ a C dx fs, x = .ref a ∧ OexC K C ∧ PySem.W.findIn K (.ref C) f = some none ∧ O2[k]? = some (a, exo a C (some dx)) ∧ O2[j]? = some (dx, exd dx fs) ∧ fs.length ≤ 900 ∧
    D.nx σ G2 (O2.set j (dx, exd dx ((f, y) :: fs)))) : WS (tOst K f to te) σ G O D := fun H m D0 l =>
  h H m _ fun y H1 G1 O1 m1 u1 r => r H1 m1 _ fun x H2 G2 O2 m2 u2 ⟨a, C, dx, fs, e, hc, hf, ho, hj, hl, q⟩ => ⟨a, C, e, hc, hf, .inr ⟨dx, fs, m2.getO ho, m2.getO hj, hl,
    l.nx _ _ _ _ (m2.writeO hj) ((u1.trans m1 u2).trans m2 (m2.upW hj)) q⟩⟩
/-! ### an error that is caught -/
theorem ws_tryAs {tb : L2.WX → TS} {tsu : Addr → Value → Option Addr → TS} {c : Value} {i : Nat} {Wo : L2.WX}
    (hb : ∀ (Wq : L2.WX), WSx (fun cl d H => Wq cl d σ H) RX (tb Wq) σ G O D)
    (hc : ∀ cl d G' O', Ex G G' → RX cl d G' O' → PySem.W.exmOne K cl c = some true ∧ ∀ a, WS (tsu a cl d) (σ.set i (some (.ref a))) G' O' { nx := fun σ' G' O' => D.nx (σ'.set i none) G' O', rt := D.rt, bk := fun σ' G' O' => D.bk (σ'.set i none) G' O', ct := fun σ' G' O' => D.ct (σ'.set i none) G' O' }) :
    WS (fun D σ H => tb (wAs K c i tsu Wo D) D σ H) σ G O D := fun H m D0 l =>
  hb (wAs K c i tsu Wo D0) H m ⟨fun cl d H' G' O' m' u rx => ⟨true, (hc cl d G' O' u.g rx).1, fun _ a _ => (hc cl d G' O' u.g rx).2 a H' m' _
    ⟨fun σ' H2 G2 O2 m2 u2 r => l.nx _ H2 G2 O2 m2 (u.trans m' u2) r, fun v H2 G2 O2 m2 u2 r => l.rt v H2 G2 O2 m2 (u.trans m' u2) r, fun σ' H2 G2 O2 m2 u2 r => l.bk _ H2 G2 O2 m2 (u.trans m' u2) r, fun σ' H2 G2 O2 m2 u2 r => l.ct _ H2 G2 O2 m2 (u.trans m' u2) r⟩, fun z => by cases z⟩⟩ D0 l
theorem ws_tryOnly {tb : L2.WX → TS} {tsu : Addr → Value → Option Addr → TS} {c : Value} {Wo : L2.WX}
    (hb : ∀ (Wq : L2.WX), WSx (fun cl d H => Wq cl d σ H) RX (tb Wq) σ G O D)
    (hc : ∀ cl d G' O', Ex G G' → RX cl d G' O' → PySem.W.exmOne K cl c = some true ∧ ∀ a, WS (tsu a cl d) σ G' O' D) :
    WS (fun D σ H => tb (wOnly K c tsu Wo D) D σ H) σ G O D := fun H m D0 l =>
  hb (wOnly K c tsu Wo D0) H m ⟨fun cl d H' G' O' m' u rx => ⟨true, (hc cl d G' O' u.g rx).1, fun _ a _ => (hc cl d G' O' u.g rx).2 a H' m' D0 (l.trans m' u), fun z => by cases z⟩⟩ D0 l
theorem w_xf {a : Addr} {cl : Value} {d : Option Addr} {f : Str} {R : V → Hp → OL → Prop} (h : W (te σ) G O fun x G1 O1 => x = .ref a ∧ cl = .ref C ∧ ∃ dd fs v, d = some dd ∧ G1 dd = some (.xd fs) ∧ fs.lookup f = some v ∧ R v G1 O1) : W (tXf a cl d C f te σ) G O R := fun H m Q q =>
  h H m _ fun x H1 G1 O1 m1 u1 ⟨e, ec, dd, fs, v, ed, hd, hl, r⟩ => ⟨e, ec, dd, fs, v, ed, m1.g _ _ hd, hl, q _ _ _ _ m1 u1 r⟩
/-! ### f-strings -/
theorem w_fmtS {y : Str} {R : V → Hp → OL → Prop} (h : W (te σ) G O fun x G1 O1 => x = .str y ∧ y.length ≤ sizeLine ∧ R (.str y) G1 O1) : W (tFmt te σ) G O R := fun H m Q q =>
  h H m _ fun x H1 G1 O1 m1 u1 ⟨e, hl, r⟩ => .inl ⟨y, e, hl, q _ _ _ _ m1 u1 r⟩
theorem w_fmtI {i : Int} {R : V → Hp → OL → Prop} (h : W (te σ) G O fun x G1 O1 => x = .int i ∧ i.natAbs.log2 < 1920 ∧ R (.str (toString i)) G1 O1) : W (tFmt te σ) G O R := fun H m Q q =>
  h H m _ fun x H1 G1 O1 m1 u1 ⟨e, hl, r⟩ => .inr ⟨i, e, hl, q _ _ _ _ m1 u1 r⟩
theorem w_js {ts : List TE} {R : V → Hp → OL → Prop} (h : W (fun H Q => tJs ts Str.empty σ H Q) G O fun y G1 O1 => R (.str y) G1 O1) : W (fun H Q => tJs ts Str.empty σ H fun out H1 => Q (.str out) H1) G O R := fun H m Q q =>
  h H m _ fun y H1 G1 O1 m1 u1 r => q _ _ _ _ m1 u1 r
theorem w_jnil {acc : Str} {R : Str → Hp → OL → Prop} (h : R acc G O) : W (fun H Q => tJs [] acc σ H Q) G O R := fun H m Q q => q acc H G O m Up.refl h
theorem w_jcons {acc : Str} {ts : List TE} {R : Str → Hp → OL → Prop} (h : W (te σ) G O fun x G1 O1 => ∃ y : Str, x = .str y ∧ (acc ++ y).length ≤ sizeLine ∧ W (fun H Q => tJs ts (acc ++ y) σ H Q) G1 O1 R) : W (fun H Q => tJs (te :: ts) acc σ H Q) G O R := fun H m Q q =>
  h H m _ fun x H1 G1 O1 m1 u1 ⟨y, e, hl, r⟩ => ⟨y, e, hl, r H1 m1 Q fun v H2 G2 O2 m2 u2 z => q v H2 G2 O2 m2 (u1.trans m1 u2) z⟩
end
end K6
/-! text X2 -/
set_option Elab.async false
set_option linter.all false
set_option maxRecDepth 100000
set_option maxHeartbeats 4000000
/-! X2: rules for the program's own errors. -/
namespace K6
open PySem L2 K3 PySem.Spec PyProof.Rows
open Evl (Ex)
section
variable {X : Cx}
/-- S.__init__(self, ..), S a class of the text that inherits ValueError's -/
theorem pe_seinit {S : Addr} {x : Str} {e : Expr} {es : List Expr} {ta : TA} {p1 p2 pos : Pos} {pl : Sem Bool} (hg : Gl X x) (hm : X.mg x = some (.ref S)) (hrd : PySem.W.readsIn X.K S (.type "type") = true) (hga : PySem.W.specialIn X.K (.ref S) "__getattribute__" = some (some (.builtin "type.__getattribute__")))
    (hty : PySem.W.typeIn X.K (.ref S) = some (.type "type")) (vV : PySem.W.findCls X.K (.ref S) (.type "type") "__init__" = some (.val (.builtin "ValueError.__init__"))) (ha : PA X (e :: es) ta) (hdb : (x == ("__debug__" : Str)) = false := by decide)
    (hc : eval (.Call (.Attribute (.Name x p1) "__init__" p2) (e :: es) [] pos) X.env = (do
      let ov ← eval (.Name x p1) X.env
      standAt p2.atName
      let (f, first) ← holding [ov] (getMethod ov "__init__" pl)
      callWith pos f first (backTo pos (starEach (e :: es) X.env)) (backToKw pos (keywordEach [] X.env))) := by rfl)
    (he : starEach (e :: es) X.env = (false, eval e X.env) :: starEach es X.env := by rfl) (hpl : (backTo pos (starEach es X.env)).any (·.1) = false := by rfl) :
    PE X (.Call (.Attribute (.Name x p1) "__init__" p2) (e :: es) [] pos) (tVeI X.K ta) := by
  refine ⟨fun pins s σ H Q I h => ?_⟩
  refine PySem.W.methodCall_KW (ld_glob I hg hm ?_ hdb) hc
  obtain ⟨m, fr⟩ := I.fr
  refine PySem.W.method_of_cls fr I.ok.mod.kin hga (PySem.W.cls_val fr I.ok.mod.kin hty hrd vV (by decide +kernel) ?_)
  show wpAny _ _ (callWith pos (Value.builtin "ValueError.__init__") [] (backTo pos (starEach (e :: es) X.env)) []) _ _ _
  refine PyProof.Rows.callWith_method1 (thn (ha.run pos pins _ σ H _ (I.tok _) h) fun us s1 ⟨vs, H1, I1, r1, a, C, ws, ev, hl, T, ea, q⟩ => ?_) he hpl
  subst ev
  cases r1 with
  | @cons _ u0 _ ur ra rw' =>
    obtain rfl : u0 = Value.ref a := ra
    have hlen : ur.length ≤ sizeLine := by
      rw [← Paired.length rw', sizeLine_eq]
      omega
    exact oinit_ok T I1 ea hlen fun s' J => ⟨.non, H1, J, rfl, q⟩
/-! C(), no field set -/
theorem mk_endN0 {pins : List (Addr × Obj)} {σ : L2.St} {H1 H2 : Hp} {hp hp2 h2 : Heap} {g1 g2 : Array GenState} {d1 d2 : Drawn} {t1 t2 : Nat} {os1 os2 : OsState} {a C : Addr} (I1 : Inv X pins σ H1 ⟨hp, g1, d1, t1, os1⟩)
    (ha : hp.objs.size ≤ a) (k : ∀ b o, hp.get? b = some o → hp2.get? b = some o) (un : Un (frs X.stack) [] (upd H1 a (exo a C none)) H2 hp2 h2) (hok : HOk X.prog X.w H2 h2) (ho : os2 = os1) (hb : AllBare g2)
    (ea : H2 a = some (exo a C none)) :
    ∃ (t0 : Addr) (G : Heap), Inv X pins σ (del H2 a) ⟨G, g2, d2, t2, os2⟩ ∧ (∀ b o, G.get? b = some o → h2.get? b = some o) ∧ G.get? a = none ∧
      h2.get? a = some ({ cls := .ref C, dict := none, data := .fields #[.ref t0, .none, .none, .none, .bool false, .none] } : Obj) ∧ (del H2 a) a = none := by
  obtain ⟨t0, hoe⟩ := exo_at hok ea
  have hn : H1 a = none := I1.hok.fresh ha
  obtain ⟨G, g1', g2'⟩ := restrict h2 fun b => decide (b ≠ a)
  have gk : ∀ b, b ≠ a → G.get? b = h2.get? b := fun b hb => g1' b (decide_eq_true hb)
  have ge : G.get? a = none := g2' a (by simp)
  have nha : ∀ {b : Addr} {o : Obj}, hp.get? b = some o → b ≠ a := fun {b o} z => Nat.ne_of_lt (Nat.lt_of_lt_of_le (Heap.lt_size z) ha)
  have up : ∀ {b : Addr}, b ≠ a → H1 b = none → upd H1 a (exo a C none) b = none := fun {b} hb n => by rw [upd_ne hb]; exact n
  have U : Un (frs X.stack) [] H1 (del H2 a) hp G := {
    keep := fun b o z n hf hx => by
      rw [gk b (nha z)]
      exact un.keep b o (k b o z) (up (nha z) n) hf hx
    slot := fun b o z n hf hx => by
      rw [gk b (nha z)]
      exact un.slot b o (k b o z) (up (nha z) n) hf hx
    free := fun b o z n hx => by
      rw [del_ne (nha z)]
      exact un.free b o (k b o z) (up (nha z) n) hx
    there := fun b o z hx => by
      rw [gk b (nha z)]
      exact un.there b o (k b o z) hx
    tups := fun b xs z => by
      rw [del_ne (ne_of_none z hn)]
      exact un.tups b xs (by rw [upd_ne (ne_of_none z hn)]; exact z)
    frzs := fun b o v z => by
      rw [del_ne (ne_of_none z hn)]
      exact un.frzs b o v (by rw [upd_ne (ne_of_none z hn)]; exact z)
    tbls := fun b ps z => by
      rw [del_ne (ne_of_none z hn)]
      exact un.tbls b ps (by rw [upd_ne (ne_of_none z hn)]; exact z) }
  have hok3 : HOk X.prog X.w (del H2 a) G := fun b o z => by
    have hba : b ≠ a := fun e => by
      rw [e, del_same] at z
      cases z
    rw [del_ne hba] at z
    have noa : ∀ {c : Addr}, H2 c = some (.own b) → c ≠ a := fun {c} hc => L2.at_ne ea hc exo_own
    exact (hok b o z).stay (fun c v hc y => by
        have hca : c ≠ a := by
          rcases hc with hc | hc
          · rw [hc]
            exact hba
          · exact noa hc
        rw [gk c hca]
        exact y)
      (fun c hc => by rw [del_ne (noa hc)]; exact hc) (fun c xs hc => by rw [del_ne (L2.at_ne ea hc exo_tup)]; exact hc)
  have J : Inv X pins σ (del H2 a) ⟨G, g2, d2, t2, os2⟩ := I1.call' (ch := []) ho U hok3 hb (fun b z => absurd z (by simp))
  refine ⟨t0, G, J, fun b o z => ?_, ge, hoe, del_same⟩
  by_cases hba : b = a
  · rw [hba, ge] at z
    cases z
  · exact (gk b hba).symm.trans z
theorem pmk_oexN {CX : CXT} {x : Str} {C fI : Addr} {k : Nat} {fd : FuncData} {ps : List Str} {sp : Sp} {p pos : Pos} (T : OexC X.K C) (iC : PySem.W.findIn X.K (.ref C) "__init__" = some (some (.ref fI))) (tI : PySem.W.typeIn X.K (.ref fI) = some (.type "function"))
    (F1 : FnOk X.prog X.w X.K X.mg X.base CX k fI fd ps sp) (hr : Room (k + 1) X.A) (hb : Binds X.K fd ps []) (hx : Passes CX X (fun _ _ _ => False)) (hg : Gl X x) (hm : X.mg x = some (.ref C))
    (hdb : (x == ("__debug__" : Str)) = false := by decide) :
    PMk X (.Call (.Name x p) [] [] pos) (tMkN C sp) := by
  intro pins s σ H Q I h
  obtain ⟨nm, q, N, bs, bm, sn, sub, ab, col, dd, k0, k1, k2, k3, k5, hC, hbm⟩ := T.cls
  refine wpAny_Call_Name_kw (ld_glob I hg hm ?_ hdb)
  refine PySem.W.callWith_K0 I.kIn T.kC ?_
  show wpAny _ _ (call (.ref C) []) _ _ _
  obtain ⟨hp, g, dr, tk, os⟩ := s
  have hsz : hp.objs.size ≤ hp.objs.size + 1 := Nat.le_succ _
  have hn : H (hp.objs.size + 1) = none := I.hok.fresh hsz
  have hq := h (hp.objs.size + 1) hn
  have kk : ∀ b o, hp.get? b = some o → ((hp.push (PySem.W.kdv_tup [])).push (PySem.HandSPX.excO C hp.objs.size)).get? b = some o := fun b o e => Heap.get?_push_of_some _ (Heap.get?_push_of_some _ e)
  have hget : ((hp.push (PySem.W.kdv_tup [])).push (PySem.HandSPX.excO C hp.objs.size)).get? (hp.objs.size + 1) = some (PySem.HandSPX.excO C hp.objs.size) := by heap_get
  have I2 : Inv X pins σ (upd H (hp.objs.size + 1) (exo (hp.objs.size + 1) C none)) ⟨(hp.push (PySem.W.kdv_tup [])).push (PySem.HandSPX.excO C hp.objs.size), g, dr, tk, os⟩ :=
    I.laid (t' := tk) (a := hp.objs.size + 1) (o := exo (hp.objs.size + 1) C none) (h' := (hp.push (PySem.W.kdv_tup [])).push (PySem.HandSPX.excO C hp.objs.size)) kk hsz (exo_ok hget)
  have r2 : Vals [V.ref (hp.objs.size + 1)] ([Value.ref (hp.objs.size + 1)] ++ []) := .cons rfl .nil
  have hl : ([Value.ref (hp.objs.size + 1)] ++ []).length = ps.length := by
    have e := r2.length
    rw [F1.len _ _ _ _ hq] at e
    exact e.symm
  refine wpAny_call (PySem.HandSPX.call_own F.excBase_ValueError (fun Y => PySem.HandSPX.refsVE_contains Y bm hbm) (I.kIn _ _ hC) (PySem.W.looks_findIn I.kIn iC) (fun self => PySem.W.bind_fn I.kIn self tI) (Nat.zero_le _)
    (codeAny_mono (F1.run _ X.stack _ _ ⟨[Value.ref (hp.objs.size + 1)], []⟩ ([Value.ref (hp.objs.size + 1)] ++ []) _ _ (fun _ _ _ => False) (hr.make C [] []) (I2.env0.make C [] []) (hb _ [Value.ref (hp.objs.size + 1)] I2.kIn hl) r2 hq) fun r s' hq' => ?_))
  cases r with
  | error er => exact hx pins σ _ _ er s' I2 hq'
  | ok fl =>
    cases fl with
    | ret u =>
      obtain ⟨v, H2, os2, bare2, un2, hok2, rv, ev, ea, q2⟩ := hq'
      subst ev
      obtain ⟨h2, g2, d2, t2, os'⟩ := s'
      obtain ⟨t0, G, J, kG, ge, hoe, na⟩ := mk_endN0 (d2 := d2) (t2 := t2) I hsz kk un2 hok2 os2 bare2 ea
      exact ⟨rv, hp.objs.size + 1, _, _, ⟨G, g2, d2, t2, os'⟩, _, .ref C, none, rfl, J, kG, ge, hoe, ⟨rfl, rfl⟩, rfl, rfl, na, rfl, bare2, raises_own T.exC T.tyC, q2⟩
    | next => exact False.elim hq'
    | brk => exact False.elim hq'
    | cont => exact False.elim hq'
end
/-! ### defs that may raise -/
structure CalX (P : Program) (w : World) (K : PySem.W.Frag) (mg : Str → Option Value) (base : Heap) (k : Nat) (x : Str) (sp : Sp) : Prop where
  ex : ∃ (f : Addr) (fd : FuncData) (ps : List Str), FnOk P w K mg base (L2.CX P w) k f fd ps sp ∧ mg x = some (.ref f) ∧ PySem.W.keepIn K (.ref f) = true ∧ Binds K fd ps []
structure MetX (P : Program) (w : World) (K : PySem.W.Frag) (mg : Str → Option Value) (base : Heap) (k : Nat) (C : Addr) (m : Str) (sp : Sp) : Prop where
  ex : ∃ (f : Addr) (fd : FuncData) (ps : List Str), Cls K C ∧ Meth K C m f ∧ FnOk P w K mg base (L2.CX P w) k f fd ps sp ∧ Binds K fd ps []
section
variable {P : Program} {w : World} {K : PySem.W.Frag} {mg : Str → Option Value} {base : Heap}
theorem fnX_by {x qual : Str} {st : Stmt} {f : Addr} {fd : FuncData} {N ps : List Str} {k : Nat} {S : SgX} (F : L2.Fun K x qual st f fd) (sc : FnScope N ps (defScope st)) (len : ∀ vs G O R RX, S vs G O R RX → vs.length = ps.length)
    (hbody : ∀ (cdv : Value) (A : Around) (outer : List Env) (s : Shared) (H : Hp) (vs : List V) (G : Hp) (O : OL) (R : V → Hp → OL → Prop) (RX : RXt) (E : XK), Room k (A.deeper (envOfC qual (defScope st) s.heap.objs.size f cdv)) → S vs G O R RX →
      ∃ t, PSs (cxOf (L2.CX P w) P w K mg base N qual (defScope st) f cdv A outer s H E) (defBody st) t ∧ WSx E RX t (start N vs) G O { nx := fun _ G' O' => R .non G' O', rt := R }) : FnOk P w K mg base (L2.CX P w) (k + 1) f fd ps (FnX S) := by
  refine F.okX sc (fun vs H Q E h => ?_) (fun cdv A outer s H vs Q E hr h => ?_)
  · obtain ⟨G, O, R, RX, m, hS, _⟩ := h
    exact len vs G O R RX hS
  · obtain ⟨G, O, R, RX, m, hS, q, qx⟩ := h
    obtain ⟨t, ht, hw⟩ := hbody cdv A outer s H vs G O R RX E hr hS
    exact ⟨t, ht, hw H m ⟨qx⟩ _ ⟨fun _ H' G' O' m' u r => q .non H' G' O' m' u r, q, fun _ _ _ _ _ _ z => z, fun _ _ _ _ _ _ z => z⟩⟩
theorem calX_by {x : Str} {st : Stmt} {N ps : List Str} {k : Nat} {S : SgX} (D : DefAt K mg x st ps) (sc : FnScope N ps (defScope st)) (len : ∀ vs G O R RX, S vs G O R RX → vs.length = ps.length)
    (hbody : ∀ (f : Addr) (cdv : Value) (A : Around) (outer : List Env) (s : Shared) (H : Hp) (vs : List V) (G : Hp) (O : OL) (R : V → Hp → OL → Prop) (RX : RXt) (E : XK), Room k (A.deeper (envOfC x (defScope st) s.heap.objs.size f cdv)) → S vs G O R RX →
      ∃ t, PSs (cxOf (L2.CX P w) P w K mg base N x (defScope st) f cdv A outer s H E) (defBody st) t ∧ WSx E RX t (start N vs) G O { nx := fun _ G' O' => R .non G' O', rt := R }) : CalX P w K mg base (k + 1) x (FnX S) := by
  obtain ⟨f, fd, F, hm, hk, hb⟩ := D.ex
  exact ⟨f, fd, ps, fnX_by F sc len fun cdv A outer s H vs G O R RX E hr hS => hbody f cdv A outer s H vs G O R RX E hr hS, hm, hk, hb⟩
theorem metX_by {m qual : Str} {C f : Addr} {st : Stmt} {N ps : List Str} {k : Nat} {S : SgX} (c : Cls K C) (me : Meth K C m f) (Fe : ∃ fd, L2.Fun K m qual st f fd ∧ Binds K fd ps []) (sc : FnScope N ps (defScope st)) (len : ∀ vs G O R RX, S vs G O R RX → vs.length = ps.length)
    (hbody : ∀ (cdv : Value) (A : Around) (outer : List Env) (s : Shared) (H : Hp) (vs : List V) (G : Hp) (O : OL) (R : V → Hp → OL → Prop) (RX : RXt) (E : XK), Room k (A.deeper (envOfC qual (defScope st) s.heap.objs.size f cdv)) → S vs G O R RX →
      ∃ t, PSs (cxOf (L2.CX P w) P w K mg base N qual (defScope st) f cdv A outer s H E) (defBody st) t ∧ WSx E RX t (start N vs) G O { nx := fun _ G' O' => R .non G' O', rt := R }) : MetX P w K mg base (k + 1) C m (FnX S) := by
  obtain ⟨fd, F, b⟩ := Fe
  exact ⟨f, fd, ps, c, me, fnX_by F sc len hbody, b⟩
end
section
variable {X : Cx} {x m : Str} {k j : Nat} {sp : Sp} {Wq : L2.WX} {e o : Expr} {es : List Expr} {t : TA} {ta : TE} {p pos apos : Pos} {C : Addr}
theorem pe_cX (c : CalX X.prog X.w X.K X.mg X.base k x sp) (hr : Room j X.A) (hk : k ≤ j) (hg : Gl X x) (tk : Takes X Wq) (ha : PA X (e :: es) t) (hdb : (x == ("__debug__" : Str)) = false := by decide)
    (he : starEach (e :: es) X.env = (false, eval e X.env) :: starEach es X.env := by rfl) (hpl : (backTo pos (starEach es X.env)).any (·.1) = false := by rfl) : PE X (.Call (.Name x p) (e :: es) [] pos) (tCallS sp (WE Wq) t) := by
  obtain ⟨f, fd, ps, F, hm, kp, b⟩ := c.ex
  exact pe_callS F (hr.mono hk) hg hm kp b (fun σ => passAt tk σ) ha hdb he hpl
/-- o.m(e, ..) that may raise; E told -/
theorem pe_mX {pl : Sem Bool} {E : XK} (c : MetX X.prog X.w X.K X.mg X.base k C m sp) (hr : Room j X.A) (hk : k ≤ j) (hx : Passes (L2.CX X.prog X.w) X E) (he : PE X o ta) (ha : PA X (e :: es) t)
    (hst : starEach (e :: es) X.env = (false, eval e X.env) :: starEach es X.env := by rfl) (hpl : (backTo pos (starEach es X.env)).any (·.1) = false := by rfl)
    (ht : eval (.Call (.Attribute o m apos) (e :: es) [] pos) X.env = (do
      let ov ← eval o X.env
      standAt apos.atName
      let (f, first) ← holding [ov] (getMethod ov m pl)
      callWith pos f first (backTo pos (starEach (e :: es) X.env)) (backToKw pos (keywordEach [] X.env))) := by rfl) :
    PE X (.Call (.Attribute o m apos) (e :: es) [] pos) (tMeth C m sp [] E ta t) := by
  obtain ⟨f, fd, ps, hc, hm, F, b⟩ := c.ex
  exact pe_meth (pl := pl) he hc hm F (hr.mono hk) b .nil hx ha hst hpl ht
end
end K6
/-! text X3 -/
set_option Elab.async false
set_option linter.all false
set_option maxRecDepth 100000
set_option maxHeartbeats 4000000
namespace K6
open PySem L2 K3 PySem.Spec PyProof.Rows Gp
open Evl (Ex)
local macro_rules | `(tactic| walk_at "lift") => `(tactic| first | assumption | (refine mlift (by assumption) ?_; walk_at "lift"))
local macro_rules | `(tactic| walk_at "side") => `(tactic| first | exact mulZ_r ⟨by omega, by omega⟩ | exact mulZ_l ⟨by omega, by omega⟩ | exact divZ_small (by omega) (by omega) | (show (0 : Int) < _; omega) | (exact ⟨by decide, by decide, by decide⟩))
local macro_rules | `(tactic| walk_at "step") => `(tactic| (dsimp only [List.set]))
local macro_rules | `(tactic| walk_at "step") => `(tactic| (with_reducible refine ex_int1 ?_))
local macro_rules | `(tactic| walk_at "step") => `(tactic| (with_reducible refine ex_int ?_))
local macro_rules | `(tactic| walk_at "step") => `(tactic| (with_reducible refine ex_bl ?_))
local macro_rules | `(tactic| walk_at "step") => `(tactic| (refine ⟨_, _, _, _, rfl, rfl, rfl, rfl, ?_⟩))
local macro_rules | `(tactic| walk_at "step") => `(tactic| (with_reducible refine g_sub 0 ?_))
local macro_rules | `(tactic| walk_at "step") => `(tactic| (with_reducible refine cj_nt ?_))
local macro_rules | `(tactic| walk_at "step") => `(tactic| (with_reducible refine cj_nf ?_))
local macro_rules | `(tactic| walk_at "step") => `(tactic| (with_reducible refine cj_t ?_))
local macro_rules | `(tactic| walk_at "step") => `(tactic| (with_reducible refine cj_f ?_))
local macro_rules | `(tactic| walk_at "step") => `(tactic| ((with_reducible refine r_isiTy (n := ?n) (b := false) ?ty ?e ?r); (case ty => walk_at "ty"); (case e => exact rfl)))
local macro_rules | `(tactic| walk_at "step") => `(tactic| ((with_reducible refine r_isiTy (n := ?n) (b := true) ?ty ?e ?r); (case ty => walk_at "ty"); (case e => exact rfl)))
local macro_rules | `(tactic| walk_at "step") => `(tactic| ((with_reducible refine r_ne ?h ?r); (case h => exact rfl)))
local macro_rules | `(tactic| walk_at "step") => `(tactic| ((with_reducible refine r_eq ?h ?r); (case h => exact rfl)))
local macro_rules | `(tactic| walk_at "step") => `(tactic| (with_reducible refine g_name ?_))
local macro_rules | `(tactic| walk_at "step") => `(tactic| (with_reducible refine w_noPart ?_))
local macro_rules | `(tactic| walk_at "step") => `(tactic| (with_reducible refine w_slc ?_))
local macro_rules | `(tactic| walk_at "step") => `(tactic| (with_reducible refine w_call ?_))
local macro_rules | `(tactic| walk_at "step") => `(tactic| (with_reducible refine w_call0 ?_))
local macro_rules | `(tactic| walk_at "step") => `(tactic| (with_reducible refine w_chain ?_))
local macro_rules | `(tactic| walk_at "step") => `(tactic| (with_reducible refine w_ifE ?_))
local macro_rules | `(tactic| walk_at "step") => `(tactic| (with_reducible refine w_notV ?_))
local macro_rules | `(tactic| walk_at "step") => `(tactic| (with_reducible refine w_orV ?_))
local macro_rules | `(tactic| walk_at "step") => `(tactic| (with_reducible refine w_andV ?_))
local macro_rules | `(tactic| walk_at "step") => `(tactic| (with_reducible refine t_not ?_))
local macro_rules | `(tactic| walk_at "step") => `(tactic| (with_reducible refine t_or ?_))
local macro_rules | `(tactic| walk_at "step") => `(tactic| (with_reducible refine t_and ?_))
local macro_rules | `(tactic| walk_at "step") => `(tactic| (with_reducible refine t_B ?_))
local macro_rules | `(tactic| walk_at "step") => `(tactic| (with_reducible refine t_test ?_))
local macro_rules | `(tactic| walk_at "step") => `(tactic| (with_reducible refine r_notNone ?_))
local macro_rules | `(tactic| walk_at "step") => `(tactic| (with_reducible refine r_isNone ?_))
local macro_rules | `(tactic| walk_at "step") => `(tactic| (with_reducible refine r_intb ?_))
local macro_rules | `(tactic| walk_at "step") => `(tactic| (with_reducible refine r_int ?_))
local macro_rules | `(tactic| walk_at "step") => `(tactic| (with_reducible refine r_min2 ?_))
local macro_rules | `(tactic| walk_at "step") => `(tactic| (with_reducible refine r_abs ?_))
local macro_rules | `(tactic| walk_at "step") => `(tactic| (with_reducible refine w_cb ?_))
local macro_rules | `(tactic| walk_at "step") => `(tactic| (with_reducible refine w_nil ?_))
local macro_rules | `(tactic| walk_at "step") => `(tactic| (with_reducible refine w_tupD ?_))
local macro_rules | `(tactic| walk_at "step") => `(tactic| (with_reducible refine w_tyLT ?_))
local macro_rules | `(tactic| walk_at "step") => `(tactic| (with_reducible refine w_cons ?_))
local macro_rules | `(tactic| walk_at "step") => `(tactic| ((with_reducible refine r_own (v := ?v) (xs := ?xs) 0 ?h ?ha ?r); (case h => exact rfl); (case ha => exact rfl)))
local macro_rules | `(tactic| walk_at "step") => `(tactic| ((with_reducible refine r_ixO (v := ?v) (xs := ?xs) 0 ?h ?ha ?r); (case h => exact rfl); (case ha => exact rfl)))
local macro_rules | `(tactic| walk_at "step") => `(tactic| (with_reducible refine r_U ?_))
local macro_rules | `(tactic| walk_at "step") => `(tactic| ((with_reducible refine r_I ?hc ?r); (case hc => walk_at "side")))
local macro_rules | `(tactic| walk_at "step") => `(tactic| (with_reducible refine r_I0 ?_))
local macro_rules | `(tactic| walk_at "step") => `(tactic| (with_reducible refine w_un ?_))
local macro_rules | `(tactic| walk_at "step") => `(tactic| (with_reducible refine w_op ?_))
local macro_rules | `(tactic| walk_at "step") => `(tactic| (with_reducible refine w_c ?_))
local macro_rules | `(tactic| walk_at "step") => `(tactic| ((with_reducible refine w_var (v := ?v) ?h ?r); (case h => exact rfl)))
local macro_rules | `(tactic| walk_at "step") => `(tactic| (with_reducible refine ws_asg ?_))
local macro_rules | `(tactic| walk_at "step") => `(tactic| (with_reducible refine ws_par ?_))
local macro_rules | `(tactic| walk_at "step") => `(tactic| (with_reducible refine ws_drop ?_))
local macro_rules | `(tactic| walk_at "step") => `(tactic| (with_reducible refine ws_ct ?_))
local macro_rules | `(tactic| walk_at "step") => `(tactic| (with_reducible refine ws_bk ?_))
local macro_rules | `(tactic| walk_at "step") => `(tactic| (with_reducible refine ws_nx ?_))
local macro_rules | `(tactic| walk_at "step") => `(tactic| (with_reducible refine ws_if ?_))
local macro_rules | `(tactic| walk_at "step") => `(tactic| (with_reducible refine ws_ret ?_))
local macro_rules | `(tactic| walk_at "step") => `(tactic| (with_reducible refine ws_set ?_))
local macro_rules | `(tactic| walk_at "step") => `(tactic| (with_reducible refine ws_seq ?_))
local macro_rules | `(tactic| walk_at "go") => `(tactic| repeat walk_at "step")

local macro_rules | `(tactic| walk_at "if") => `(tactic| first
  | refine cj_i ?_ ?_ | refine cj_ni ?_ ?_
  | refine cj_nd ?_ ?_ | refine cj_d ?_ ?_
  | refine cj_nb ?_ ?_ | refine cj_b ?_ ?_)
local macro_rules | `(tactic| walk_at "ty") => `(tactic| first | exact TyK.int _ | exact TyK.bl _ | exact TyK.non | exact TyK.str _ | exact TyK.tup (by assumption) | exact TyK.lst (.inl (by assumption)))
section
variable {E : XK} {RX : RXt} {G : Hp} {O : OL} {σ : L2.St} {D : En} {ta te : TE} {t : TA} {ts : TS} {K : PySem.W.Frag} {C : Addr}
/-- the state is not asked -/
theorem ws_tryOnlyA {tb : L2.WX → TS} {tsu : Addr → Value → Option Addr → TS} {c : Value} {Wo : L2.WX}
    (hb : ∀ (Wq : L2.WX), WSx (fun cl d H => ∀ σ', Wq cl d σ' H) RX (tb Wq) σ G O D)
    (hc : ∀ cl d G' O', Ex G G' → RX cl d G' O' → PySem.W.exmOne K cl c = some true ∧ ∀ a σ', WS (tsu a cl d) σ' G' O' D) :
    WS (fun D σ H => tb (wOnly K c tsu Wo D) D σ H) σ G O D := fun H m D0 l =>
  hb (wOnly K c tsu Wo D0) H m ⟨fun cl d H' G' O' m' u rx => fun σ' => ⟨true, (hc cl d G' O' u.g rx).1, fun _ a _ => (hc cl d G' O' u.g rx).2 a σ' H' m' D0 (l.trans m' u), fun z => by cases z⟩⟩ D0 l
theorem wx_methX {S : SgX} {m : Str} {EE : XK} {R : V → Hp → OL → Prop} (he : EE = E) (h : W (ta σ) G O fun x G1 O1 => ∃ a dx fs, x = .ref a ∧ G1 a = some (.ins C dx fs) ∧ fs.lookup m = none ∧ W (t σ) G1 O1 fun vs G2 O2 =>
      ∃ R1 RX1, S (x :: vs) G2 [] R1 RX1 ∧ (∀ v G3 A3, Ex G2 G3 → R1 v G3 A3 → R v G3 (A3 ++ O2)) ∧ (∀ c d G3 A3, Ex G2 G3 → RX1 c d G3 A3 → RX c d G3 (A3 ++ O2))) :
    Wx E RX (tMeth C m (FnX S) [] EE ta t σ) G O R := fun H mm x Q q =>
  h H mm _ fun v1 H1 G1 O1 m1 u1 ⟨a, dx, fs, e, ha, hl, z⟩ => ⟨a, dx, fs, e, m1.g _ _ ha, hl, z H1 m1 _ fun vs H2 G2 O2 m2 u2 ⟨R1, RX1, hS, hr, hx⟩ => by
    subst he
    rw [List.append_nil]
    have u12 := u1.trans m1 u2
    have mp : Md H2 G2 ([] ++ O2) := m2
    exact ⟨G2, [], R1, RX1, mp.left, hS, fun v H' G' A' m' u r => let ⟨m3, u3⟩ := mp.frame m' u; q v H' G' (A' ++ O2) m3 (u12.trans m2 u3) (hr v G' A' u.g r),
      fun c d H' G' A' m' u r => let ⟨m3, u3⟩ := mp.frame m' u; x.x c d H' G' (A' ++ O2) m3 (u12.trans m2 u3) (hx c d G' A' u.g r)⟩⟩
end
section
variable {P : Program} {w : World} {K : PySem.W.Frag} {mg : Str → Option Value} {base : Heap}
/-- small indexes -/
def smallIx (i : Int) : Prop := -1 ≤ i ∧ i ≤ 25
theorem ix_text {i : Int} (h : smallIx i) : i.natAbs.log2 < 1920 ∧ ((toString i : String) : Str).length ≤ 10 := by
  have key : ∀ n : Nat, n < 27 → (((n : Int) - 1).natAbs.log2 < 1920 ∧ ((toString ((n : Int) - 1) : String) : Str).length ≤ 10) := by decide +kernel
  have := key (i + 1).toNat (by have := h.1; have := h.2; omega)
  rwa [show (((i + 1).toNat : Nat) : Int) - 1 = i by have := h.1; omega] at this
theorem sc_BadNumber_init : FnScope ["self"] ["self"] (defScope s_BadNumber_init) := ⟨rfl, rfl, rfl, by decide +kernel, rfl, by decide +kernel, by decide +kernel⟩
theorem fn_BadNumber (T : Txt K mg) {fd : FuncData} (F : L2.Fun K "__init__" "BadNumber.__init__" s_BadNumber_init (ma K "BadNumber" "__init__") fd) : FnOk P w K mg base CX0 1 (ma K "BadNumber" "__init__") fd ["self"] (Fn (SN (ga K "BadNumber"))) := by
  refine fn_by F sc_BadNumber_init (fun vs G O R h => ?_) (fun cdv A outer s H vs G O R E hr h => ?_)
  · obtain ⟨a, rfl, _⟩ := h; rfl
  · obtain ⟨a, rfl, rfl, rfl⟩ := h
    refine ⟨_, (pss_one (ps_expr (pe_seinit rfl T.g_SheetError T.rd_SheetError T.sg_SheetError T.ty_SheetError T.vi_SheetError (pa_cons (pv 0) (pa_cons pe_str pa_nil))))), ?_⟩
    show WS _ [some (.ref a)] _ _ _
    refine ws_drop (w_vei ?_)
    walk_at "go"
    exact ⟨a, _, _, 0, rfl, by simp, T.ox_BadNumber, rfl, rfl, rfl⟩
def rel_BadTable : List V → List (Str × V) → Prop := fun ws fs => ∃ i, ws = [.int i] ∧ smallIx i ∧ fs = ([("index", .int i)] : List (Str × V))
theorem sc_BadTable_init : FnScope ["self", "index"] ["self", "index"] (defScope s_BadTable_init) := ⟨rfl, rfl, rfl, by decide +kernel, rfl, by decide +kernel, by decide +kernel⟩
theorem fn_BadTable (T : Txt K mg) {fd : FuncData} (F : L2.Fun K "__init__" "BadTable.__init__" s_BadTable_init (ma K "BadTable" "__init__") fd) : FnOk P w K mg base CX0 1 (ma K "BadTable" "__init__") fd ["self", "index"] (Fn (SE (ga K "BadTable") rel_BadTable)) := by
  refine fn_by F sc_BadTable_init (fun vs G O R h => ?_) (fun cdv A outer s H vs G O R E hr h => ?_)
  · obtain ⟨a, ws, fs, rfl, rfl, ⟨i, rfl, _⟩, _⟩ := h; rfl
  · obtain ⟨a, ws, fs, rfl, rfl, ⟨i, rfl, hi, rfl⟩, rfl⟩ := h
    refine ⟨_, (pss_cons (ps_expr (pe_seinit rfl T.g_SheetError T.rd_SheetError T.sg_SheetError T.ty_SheetError T.vi_SheetError (pa_cons (pv 0) (pa_cons (pe_joined (PJ.cons pe_str (PJ.cons (pe_fmt (pv 1)) PJ.nil))) pa_nil))))
    (pss_one (ps_ost (pv 0) (pv 1)))), ?_⟩
    show WS _ [some (.ref a), some (.int i)] _ _ _
    obtain ⟨h1, h2⟩ := ix_text hi
    refine ws_seq (ws_drop (w_vei (w_cons (w_var rfl (w_cons (w_js (w_jcons (w_c ⟨_, rfl, (by show _ ≤ sizeLine; decide +kernel), w_jcons (w_fmtI (w_var rfl ⟨rfl, h1, _, rfl, ?_, w_jnil ?_⟩))⟩)))))))) 
    · rw [PySem.Str.length_append]
      have : (Str.empty ++ (Str.ofString "invalid table at ") : Str).length = 17 := by decide +kernel
      have h3 := sizeLine_eq
      exact Nat.le_trans (Nat.add_le_add (Nat.le_of_eq this) h2) (by omega)
    · walk_at "go"
      refine ⟨a, _, _, 0, rfl, by simp, T.ox_BadTable, rfl, ?_⟩
      refine ws_ost1 0 ?_
      walk_at "go"
      refine ⟨a, _, rfl, T.ox_BadTable, T.na_BadTable_index, rfl, fun dx hdx hne => ⟨rfl, dx, rfl⟩⟩
def rel_BadFactors : List V → List (Str × V) → Prop := fun ws fs => ∃ (wh : Str) (i : Int), ws = [.str wh, .int i] ∧ wh.length ≤ 100 ∧ smallIx i ∧ fs = ([("index", .int i), ("what", .str wh)] : List (Str × V))
theorem sc_BadFactors_init : FnScope ["self", "what", "index"] ["self", "what", "index"] (defScope s_BadFactors_init) := ⟨rfl, rfl, rfl, by decide +kernel, rfl, by decide +kernel, by decide +kernel⟩
theorem fn_BadFactors (T : Txt K mg) {fd : FuncData} (F : L2.Fun K "__init__" "BadFactors.__init__" s_BadFactors_init (ma K "BadFactors" "__init__") fd) : FnOk P w K mg base CX0 1 (ma K "BadFactors" "__init__") fd ["self", "what", "index"] (Fn (SE (ga K "BadFactors") rel_BadFactors)) := by
  refine fn_by F sc_BadFactors_init (fun vs G O R h => ?_) (fun cdv A outer s H vs G O R E hr h => ?_)
  · obtain ⟨a, ws, fs, rfl, rfl, ⟨wh, i, rfl, _⟩, _⟩ := h; rfl
  · obtain ⟨a, ws, fs, rfl, rfl, ⟨wh, i, rfl, hw, hi, rfl⟩, rfl⟩ := h
    refine ⟨_, (pss_cons (ps_expr (pe_seinit rfl T.g_SheetError T.rd_SheetError T.sg_SheetError T.ty_SheetError T.vi_SheetError (pa_cons (pv 0) (pa_cons (pe_joined (PJ.cons pe_str (PJ.cons (pe_fmt (pv 1)) (PJ.cons pe_str (PJ.cons (pe_fmt (pv 2)) PJ.nil))))) pa_nil))))
    (pss_cons (ps_ost (pv 0) (pv 1))
    (pss_one (ps_ost (pv 0) (pv 2))))), ?_⟩
    show WS _ [some (.ref a), some (.str wh), some (.int i)] _ _ _
    obtain ⟨h1, h2⟩ := ix_text hi
    have h3 := sizeLine_eq
    have e1 : (Str.empty ++ (Str.ofString "invalid factors of ") : Str).length = 19 := by decide +kernel
    have e2 : (Str.ofString " at ").length = 4 := by decide +kernel
    refine ws_seq (ws_drop (w_vei (w_cons (w_var rfl (w_cons (w_js (w_jcons (w_c ⟨_, rfl, ?_, w_jcons (w_fmtS (w_var rfl ⟨rfl, by omega, _, rfl, ?_, w_jcons (w_c ⟨_, rfl, ?_, w_jcons (w_fmtI (w_var rfl ⟨rfl, h1, _, rfl, ?_, w_jnil ?_⟩))⟩)⟩))⟩))))))))
    · exact Nat.le_trans (Nat.le_of_eq e1) (by omega)
    · rw [PySem.Str.length_append]
      exact Nat.le_trans (Nat.add_le_add (Nat.le_of_eq e1) hw) (by omega)
    · rw [PySem.Str.length_append, PySem.Str.length_append]
      exact Nat.le_trans (Nat.add_le_add (Nat.add_le_add (Nat.le_of_eq e1) hw) (Nat.le_of_eq e2)) (by omega)
    · rw [PySem.Str.length_append, PySem.Str.length_append, PySem.Str.length_append]
      exact Nat.le_trans (Nat.add_le_add (Nat.add_le_add (Nat.add_le_add (Nat.le_of_eq e1) hw) (Nat.le_of_eq e2)) h2) (by omega)
    · walk_at "go"
      refine ⟨a, _, _, 0, rfl, by simp, T.ox_BadFactors, rfl, ?_⟩
      refine ws_seq (ws_ost1 0 ?_)
      walk_at "go"
      refine ⟨a, _, rfl, T.ox_BadFactors, T.na_BadFactors_what, rfl, fun dx hdx hne => ?_⟩
      refine ws_ost2 0 1 ?_
      walk_at "go"
      exact ⟨a, _, dx, _, rfl, T.ox_BadFactors, T.na_BadFactors_index, rfl, rfl, by simp, rfl, dx, rfl⟩
/-- raise BadTable(e), in a def that may let it out -/
theorem ps_raiseT {N : List Str} {qual : Str} {sc : Scope} {f : Addr} {cdv : Value} {A : Around} {outer : List Env} {s : Shared} {H : Hp} {E : XK} {j : Nat} {e : Expr} {p pos pos2 : Pos} {t : TA} (T : Txt K mg) (hr : Room j (A.deeper (envOfC qual sc s.heap.objs.size f cdv))) (hj : 2 ≤ j)
    (hg : Gl (cxOf (L2.CX P w) P w K mg base N qual sc f cdv A outer s H E) "BadTable") (ha : PA (cxOf (L2.CX P w) P w K mg base N qual sc f cdv A outer s H E) [e] t)
    (he : starEach [e] (cxOf (L2.CX P w) P w K mg base N qual sc f cdv A outer s H E).env = (false, eval e (cxOf (L2.CX P w) P w K mg base N qual sc f cdv A outer s H E).env) :: starEach [] (cxOf (L2.CX P w) P w K mg base N qual sc f cdv A outer s H E).env := by rfl)
    (hpl : (backTo pos (starEach [] (cxOf (L2.CX P w) P w K mg base N qual sc f cdv A outer s H E).env)).any (·.1) = false := by rfl) :
    PS (cxOf (L2.CX P w) P w K mg base N qual sc f cdv A outer s H E) (.Raise (some (.Call (.Name "BadTable" p) [e] [] pos)) none pos2)
      (fun _ σ H => tMkO (ga K "BadTable") (Fn (SE (ga K "BadTable") rel_BadTable)) [] t σ H fun cls d H' => (fun c d (_ : L2.St) H => E c d H) cls d σ H') := by
  obtain ⟨fd, F, b⟩ := T.f_BadTable_init
  exact ps_raise rfl (takes_of rfl rfl rfl rfl) (pmk_oex T.ox_BadTable T.ii_BadTable T.it_BadTable (fn_BadTable T F) (hr.mono hj) b .nil pass0 hg T.g_BadTable ha (by decide) he hpl)
end
end K6
/-! the walks -/
set_option maxRecDepth 100000
set_option maxHeartbeats 4000000
namespace K6
open PySem L2 K3 PySem.Spec PyProof.Rows
open Evl (Ex)
local macro_rules | `(tactic| walk_at "lift") => `(tactic| first | assumption | (refine mlift (by assumption) ?_; walk_at "lift"))
local macro_rules | `(tactic| walk_at "side") => `(tactic| first | exact mulZ_r ⟨by omega, by omega⟩ | exact mulZ_l ⟨by omega, by omega⟩ | exact divZ_small (by omega) (by omega) | (show (0 : Int) < _; omega) | (exact ⟨by decide, by decide, by decide⟩))
local macro_rules | `(tactic| walk_at "step") => `(tactic| (dsimp only [List.set]))
local macro_rules | `(tactic| walk_at "step") => `(tactic| (with_reducible refine ex_int1 ?_))
local macro_rules | `(tactic| walk_at "step") => `(tactic| (with_reducible refine ex_int ?_))
local macro_rules | `(tactic| walk_at "step") => `(tactic| (with_reducible refine ex_bl ?_))
local macro_rules | `(tactic| walk_at "step") => `(tactic| (refine ⟨_, _, _, _, rfl, rfl, rfl, rfl, ?_⟩))
local macro_rules | `(tactic| walk_at "step") => `(tactic| (with_reducible refine g_sub 0 ?_))
local macro_rules | `(tactic| walk_at "step") => `(tactic| (with_reducible refine cj_nt ?_))
local macro_rules | `(tactic| walk_at "step") => `(tactic| (with_reducible refine cj_nf ?_))
local macro_rules | `(tactic| walk_at "step") => `(tactic| (with_reducible refine cj_t ?_))
local macro_rules | `(tactic| walk_at "step") => `(tactic| (with_reducible refine cj_f ?_))
local macro_rules | `(tactic| walk_at "step") => `(tactic| ((with_reducible refine r_isiTy (n := ?n) (b := false) ?ty ?e ?r); (case ty => walk_at "ty"); (case e => exact rfl)))
local macro_rules | `(tactic| walk_at "step") => `(tactic| ((with_reducible refine r_isiTy (n := ?n) (b := true) ?ty ?e ?r); (case ty => walk_at "ty"); (case e => exact rfl)))
local macro_rules | `(tactic| walk_at "step") => `(tactic| ((with_reducible refine r_ne ?h ?r); (case h => exact rfl)))
local macro_rules | `(tactic| walk_at "step") => `(tactic| ((with_reducible refine r_eq ?h ?r); (case h => exact rfl)))
local macro_rules | `(tactic| walk_at "step") => `(tactic| (with_reducible refine g_name ?_))
local macro_rules | `(tactic| walk_at "step") => `(tactic| (with_reducible refine w_noPart ?_))
local macro_rules | `(tactic| walk_at "step") => `(tactic| (with_reducible refine w_slc ?_))
local macro_rules | `(tactic| walk_at "step") => `(tactic| (with_reducible refine w_call ?_))
local macro_rules | `(tactic| walk_at "step") => `(tactic| (with_reducible refine w_call0 ?_))
local macro_rules | `(tactic| walk_at "step") => `(tactic| (with_reducible refine w_chain ?_))
local macro_rules | `(tactic| walk_at "step") => `(tactic| (with_reducible refine w_ifE ?_))
local macro_rules | `(tactic| walk_at "step") => `(tactic| (with_reducible refine w_notV ?_))
local macro_rules | `(tactic| walk_at "step") => `(tactic| (with_reducible refine w_orV ?_))
local macro_rules | `(tactic| walk_at "step") => `(tactic| (with_reducible refine w_andV ?_))
local macro_rules | `(tactic| walk_at "step") => `(tactic| (with_reducible refine t_not ?_))
local macro_rules | `(tactic| walk_at "step") => `(tactic| (with_reducible refine t_or ?_))
local macro_rules | `(tactic| walk_at "step") => `(tactic| (with_reducible refine t_and ?_))
local macro_rules | `(tactic| walk_at "step") => `(tactic| (with_reducible refine t_B ?_))
local macro_rules | `(tactic| walk_at "step") => `(tactic| (with_reducible refine t_test ?_))
local macro_rules | `(tactic| walk_at "step") => `(tactic| (with_reducible refine r_notNone ?_))
local macro_rules | `(tactic| walk_at "step") => `(tactic| (with_reducible refine r_isNone ?_))
local macro_rules | `(tactic| walk_at "step") => `(tactic| (with_reducible refine r_intb ?_))
local macro_rules | `(tactic| walk_at "step") => `(tactic| (with_reducible refine r_int ?_))
local macro_rules | `(tactic| walk_at "step") => `(tactic| (with_reducible refine r_min2 ?_))
local macro_rules | `(tactic| walk_at "step") => `(tactic| (with_reducible refine r_abs ?_))
local macro_rules | `(tactic| walk_at "step") => `(tactic| (with_reducible refine w_cb ?_))
local macro_rules | `(tactic| walk_at "step") => `(tactic| (with_reducible refine w_nil ?_))
local macro_rules | `(tactic| walk_at "step") => `(tactic| (with_reducible refine w_tupD ?_))
local macro_rules | `(tactic| walk_at "step") => `(tactic| (with_reducible refine w_tyLT ?_))
local macro_rules | `(tactic| walk_at "step") => `(tactic| (with_reducible refine w_cons ?_))
local macro_rules | `(tactic| walk_at "step") => `(tactic| ((with_reducible refine r_own (v := ?v) (xs := ?xs) 0 ?h ?ha ?r); (case h => exact rfl); (case ha => exact rfl)))
local macro_rules | `(tactic| walk_at "step") => `(tactic| ((with_reducible refine r_ixO (v := ?v) (xs := ?xs) 0 ?h ?ha ?r); (case h => exact rfl); (case ha => exact rfl)))
local macro_rules | `(tactic| walk_at "step") => `(tactic| (with_reducible refine r_U ?_))
local macro_rules | `(tactic| walk_at "step") => `(tactic| ((with_reducible refine r_I ?hc ?r); (case hc => walk_at "side")))
local macro_rules | `(tactic| walk_at "step") => `(tactic| (with_reducible refine r_I0 ?_))
local macro_rules | `(tactic| walk_at "step") => `(tactic| (with_reducible refine w_un ?_))
local macro_rules | `(tactic| walk_at "step") => `(tactic| (with_reducible refine w_op ?_))
local macro_rules | `(tactic| walk_at "step") => `(tactic| (with_reducible refine w_c ?_))
local macro_rules | `(tactic| walk_at "step") => `(tactic| ((with_reducible refine w_var (v := ?v) ?h ?r); (case h => exact rfl)))
local macro_rules | `(tactic| walk_at "step") => `(tactic| (with_reducible refine ws_asg ?_))
local macro_rules | `(tactic| walk_at "step") => `(tactic| (with_reducible refine ws_par ?_))
local macro_rules | `(tactic| walk_at "step") => `(tactic| (with_reducible refine ws_drop ?_))
local macro_rules | `(tactic| walk_at "step") => `(tactic| (with_reducible refine ws_ct ?_))
local macro_rules | `(tactic| walk_at "step") => `(tactic| (with_reducible refine ws_bk ?_))
local macro_rules | `(tactic| walk_at "step") => `(tactic| (with_reducible refine ws_nx ?_))
local macro_rules | `(tactic| walk_at "step") => `(tactic| (with_reducible refine ws_if ?_))
local macro_rules | `(tactic| walk_at "step") => `(tactic| (with_reducible refine ws_ret ?_))
local macro_rules | `(tactic| walk_at "step") => `(tactic| (with_reducible refine ws_set ?_))
local macro_rules | `(tactic| walk_at "step") => `(tactic| (with_reducible refine ws_seq ?_))
local macro_rules | `(tactic| walk_at "go") => `(tactic| repeat walk_at "step")

local macro_rules | `(tactic| walk_at "if") => `(tactic| first
  | refine cj_i ?_ ?_ | refine cj_ni ?_ ?_
  | refine cj_nd ?_ ?_ | refine cj_d ?_ ?_
  | refine cj_nb ?_ ?_ | refine cj_b ?_ ?_)
local macro_rules | `(tactic| walk_at "ty") => `(tactic| first | exact TyK.int _ | exact TyK.bl _ | exact TyK.non | exact TyK.str _ | exact TyK.tup (by assumption) | exact TyK.lst (.inl (by assumption)))
/-! text P1 -/
section
variable {P : Program} {w : World} {K : PySem.W.Frag} {mg : Str → Option Value} {base : Heap}
theorem sc_law_mixed : FnScope ["_law_number_here", "_law_turn", "_law_once", "_law_twice"] ["_law_number_here", "_law_turn"] (defScope s_law_mixed) := ⟨rfl, rfl, rfl, by decide +kernel, rfl, by decide +kernel, by decide +kernel⟩
def S_law_mixed : Sg := fun vs G O R => O = [] ∧ ∃ a b : Int, vs = [.int a, .int b] ∧ 0 ≤ a ∧ 0 ≤ b ∧ b ≤ 100 ∧ R = fun v _ O' => O' = [] ∧ ∃ i : Int, v = .int i ∧ 0 ≤ i
theorem cal_law_mixed (T : Txt K mg) : C8.Cal P w K mg base 1 "_law_mixed" (Fn S_law_mixed) [] := by
  refine cal_by T.d_law_mixed sc_law_mixed (fun vs G O R h => ?_) (fun f cdv A outer s H vs G O R E hr h => ?_)
  · obtain ⟨rfl, a, b, rfl, _⟩ := h; rfl
  · obtain ⟨rfl, a, b, rfl, ha, hb, hb2, rfl⟩ := h
    refine ⟨_, (pss_cons (ps_set (i := 2) sc_law_mixed.nd rfl (Or.inl rfl) (pe_op op_mod (pe_callTy cl_int rfl T.b_int PyProof.Rows.boot_int (pa_cons (pe_op op_add (pe_op op_add (pe_op op_mulZ (pv 0) pe_int) (pe_op op_mulZ (pv 1) pe_int)) pe_int) pa_nil)) pe_int))
    (pss_cons (ps_set (i := 3) sc_law_mixed.nd rfl (Or.inl rfl) (pe_op op_mod (pe_callTy cl_int rfl T.b_int PyProof.Rows.boot_int (pa_cons (pe_op op_add (pe_op op_add (pe_op op_mulZ (pv 2) (pv 2)) (pe_op op_mulZ (pv 1) pe_int)) (pe_op op_fdivZ (pv 2) pe_int)) pa_nil)) pe_int))
    (pss_one (ps_ret (pe_op op_fdivZ (pe_op op_mod (pe_callTy cl_int rfl T.b_int PyProof.Rows.boot_int (pa_cons (pe_op op_add (pe_op op_mulZ (pv 3) pe_int) (pe_op op_fdivZ (pv 2) pe_int)) pa_nil)) pe_int) pe_int))))), ?_⟩
    show WS _ [some (.int a), some (.int b), none, none] _ _ _
    walk_at "go"
    refine ⟨rfl, _, rfl, ?_⟩
    rw [Int.fdiv_eq_ediv_of_nonneg _ (by decide)]
    omega
theorem sc_law_hand : FnScope ["_law_script", "_law_state", "_law_place", "_law_cell"] ["_law_script"] (defScope s_law_hand) := ⟨rfl, rfl, rfl, by decide +kernel, rfl, by decide +kernel, by decide +kernel⟩
def S_law_hand (K : PySem.W.Frag) : Sg := fun vs G O R => O = [] ∧ ∃ (a : Addr) (ns : List Int), vs = [.ref a] ∧ SqL K G a (ns.map V.int) ∧ ns.length ≤ 63 ∧ R = fun v G' O' => ∃ h o, v = .ref h ∧ O' = [(h, o)] ∧ HdOk G' o
theorem cal_law_hand (T : Txt K mg) : C8.Cal P w K mg base 1 "_law_hand" (Fn (S_law_hand K)) [] := by
  refine cal_by T.d_law_hand sc_law_hand (fun vs G O R h => ?_) (fun f cdv A outer s H vs G O R E hr h => ?_)
  · obtain ⟨rfl, a, b, rfl, _⟩ := h; rfl
  · obtain ⟨rfl, a, ns, rfl, hs, hl, rfl⟩ := h
    refine ⟨_, (pss_cons (ps_set (i := 1) sc_law_hand.nd rfl (Or.inl rfl) pe_int)
    (pss_cons (ps_for PassesOwn.never rfl (pi_enumK K rfl rfl T.b_enumerate (pa_cons (pv 0) pa_nil)) (pg_tupK K rfl (n := 2) rfl (pgs_cons (pg_name (i := 2) sc_law_hand.nd rfl (Or.inl rfl)) (pgs_cons (pg_name (i := 3) sc_law_hand.nd rfl (Or.inl rfl)) pgs_nil)))
      (pss_one (ps_set (i := 1) sc_law_hand.nd rfl (Or.inl rfl) (pe_op op_mod (pe_callTy cl_int rfl T.b_int PyProof.Rows.boot_int (pa_cons (pe_op op_add (pe_op op_add (pe_op op_mulZ (pv 1) pe_int) (pe_op op_mulZ (pe_callTy cl_int rfl T.b_int PyProof.Rows.boot_int (pa_cons (pv 3) pa_nil)) (pe_op op_add (pe_op op_mulZ pe_int (pv 2)) pe_int))) pe_int) pa_nil)) pe_int))))
    (pss_one (ps_ret (pe_lst (pa_cons (pe_lc (own := [("_law_cell", 3)]) rfl sc_law_hand.nd (pi_listK K rfl (pv 0)) (blkOk_by (N := ["_law_script", "_law_state", "_law_place", "_law_cell"]) (sc := defScope s_law_hand) (by decide +kernel)) (fun _ _ _ _ _ => (pg_name (i := 3) sc_law_hand.nd rfl (Or.inl rfl))) (fun _ _ _ _ _ => pts_nil) (fun _ _ _ _ _ => (pe_callB cl_abs rfl T.b_abs PyProof.Rows.boot_abs (pa_cons (pe_callTy cl_int rfl T.b_int PyProof.Rows.boot_int (pa_cons (pv 3) pa_nil)) pa_nil)))) (pa_cons pe_int (pa_cons pe_int (pa_cons (pv 1) pa_nil))))))))), ?_⟩
    show WS _ [some (.ref a), none, none, none] _ _ _
    walk_at "go"
    refine ws_for (i_enumS ?_)
    walk_at "go"
    refine ⟨a, _, rfl, hs, _, _, wk_enumS hs, fun i σ G' O' => ∃ (st : Int) (u v : Option V), σ = [some (.ref a), some (.int st), u, v] ∧ O' = [] ∧ 0 ≤ st ∧ st < 2147483587, ⟨11, _, _, rfl, rfl, by omega, by omega⟩, ?_, ?_⟩
    · rintro i x σ' G' O' hi e1 ⟨st, u, v, rfl, rfl, h0, h1⟩ G2 e2 ⟨Tp, y, rfl, hy, hT⟩
      obtain ⟨n, rfl⟩ : ∃ n, y = .int n := by
        rw [List.getElem?_map] at hy
        cases e : ns[i]? with
        | none => rw [e] at hy; cases hy
        | some n => rw [e] at hy; exact ⟨n, (Option.some.inj hy).symm⟩
      rw [List.length_map] at hi
      refine g_tup hT rfl (g_cons (g_name (g_cons (g_name (g_nil ?_)))))
      walk_at "go"
      exact ⟨_, _, _, rfl, rfl, Int.emod_nonneg _ (by decide), Int.emod_lt_of_pos _ (by decide)⟩
    · rintro σ' G' O' e1 ⟨st, u, v, rfl, rfl, h0, h1⟩
      walk_at "go"
      refine w_lst (w_cons (w_lcM (i_listS ?_)))
      walk_at "go"
      refine ⟨a, _, rfl, sqL_up e1 hs, _, _, by rw [List.length_map]; omega, wk_listS (sqL_up e1 hs), fun i => .int (ns.getD i 0).natAbs, ?_, ?_⟩
      · intro i x G2 hi e2 hx
        rw [List.getElem?_map] at hx
        cases e : ns[i]? with
        | none => rw [e] at hx; cases hx
        | some n =>
          rw [e] at hx
          obtain rfl : V.int n = x := Option.some.inj hx
          have en : ns.getD i 0 = n := by rw [List.getD_eq_getElem?_getD, e]; rfl
          refine ⟨rfl, ?_⟩
          walk_at "go"
          refine ⟨rfl, ?_⟩
          rw [en]
          have : (if n < 0 then -n else n) = (n.natAbs : Int) := by split <;> omega
          rw [this]
          exact .int _
      · intro p G2 e2 hp
        walk_at "go"
        refine ⟨(by show 4 ≤ sizeLine; decide), fun h hh => ⟨h, _, rfl, rfl, ?_⟩⟩
        obtain ⟨p', xs, ep, hx, hd⟩ := da_lst hp
        cases ep
        have ex : (List.range (List.map V.int ns).length).map (fun i => PyData.int ((ns.getD i 0).natAbs : Int)) = ((List.range ns.length).map fun i => ((ns.getD i 0).natAbs : Int)).map PyData.int := by
          rw [List.length_map, List.map_map]; rfl
        rw [ex] at hd
        rw [daAll_ints' hd] at hx
        refine ⟨p, _, 0, 0, st, rfl, hx, fun x hx => ?_, ?_, Nat.zero_le _, Int.le_refl _, h0, h1⟩
        · obtain ⟨i, _, rfl⟩ := List.mem_map.mp hx; omega
        · rw [List.length_map, List.length_range]; exact hl
end
/-! text P2 -/
section
variable {P : Program} {w : World} {K : PySem.W.Frag} {mg : Str → Option Value} {base : Heap}
theorem sc_law_draw : FnScope ["_law_hand_here", "_law_many", "_law_cell", "_law_rest"] ["_law_hand_here", "_law_many"] (defScope s_law_draw) := ⟨rfl, rfl, rfl, by decide +kernel, rfl, by decide +kernel, by decide +kernel⟩
def R_law_draw : Rel := fun ws _ post => ∃ many : Int, ws = [.int many] ∧ 1 ≤ many ∧ many < 2 ^ 60 ∧ post = fun v _ => ∃ k : Int, v = .int k ∧ 0 ≤ k ∧ k < many
theorem cal_law_draw (T : Txt K mg) : C8.Cal P w K mg base 2 "_law_draw" (Fn (SH R_law_draw)) [] := by
  refine cal_by T.d_law_draw sc_law_draw (fun vs G O R h => ?_) (fun f cdv A outer s H vs G O R E hr h => ?_)
  · obtain ⟨h, o, ws, rfl, _, _, _, ⟨a, rfl, _⟩, _⟩ := h; rfl
  · obtain ⟨h, o, ws, rfl, rfl, ho, post, ⟨a, rfl, ha1, ha2, rfl⟩, rfl⟩ := h
    refine ⟨_, (pss_cons (ps_if (PW.pt (pw_and (pt_cmpR op_eq (pe_ix (ixLK K rfl) (pv 0) pe_int (fun _ _ => rfl)) pe_int (nomark _)) (pw_and1 (pt_cmpR op_lt (pe_ix (ixLK K rfl) (pv 0) pe_int (fun _ _ => rfl)) (pe_callB (lenK K rfl) rfl T.b_len PySem.boot_len (pa_cons (pe_ix (ixLK K rfl) (pv 0) pe_int (fun _ _ => rfl)) pa_nil)) (nomark _)))))
      (pss_cons (ps_set (i := 2) sc_law_draw.nd rfl (Or.inl rfl) (pe_ix (ixLK K rfl) (pe_ix (ixLK K rfl) (pv 0) pe_int (fun _ _ => rfl)) (pe_ix (ixLK K rfl) (pv 0) pe_int (fun _ _ => rfl)) (fun _ _ => rfl)))
      (pss_cons (ps_asg (pe_op op_add (pe_ix (ixLK K rfl) (pv 0) pe_int (fun _ _ => rfl)) pe_int) (pg_sub (pv 0) pe_int set_list))
      (pss_cons (ps_if (pt_cmpR op_lt (pv 2) (pe_op op_pow pe_int pe_int) (nomark _))
        (pss_one (ps_ret (pe_op op_mod (pe_callTy cl_int rfl T.b_int PyProof.Rows.boot_int (pa_cons (C8.pe_c (cal_law_mixed T) hr (by omega) rfl (pa_cons (pv 2) (pa_cons (pe_ix (ixLK K rfl) (pv 0) pe_int (fun _ _ => rfl)) pa_nil))) pa_nil)) (pv 1))))
        pss_nil)
      (pss_one (ps_asg (pv 2) (pg_sub (pv 0) pe_int set_list))))))
      pss_nil)
    (pss_cons (ps_if (pt_cmpR op_gt (pe_ix (ixLK K rfl) (pv 0) pe_int (fun _ _ => rfl)) pe_int (nomark _))
      (pss_cons (ps_set (i := 3) sc_law_draw.nd rfl (Or.inl rfl) (pe_ix (ixLK K rfl) (pv 0) pe_int (fun _ _ => rfl)))
      (pss_cons (ps_asg (pe_op op_fdivZ (pv 3) (pv 1)) (pg_sub (pv 0) pe_int set_list))
      (pss_one (ps_ret (pe_op op_mod (pe_callTy cl_int rfl T.b_int PyProof.Rows.boot_int (pa_cons (pv 3) pa_nil)) (pv 1))))))
      pss_nil)
    (pss_cons (ps_asg (pe_op op_mod (pe_callTy cl_int rfl T.b_int PyProof.Rows.boot_int (pa_cons (pe_op op_add (pe_ix (ixLK K rfl) (pv 0) pe_int (fun _ _ => rfl)) pe_int) pa_nil)) pe_int) (pg_sub (pv 0) pe_int set_list))
    (pss_one (ps_ret (pe_op op_mod (pe_callTy cl_int rfl T.b_int PyProof.Rows.boot_int (pa_cons (C8.pe_c (cal_law_mixed T) hr (by omega) rfl (pa_cons (pe_ix (ixLK K rfl) (pv 0) pe_int (fun _ _ => rfl)) (pa_cons (pe_ix (ixLK K rfl) (pv 0) pe_int (fun _ _ => rfl)) pa_nil))) pa_nil)) (pv 1))))))), ?_⟩
    show WS _ [some (.ref h), some (.int a), none, none] _ _ _
    obtain ⟨c, cs, i, r, st, rfl, hc, hcs, hcl, hi, hr0, hs0, hs1⟩ := ho
    have hlen : ∀ G', Ex G G' → LsAt G' [(h, HO.lst [.ref c, .int (i : Int), .int r, .int st])] c (cs.map V.int) := fun G' e => .inl (e _ _ hc)
    refine ws_seqI (fun σ G' O' => ∃ (i' : Nat) (r' : Int) (u : Option V), σ = [some (.ref h), some (.int a), u, none] ∧ O' = [(h, .lst [.ref c, .int (i' : Int), .int r', .int st])] ∧ i' ≤ cs.length ∧ 0 ≤ r') ?_ ?_
    · walk_at "go"
      walk_at "if"
      · intro hc1
        walk_at "go"
        refine r_len (.inr (hlen _ (Evl.Ex.refl _))) ?_
        walk_at "go"
        walk_at "if"
        · intro hc2
          walk_at "go"
          have hic : i < cs.length := by simpa using hc2
          have hget : (cs.map V.int)[i]? = some (.int (cs.getD i 0)) := by rw [List.getElem?_map, List.getD_eq_getElem?_getD, List.getElem?_eq_getElem hic]; rfl
          have hnn : 0 ≤ cs.getD i 0 := by
            rw [List.getD_eq_getElem?_getD, List.getElem?_eq_getElem hic]; exact hcs _ (List.getElem_mem hic)
          refine r_at (hlen _ (Evl.Ex.refl _)) (atI_nat hget) ?_
          walk_at "go"
          walk_at "if"
          · intro hc3
            walk_at "go"
            refine f_pure ⟨rfl, _, _, rfl, hnn, by omega, by omega, rfl⟩ fun v G2 A2 e ⟨hA, k, hv, hk⟩ => ?_
            subst hA hv
            walk_at "go"
            refine ⟨_, rfl, ⟨c, cs, i + 1, r, st, by simp, e _ _ hc, hcs, hcl, hic, hr0, hs0, hs1⟩, _, rfl, Int.emod_nonneg _ (by omega), Int.emod_lt_of_pos _ (by omega)⟩
          · intro hc3
            walk_at "go"
            exact ⟨i + 1, _, _, rfl, by simp, hic, hnn⟩
        · intro _
          walk_at "go"
          exact ⟨i, r, _, rfl, rfl, hi, hr0⟩
      · intro _
        walk_at "go"
        exact ⟨i, r, _, rfl, rfl, hi, hr0⟩
    · rintro σ G' O' e ⟨i', r', u, rfl, rfl, hi, hr0⟩
      walk_at "go"
      walk_at "if"
      · intro hc1
        walk_at "go"
        refine ⟨_, rfl, ⟨c, cs, i', _, st, rfl, e _ _ hc, hcs, hcl, hi, ?_, hs0, hs1⟩, _, rfl, Int.emod_nonneg _ (by omega), Int.emod_lt_of_pos _ (by omega)⟩
        rw [Int.fdiv_eq_ediv_of_nonneg _ (by omega)]
        exact Int.ediv_nonneg (by omega) (by omega)
      · intro hc1
        walk_at "go"
        refine f_pure ⟨rfl, _, _, rfl, Int.emod_nonneg _ (by decide), by omega, by omega, rfl⟩ fun v G2 A2 e2 ⟨hA, k, hv, hk⟩ => ?_
        subst hA hv
        walk_at "go"
        refine ⟨_, rfl, ⟨c, cs, i', r', _, rfl, e2 _ _ (e _ _ hc), hcs, hcl, hi, hr0, Int.emod_nonneg _ (by decide), Int.emod_lt_of_pos _ (by decide)⟩, _, rfl, Int.emod_nonneg _ (by omega), Int.emod_lt_of_pos _ (by omega)⟩
end
/-! text P3 -/
section
variable {P : Program} {w : World} {K : PySem.W.Frag} {mg : Str → Option Value} {base : Heap}
theorem sc_law_whole : FnScope ["_law_thing"] ["_law_thing"] (defScope s_law_whole) := ⟨rfl, rfl, rfl, by decide +kernel, rfl, by decide +kernel, by decide +kernel⟩
def R_law_whole : Rel := fun ws _ post => ∃ i : Int, ws = [.int i] ∧ post = fun v _ => v = .bl true
theorem cal_law_whole (T : Txt K mg) : C8.Cal P w K mg base 1 "_law_whole" (Fn (SP R_law_whole)) [] := by
  refine cal_by T.d_law_whole sc_law_whole (fun vs G O R h => ?_) (fun f cdv A outer s H vs G O R E hr h => ?_)
  · obtain ⟨_, _, ⟨a, rfl, _⟩, _⟩ := h; rfl
  · obtain ⟨rfl, post, ⟨a, rfl, rfl⟩, rfl⟩ := h
    refine ⟨_, (pss_one (ps_ret (pe_and (pe_callB (isiK K rfl) rfl T.b_isinstance PyProof.Rows.boot_isinstance (pa_cons (pv 0) (pa_cons (pe_bltn (v := .ty "int") rfl T.b_int PyProof.Rows.boot_int rfl) pa_nil))) (pe_one (pe_not (pe_callB (isiK K rfl) rfl T.b_isinstance PyProof.Rows.boot_isinstance (pa_cons (pv 0) (pa_cons (pe_bltn (v := .ty "bool") rfl T.b_bool PyProof.Rows.boot_bool rfl) pa_nil)))))))), ?_⟩
    show WS _ [some (.int a)] _ _ _
    walk_at "go"
    exact ⟨rfl, rfl⟩
theorem sc_law_given : FnScope ["_law_hand_here", "_law_things"] ["_law_hand_here", "_law_things"] (defScope s_law_given) := ⟨rfl, rfl, rfl, by decide +kernel, rfl, by decide +kernel, by decide +kernel⟩
def R_law_given : Rel := fun ws G post => ∃ v0 ds, ws = [v0] ∧ Sq G v0 ds ∧ post = fun v G' => Sq G' v ds
theorem cal_law_given (T : Txt K mg) : C8.Cal P w K mg base 3 "_law_given" (Fn (SH R_law_given)) [] := by
  refine cal_by T.d_law_given sc_law_given (fun vs G O R h => ?_) (fun f cdv A outer s H vs G O R E hr h => ?_)
  · obtain ⟨_, _, _, rfl, _, _, _, ⟨a, _, rfl, _⟩, _⟩ := h; rfl
  · obtain ⟨h, o, _, rfl, rfl, ho, post, ⟨v0, ds, rfl, hv, rfl⟩, rfl⟩ := h
    refine ⟨_, (pss_cons (ps_if (pt_cmpR op_eq (C8.pe_c (cal_law_draw T) hr (by omega) rfl (pa_cons (pv 0) (pa_cons pe_int pa_nil))) pe_int (nomark _))
      (pss_one (ps_ret (pe_callTy (listK K rfl) rfl T.b_list PyProof.Rows.boot_list (pa_cons (pv 1) pa_nil))))
      pss_nil)
    (pss_one (ps_ret (pe_callTy (tupleK K rfl) rfl T.b_tuple PyProof.Rows.boot_tuple (pa_cons (pv 1) pa_nil))))), ?_⟩
    show WS _ [some (.ref h), some (v0)] _ _ _
    walk_at "go"
    refine f_h ho ⟨_, rfl, by decide, by decide, rfl⟩ fun v G2 o2 e ho2 hk => ?_
    obtain ⟨k, rfl, hk⟩ := hk
    walk_at "go"
    walk_at "if"
    · intro _
      walk_at "go"
      refine r_listDG (mlift (R := fun G => Sq G v0 ds) e hv) fun x G' e2 hx => ?_
      exact ⟨_, rfl, hd_up e2 ho2, .inl hx⟩
    · intro _
      walk_at "go"
      refine r_tupleD (mlift (R := fun G => Sq G v0 ds) e hv) fun x G' e2 hx => ?_
      exact ⟨_, rfl, hd_up e2 ho2, .inr hx⟩
/-! the greatest common divisor -/
def big (i : Int) : Prop := i.natAbs < 2 ^ 4000
theorem gcd_step {a b N : Nat} (hb : b ≤ a) (hb0 : b ≠ 0) (h : a * b * 2 ^ N < 2 ^ 8000) : b * (a % b) * 2 ^ (N + 1) < 2 ^ 8000 := by
  have h2 : 2 * (a % b) ≤ a := by
    have h1 := Nat.mod_add_div a b
    have h3 := Nat.mod_lt a (Nat.pos_of_ne_zero hb0)
    have h4 : 1 ≤ a / b := (Nat.le_div_iff_mul_le (Nat.pos_of_ne_zero hb0)).mpr (by omega)
    have h5 : b * 1 ≤ b * (a / b) := Nat.mul_le_mul_left _ h4
    omega
  refine Nat.lt_of_le_of_lt ?_ h
  rw [Nat.pow_succ, show b * (a % b) * (2 ^ N * 2) = 2 * (a % b) * (b * 2 ^ N) by ac_rfl, show a * b * 2 ^ N = a * (b * 2 ^ N) by ac_rfl]
  exact Nat.mul_le_mul_right _ h2
theorem sc_law_divisor : FnScope ["_law_one_here", "_law_other", "_law_a", "_law_b", "_law_step"] ["_law_one_here", "_law_other"] (defScope s_law_divisor) := ⟨rfl, rfl, rfl, by decide +kernel, rfl, by decide +kernel, by decide +kernel⟩
def R_law_divisor : Rel := fun ws _ post => ∃ i j : Int, ws = [.int i, .int j] ∧ big i ∧ big j ∧ post = fun v _ => v = .int (Int.gcd i j : Nat)
theorem cal_law_divisor (T : Txt K mg) : C8.Cal P w K mg base 1 "_law_divisor" (Fn (SP R_law_divisor)) [] := by
  refine cal_by T.d_law_divisor sc_law_divisor (fun vs G O R h => ?_) (fun f cdv A outer s H vs G O R E hr h => ?_)
  · obtain ⟨_, _, ⟨a, b, rfl, _⟩, _⟩ := h; rfl
  · obtain ⟨rfl, post, ⟨i, j, rfl, hi, hj, rfl⟩, rfl⟩ := h
    refine ⟨_, (pss_cons (ps_set (i := 2) sc_law_divisor.nd rfl (Or.inl rfl) (pe_callB cl_abs rfl T.b_abs PyProof.Rows.boot_abs (pa_cons (pv 0) pa_nil)))
    (pss_cons (ps_set (i := 3) sc_law_divisor.nd rfl (Or.inl rfl) (pe_callB cl_abs rfl T.b_abs PyProof.Rows.boot_abs (pa_cons (pv 1) pa_nil)))
    (pss_cons (ps_for PassesOwn.never rfl (pi_range1 rfl T.b_range (pa_cons pe_int pa_nil)) (pg_name (i := 4) sc_law_divisor.nd rfl (Or.inl rfl))
      (pss_cons (ps_if (pt_cmpR op_eq (pv 3) pe_int (nomark _))
        (pss_one ps_break)
        pss_nil)
      (pss_one (ps_par (i := 2) (j := 3) (by rfl) sc_law_divisor.nd rfl rfl (by decide) rfl rfl (pa_cons (pv 3) (pa_cons (pe_op op_mod (pe_callTy cl_int rfl T.b_int PyProof.Rows.boot_int (pa_cons (pv 2) pa_nil)) (pv 3)) pa_nil)) (by rfl)))))
    (pss_one (ps_ret (pv 2)))))), ?_⟩
    show WS _ [some (.int i), some (.int j), none, none, none] _ _ _
    walk_at "go"
    have e1 : (if i < 0 then -i else i) = (i.natAbs : Int) := by split <;> omega
    have e2 : (if j < 0 then -j else j) = (j.natAbs : Int) := by split <;> omega
    rw [e1, e2]
    refine ws_for (i_range1 ?_)
    walk_at "go"
    refine ⟨by decide, by decide, _, _, wk_range, fun t σ G' O' => ∃ (a b : Nat) (u : Option V), σ = [some (.int i), some (.int j), some (.int (a : Int)), some (.int (b : Int)), u] ∧ O' = [] ∧ Nat.gcd a b = Int.gcd i j ∧ a < 2 ^ 4000 ∧ b < 2 ^ 4000 ∧ (0 < t → b ≤ a ∧ a * b * 2 ^ (t - 1) < 2 ^ 8000), ⟨_, _, _, rfl, rfl, rfl, hi, hj, by omega⟩, ?_, ?_⟩
    · rintro t x σ' G' O' ht e ⟨a, b, u, rfl, rfl, hg, ha, hb, ho⟩ G2 e2 rfl
      walk_at "go"
      walk_at "if"
      · intro hc
        have hc : b = 0 := by omega
        subst hc
        walk_at "go"
        refine ⟨rfl, ?_⟩
        rw [← hg, Nat.gcd_zero_right]
      · intro hc
        have hc : b ≠ 0 := by omega
        walk_at "go"
        refine ⟨_, _, rfl, ?_⟩
        have hlt := Nat.mod_lt a (Nat.pos_of_ne_zero hc)
        refine ⟨b, a % b, _, by rw [Int.natCast_emod], rfl, ?_, hb, by omega, fun _ => ⟨by omega, ?_⟩⟩
        · rw [← hg, Nat.gcd_comm a b, Nat.gcd_rec b a]
          exact Nat.gcd_comm _ _
        · rw [Nat.add_sub_cancel]
          by_cases h0 : 0 < t
          · obtain ⟨h1, h2⟩ := ho h0
            have := gcd_step h1 hc h2
            rwa [Nat.sub_add_cancel h0] at this
          · have : t = 0 := by omega
            subst this
            have h3 : b * (a % b) < 2 ^ 4000 * 2 ^ 4000 := Nat.mul_lt_mul'' hb (by omega)
            rw [← Nat.pow_add] at h3
            rwa [Nat.pow_zero, Nat.mul_one]
    · rintro σ' G' O' e ⟨a, b, u, rfl, rfl, hg, ha, hb, ho⟩
      obtain ⟨h1, h2⟩ := ho (by decide)
      have h0 : a * b = 0 := by
        apply Classical.byContradiction
        intro hne
        have : 1 * 2 ^ 8000 ≤ a * b * 2 ^ (Int.toNat 9000 - 1) := Nat.mul_le_mul (Nat.pos_of_ne_zero hne) (Nat.pow_le_pow_right (by decide) (by decide))
        rw [Nat.one_mul] at this
        exact absurd h2 (Nat.not_lt.mpr this)
      have hb0 : b = 0 := by
        rcases Nat.mul_eq_zero.mp h0 with z | z <;> omega
      subst hb0
      walk_at "go"
      refine ⟨rfl, ?_⟩
      rw [← hg, Nat.gcd_zero_right]
end
/-! text P4 -/
section
variable {P : Program} {w : World} {K : PySem.W.Frag} {mg : Str → Option Value} {base : Heap}
def dq (q : Rat) : PyData := .tuple [.int q.num, .int (q.den : Int)]
theorem sc_law_lowest : FnScope ["_law_top", "_law_bottom", "_law_part"] ["_law_top", "_law_bottom"] (defScope s_law_lowest) := ⟨rfl, rfl, rfl, by decide +kernel, rfl, by decide +kernel, by decide +kernel⟩
def R_law_lowest : Rel := fun ws _ post => ∃ t b : Int, ws = [.int t, .int b] ∧ big t ∧ big b ∧ b ≠ 0 ∧ post = fun v G' => Da G' [] v (dq (Rat.divInt t b))
theorem gcd_big {t b : Int} (hb : b ≠ 0) (h : big b) : ((b.sign * (Int.gcd t b : Nat)).natAbs) < 2 ^ 4000 := by
  rw [Int.natAbs_mul, Int.natAbs_sign_of_ne_zero hb, Nat.one_mul]
  exact Nat.lt_of_le_of_lt (Nat.le_of_dvd (by omega) (Nat.gcd_dvd_right _ _)) h
theorem cal_law_lowest (T : Txt K mg) : C8.Cal P w K mg base 2 "_law_lowest" (Fn (SP R_law_lowest)) [] := by
  refine cal_by T.d_law_lowest sc_law_lowest (fun vs G O R h => ?_) (fun f cdv A outer s H vs G O R E hr h => ?_)
  · obtain ⟨_, _, ⟨a, b, rfl, _⟩, _⟩ := h; rfl
  · obtain ⟨rfl, post, ⟨t, b, rfl, ht, hb, h0, rfl⟩, rfl⟩ := h
    refine ⟨_, (pss_cons (ps_set (i := 2) sc_law_lowest.nd rfl (Or.inl rfl) (C8.pe_c (cal_law_divisor T) hr (by omega) rfl (pa_cons (pv 0) (pa_cons (pv 1) pa_nil))))
    (pss_cons (ps_if (pt_cmpR op_lt (pv 1) pe_int (nomark _))
      (pss_one (ps_set (i := 2) sc_law_lowest.nd rfl (Or.inl rfl) (pe_op op_sub pe_int (pv 2))))
      pss_nil)
    (pss_one (ps_ret (pe_tup (pa_cons (pe_op op_fdivZ (pv 0) (pv 2)) (pa_cons (pe_op op_fdivZ (pv 1) (pv 2)) pa_nil))))))), ?_⟩
    show WS _ [some (.int t), some (.int b), none] _ _ _
    walk_at "go"
    refine f_p ⟨_, _, rfl, ht, hb, rfl⟩ fun v G2 e hv => ?_
    subst hv
    refine ws_seqI (fun σ G' O' => σ = [some (.int t), some (.int b), some (.int (b.sign * (Int.gcd t b : Nat)))] ∧ O' = []) ?_ ?_
    · have hp := (low_part (t := t) h0).1
      walk_at "go"
      walk_at "if"
      · intro hc
        rw [if_pos hc] at hp
        walk_at "go"
        exact ⟨by rw [← hp], rfl⟩
      · intro hc
        rw [if_neg hc] at hp
        walk_at "go"
        exact ⟨by rw [← hp], rfl⟩
    · rintro σ G' O' e2 ⟨rfl, rfl⟩
      have hz : b.sign * (Int.gcd t b : Nat) ≠ 0 := fun z => by
        rcases Int.mul_eq_zero.mp z with z | z
        · exact h0 (Int.sign_eq_zero_iff_zero.mp z)
        · exact (low_part (t := t) h0).2 z
      walk_at "go"
      refine r_I (divZ_ok (b := 4000) hz (gcd_big h0 hb) (by decide) (by decide)) ?_
      walk_at "go"
      refine r_I (divZ_ok (b := 4000) hz (gcd_big h0 hb) (by decide) (by decide)) ?_
      walk_at "go"
      refine ⟨_, by simp, .cons (.int _) (.cons (.int _) .nil), fun x G3 e3 hx => ⟨rfl, ?_⟩⟩
      rw [low_num h0, low_den h0] at hx
      exact hx
theorem sc_law_prime : FnScope ["_law_number_here", "_law_divisor_here"] ["_law_number_here"] (defScope s_law_prime) := ⟨rfl, rfl, rfl, by decide +kernel, rfl, by decide +kernel, by decide +kernel⟩
def R_law_prime : Rel := fun ws _ post => ∃ k : Nat, ws = [.int (k : Int)] ∧ 2 ≤ k ∧ k < 20012 ∧ post = fun v _ => ∃ b : Bool, v = .bl b ∧ (b = true ↔ ∀ d, 2 ≤ d → d * d ≤ k → k % d ≠ 0)
theorem cal_law_prime (T : Txt K mg) : C8.Cal P w K mg base 1 "_law_prime" (Fn (SP R_law_prime)) [] := by
  refine cal_by T.d_law_prime sc_law_prime (fun vs G O R h => ?_) (fun f cdv A outer s H vs G O R E hr h => ?_)
  · obtain ⟨_, _, ⟨a, rfl, _⟩, _⟩ := h; rfl
  · obtain ⟨rfl, post, ⟨k, rfl, h2, h3, rfl⟩, rfl⟩ := h
    refine ⟨_, (pss_cons (ps_if (pt_cmpR op_lt (pv 0) pe_int (nomark _))
      (pss_one (ps_ret pe_bl))
      pss_nil)
    (pss_cons (ps_for PassesOwn.never rfl (pi_range2 rfl T.b_range (pa_cons pe_int (pa_cons pe_int pa_nil))) (pg_name (i := 1) sc_law_prime.nd rfl (Or.inl rfl))
      (pss_cons (ps_if (pt_cmpR op_gt (pe_op op_mulZ (pv 1) (pv 1)) (pv 0) (nomark _))
        (pss_one (ps_ret pe_bl))
        pss_nil)
      (pss_one (ps_if (pt_cmpR op_eq (pe_op op_mod (pe_callTy cl_int rfl T.b_int PyProof.Rows.boot_int (pa_cons (pv 0) pa_nil)) (pv 1)) pe_int (nomark _))
        (pss_one (ps_ret pe_bl))
        pss_nil))))
    (pss_one (ps_ret pe_bl)))), ?_⟩
    show WS _ [some (.int (k : Int)), none] _ _ _
    walk_at "go"
    walk_at "if"
    · intro hc; omega
    intro _
    refine ws_nx ?_
    refine ws_seq ?_
    refine ws_for (i_range2 ?_)
    walk_at "go"
    refine ⟨_, _, rfl, by decide, _, _, wk_range, fun t σ G' O' => ∃ (u : Option V), σ = [some (.int (k : Int)), u] ∧ O' = [] ∧ ∀ d, 2 ≤ d → d < t + 2 → d * d ≤ k ∧ k % d ≠ 0, ⟨_, rfl, rfl, by omega⟩, ?_, ?_⟩
    · rintro t x σ' G' O' ht e ⟨u, rfl, rfl, ho⟩ G2 e2 rfl
      have hsq : ((2 : Int) + (t : Int)) * (2 + (t : Int)) = (((t + 2) * (t + 2) : Nat) : Int) := by rw [Int.natCast_mul]; congr 1 <;> omega
      have hmd : (k : Int) % (2 + (t : Int)) = ((k % (t + 2) : Nat) : Int) := by rw [Int.natCast_emod]; congr 1; omega
      walk_at "go"
      walk_at "if"
      · intro hc
        rw [hsq] at hc
        have hc : k < (t + 2) * (t + 2) := by omega
        walk_at "go"
        refine ⟨rfl, true, rfl, fun _ d hd hdd => (ho d hd ?_).2, fun _ => rfl⟩
        apply Classical.byContradiction
        intro hn
        have : (t + 2) * (t + 2) ≤ d * d := Nat.mul_le_mul (by omega) (by omega)
        omega
      · intro hc
        rw [hsq] at hc
        have hc : (t + 2) * (t + 2) ≤ k := by omega
        walk_at "go"
        rw [hmd]
        walk_at "if"
        · intro hc2
          have hc2 : k % (t + 2) = 0 := by omega
          walk_at "go"
          exact ⟨rfl, false, rfl, fun z => (by cases z), fun z => absurd hc2 (z (t + 2) (by omega) hc)⟩
        · intro hc2
          walk_at "go"
          refine ⟨_, rfl, rfl, fun d hd hlt => ?_⟩
          by_cases e : d = t + 2
          · subst e; exact ⟨hc, by omega⟩
          · exact ho d hd (by omega)
    · rintro σ' G' O' e ⟨u, rfl, rfl, ho⟩
      walk_at "go"
      refine ⟨rfl, true, rfl, fun _ d hd hdd => (ho d hd ?_).2, fun _ => rfl⟩
      apply Classical.byContradiction
      intro hn
      have : 200 * 200 ≤ d * d := Nat.mul_le_mul (by omega) (by omega)
      omega
end
/-! text P5 -/
open PySem L2 K3 PySem.Spec PyProof.Rows Gp

section
variable {P : Program} {w : World} {K : PySem.W.Frag} {mg : Str → Option Value} {base : Heap}
theorem sc_law_next_prime : FnScope ["_law_number_here", "_law_prime_here"] ["_law_number_here"] (defScope s_law_next_prime) := ⟨rfl, rfl, rfl, by decide +kernel, rfl, by decide +kernel, by decide +kernel⟩
def R_law_next_prime : Rel := fun ws _ post => ∃ k : Nat, ws = [.int (k : Int)] ∧ 2 ≤ k ∧ k ≤ 19997 ∧ post = fun v _ => ∃ p : Nat, v = .int (p : Int) ∧ Pr p
theorem cal_law_next_prime (T : Txt K mg) : C8.Cal P w K mg base 2 "_law_next_prime" (Fn (SP R_law_next_prime)) [] := by
  refine cal_by T.d_law_next_prime sc_law_next_prime (fun vs G O R h => ?_) (fun f cdv A outer s H vs G O R E hr h => ?_)
  · obtain ⟨_, _, ⟨a, rfl, _⟩, _⟩ := h; rfl
  · obtain ⟨rfl, post, ⟨k, rfl, h2, h3, rfl⟩, rfl⟩ := h
    refine ⟨_, (pss_cons (ps_for PassesOwn.never rfl (pi_range2 rfl T.b_range (pa_cons (pv 0) (pa_cons pe_int pa_nil))) (pg_name (i := 1) sc_law_next_prime.nd rfl (Or.inl rfl))
      (pss_one (ps_if (pt_val (C8.pe_c (cal_law_prime T) hr (by omega) rfl (pa_cons (pv 1) pa_nil)))
        (pss_one (ps_ret (pv 1)))
        pss_nil)))
    (pss_one (ps_ret pe_int))), ?_⟩
    show WS _ [some (.int (k : Int)), none] _ _ _
    refine ws_seq ?_
    refine ws_for (i_range2 ?_)
    walk_at "go"
    refine ⟨_, _, rfl, by omega, _, _, wk_range, fun t σ G' O' => ∃ (u : Option V), σ = [some (.int (k : Int)), u] ∧ O' = [] ∧ k + t ≤ 19997, ⟨_, rfl, rfl, by omega⟩, ?_, ?_⟩
    · rintro t x σ' G' O' ht e ⟨u, rfl, rfl, ho⟩ G2 e2 rfl
      walk_at "go"
      refine f_p ⟨k + t, by rw [Int.natCast_add], by omega, by omega, rfl⟩ fun v G3 e3 ⟨b, hv, hb⟩ => ?_
      subst hv
      walk_at "go"
      walk_at "if"
      · intro hc
        walk_at "go"
        exact ⟨rfl, k + t, by rw [Int.natCast_add], by omega, ho, hb.mp hc⟩
      · intro hc
        walk_at "go"
        refine ⟨_, rfl, rfl, ?_⟩
        have hne : k + t ≠ 19997 := fun z => by
          have := hb.mpr (by rw [z]; exact pr_19997.2.2)
          rw [hc] at this; cases this
        omega
    · rintro σ' G' O' e ⟨u, rfl, rfl, ho⟩
      omega
theorem pr_six : ∀ i, i < 6 → ∃ p : Nat, Pr p ∧ [(2 : Int), 3, 5, 7, 11, 13][i]? = some (p : Int) := by
  have key : ∀ p : Nat, p < 20 → 2 ≤ p → (∀ d, d < 20 → 2 ≤ d → d * d ≤ p → p % d ≠ 0) → Pr p := fun p h1 h2 h => ⟨h2, by omega, fun d hd hdd => h d (by
    apply Classical.byContradiction
    intro hn
    have : 20 * 20 ≤ d * d := Nat.mul_le_mul (by omega) (by omega)
    omega) hd hdd⟩
  intro i hi
  have : i = 0 ∨ i = 1 ∨ i = 2 ∨ i = 3 ∨ i = 4 ∨ i = 5 := by omega
  rcases this with rfl | rfl | rfl | rfl | rfl | rfl
  · exact ⟨2, key 2 (by decide) (by decide) (by decide), rfl⟩
  · exact ⟨3, key 3 (by decide) (by decide) (by decide), rfl⟩
  · exact ⟨5, key 5 (by decide) (by decide) (by decide), rfl⟩
  · exact ⟨7, key 7 (by decide) (by decide) (by decide), rfl⟩
  · exact ⟨11, key 11 (by decide) (by decide) (by decide), rfl⟩
  · exact ⟨13, key 13 (by decide) (by decide) (by decide), rfl⟩
theorem sc_law_field : FnScope ["_law_hand_here", "_law_pick"] ["_law_hand_here"] (defScope s_law_field) := ⟨rfl, rfl, rfl, by decide +kernel, rfl, by decide +kernel, by decide +kernel⟩
def R_law_field : Rel := fun ws _ post => ws = [] ∧ post = fun v _ => ∃ F : Fk, v = .int (F.p : Int)
theorem cal_law_field (T : Txt K mg) : C8.Cal P w K mg base 3 "_law_field" (Fn (SH R_law_field)) [] := by
  refine cal_by T.d_law_field sc_law_field (fun vs G O R h => ?_) (fun f cdv A outer s H vs G O R E hr h => ?_)
  · obtain ⟨_, _, _, rfl, _, _, _, ⟨rfl, _⟩, _⟩ := h; rfl
  · obtain ⟨h, o, _, rfl, rfl, ho, post, ⟨rfl, rfl⟩, rfl⟩ := h
    refine ⟨_, (pss_cons (ps_set (i := 1) sc_law_field.nd rfl (Or.inl rfl) (C8.pe_c (cal_law_draw T) hr (by omega) rfl (pa_cons (pv 0) (pa_cons pe_int pa_nil))))
    (pss_cons (ps_if (pt_cmpR op_lt (pv 1) pe_int (nomark _))
      (pss_one (ps_ret (pe_ix (ixK K rfl) (pe_tup (pa_cons pe_int (pa_cons pe_int (pa_cons pe_int (pa_cons pe_int (pa_cons pe_int (pa_cons pe_int pa_nil))))))) (pv 1) (fun _ _ => rfl))))
      pss_nil)
    (pss_cons (ps_if (pt_cmpR op_lt (pv 1) pe_int (nomark _))
      (pss_one (ps_ret (C8.pe_c (cal_law_next_prime T) hr (by omega) rfl (pa_cons (pe_op op_add pe_int (C8.pe_c (cal_law_draw T) hr (by omega) rfl (pa_cons (pv 0) (pa_cons pe_int pa_nil)))) pa_nil))))
      pss_nil)
    (pss_one (ps_ret pe_int))))), ?_⟩
    show WS _ [some (.ref h), none] _ _ _
    walk_at "go"
    refine f_h ho ⟨_, rfl, by decide, by decide, rfl⟩ fun v G2 o2 e ho2 hk => ?_
    obtain ⟨k, rfl, hk0, hk1⟩ := hk
    walk_at "go"
    walk_at "if"
    · intro hc
      walk_at "go"
      refine ⟨_, by simp, .cons (.int _) (.cons (.int _) (.cons (.int _) (.cons (.int _) (.cons (.int _) (.cons (.int _) .nil))))), fun x G3 e3 hx => ?_⟩
      walk_at "go"
      obtain ⟨p, hp, he⟩ := pr_six k.toNat (by omega)
      refine r_atD (j := k.toNat) (d := .int p) (.inr hx) ?_ (by omega) fun y hy => ?_
      · have : [PyData.int 2, .int 3, .int 5, .int 7, .int 11, .int 13] = [(2 : Int), 3, 5, 7, 11, 13].map PyData.int := rfl
        rw [this, List.getElem?_map, he]; rfl
      · rw [da_int hy]
        exact ⟨_, rfl, hd_up e3 ho2, .rest p hp, rfl⟩
    · intro hc
      walk_at "go"
      walk_at "if"
      · intro hc2
        walk_at "go"
        refine f_h ho2 ⟨_, rfl, by decide, by decide, rfl⟩ fun v G3 o3 e3 ho3 hk3 => ?_
        obtain ⟨k3, rfl, hk30, hk31⟩ := hk3
        walk_at "go"
        refine f_p ⟨(2 + k3).toNat, by rw [Int.toNat_of_nonneg (by omega)], by omega, by omega, rfl⟩ fun v G4 e4 ⟨p, hv, hp⟩ => ?_
        subst hv
        exact ⟨_, rfl, hd_up e4 ho3, .rest p hp, rfl⟩
      · intro hc2
        walk_at "go"
        exact ⟨_, rfl, ho2, .frac, rfl⟩
end
/-! text P6 -/
theorem dat_one_rest {p : Nat} {hp : Pr p} : (Fk.rest p hp).dat 1 = .int 1 := rfl
theorem dat_one_frac : Fk.frac.dat 1 = .tuple [.int 1, .int 1] := rfl
theorem dat_minus_rest {p : Nat} {hp : Pr p} : (Fk.rest p hp).dat (Fk.minus _) = .int ((p : Int) - 1) := by
  show PyData.int (((p - 1 : Nat)) : Int) = _
  have := hp.1
  congr 1; omega
theorem dat_minus_frac : Fk.frac.dat (Fk.minus _) = .tuple [.int (-1), .int 1] := rfl
theorem bd_frac {n : Nat} {a : Fk.frac.U} (h : Fk.bd .frac n a) : (a : Fr).1.num.natAbs ≤ 2 ^ n ∧ (a : Fr).1.den ≤ 2 ^ n := h
theorem big_mul {i j : Int} {a b : Nat} (hi : i.natAbs ≤ 2 ^ a) (hj : j.natAbs ≤ 2 ^ b) (h : a + b < 4000) : big (i * j) := by
  show (i * j).natAbs < 2 ^ 4000
  rw [Int.natAbs_mul]
  refine Nat.lt_of_le_of_lt (Nat.mul_le_mul hi hj) ?_
  rw [← Nat.pow_add]
  exact Nat.pow_lt_pow_right (by decide) h
theorem lt_pow_succ {x n : Nat} (h : x ≤ 2 ^ n) : x < 2 ^ (n + 1) := Nat.lt_of_le_of_lt h (Nat.pow_lt_pow_right (by decide) (by omega))
theorem fr_den_ne (a : Fr) : (a.1.den : Int) ≠ 0 := by have := a.1.den_pos; omega
theorem fr_num_ne (a : Fr) : a.1.num ≠ 0 := fun z => a.2 (Rat.num_eq_zero.mp z)
theorem nu_rest {p : Nat} {hp : Pr p} {G : Hp} {v : V} {a : (Fk.rest p hp).U} (h : Nu (.rest p hp) G v a) : v = .int ((a : Rs p).1 : Int) := da_int h
theorem nu_frac {G : Hp} {v : V} {a : Fk.frac.U} (h : Nu .frac G v a) : Da G [] v (.tuple [.int (a : Fr).1.num, .int ((a : Fr).1.den : Int)]) := h
theorem nu_of_dq {G : Hp} {v : V} {q : Rat} {a : Fr} (e : a.1 = q) (h : Da G [] v (dq q)) : Nu .frac G v a := by subst e; exact h
section
variable {P : Program} {w : World} {K : PySem.W.Frag} {mg : Str → Option Value} {base : Heap}
theorem sc_law_one : FnScope ["_law_prime_here"] ["_law_prime_here"] (defScope s_law_one) := ⟨rfl, rfl, rfl, by decide +kernel, rfl, by decide +kernel, by decide +kernel⟩
def R_law_one : Rel := fun ws _ post => ∃ F : Fk, ws = [.int (F.p : Int)] ∧ post = fun v G' => Nu F G' v 1
theorem cal_law_one (T : Txt K mg) : C8.Cal P w K mg base 1 "_law_one" (Fn (SP R_law_one)) [] := by
  refine cal_by T.d_law_one sc_law_one (fun vs G O R h => ?_) (fun f cdv A outer s H vs G O R E hr h => ?_)
  · obtain ⟨_, _, ⟨a, rfl, _⟩, _⟩ := h; rfl
  · obtain ⟨rfl, post, ⟨F, rfl, rfl⟩, rfl⟩ := h
    refine ⟨_, (pss_one (ps_ret (pe_ifExp (pt_cmpR op_eq (pv 0) pe_int (nomark _)) (pe_tup (pa_cons pe_int (pa_cons pe_int pa_nil))) pe_int))), ?_⟩
    show WS _ [some (.int (F.p : Int))] _ _ _
    walk_at "go"
    walk_at "if"
    · intro hc
      walk_at "go"
      refine ⟨_, by simp, .cons (.int _) (.cons (.int _) .nil), fun x G3 e3 hx => ⟨rfl, ?_⟩⟩
      cases F with
      | frac => exact hx
      | rest p hp => have : (p : Int) = 0 := hc; have := hp.1; omega
    · intro hc
      walk_at "go"
      refine ⟨rfl, ?_⟩
      cases F with
      | frac => exact absurd rfl hc
      | rest p hp => exact .int 1
theorem sc_law_minus : FnScope ["_law_prime_here"] ["_law_prime_here"] (defScope s_law_minus) := ⟨rfl, rfl, rfl, by decide +kernel, rfl, by decide +kernel, by decide +kernel⟩
def R_law_minus : Rel := fun ws _ post => ∃ F : Fk, ws = [.int (F.p : Int)] ∧ post = fun v G' => Nu F G' v F.minus
theorem cal_law_minus (T : Txt K mg) : C8.Cal P w K mg base 1 "_law_minus" (Fn (SP R_law_minus)) [] := by
  refine cal_by T.d_law_minus sc_law_minus (fun vs G O R h => ?_) (fun f cdv A outer s H vs G O R E hr h => ?_)
  · obtain ⟨_, _, ⟨a, rfl, _⟩, _⟩ := h; rfl
  · obtain ⟨rfl, post, ⟨F, rfl, rfl⟩, rfl⟩ := h
    refine ⟨_, (pss_one (ps_ret (pe_ifExp (pt_cmpR op_eq (pv 0) pe_int (nomark _)) (pe_tup (pa_cons (pe_op op_sub pe_int pe_int) (pa_cons pe_int pa_nil))) (pe_op op_sub (pv 0) pe_int)))), ?_⟩
    show WS _ [some (.int (F.p : Int))] _ _ _
    walk_at "go"
    walk_at "if"
    · intro hc
      walk_at "go"
      refine ⟨_, by simp, .cons (.int _) (.cons (.int _) .nil), fun x G3 e3 hx => ⟨rfl, ?_⟩⟩
      cases F with
      | frac => exact hx
      | rest p hp => have : (p : Int) = 0 := hc; have := hp.1; omega
    · intro hc
      walk_at "go"
      refine ⟨rfl, ?_⟩
      cases F with
      | frac => exact absurd rfl hc
      | rest p hp => show Da _ _ _ _; rw [dat_minus_rest]; exact .int _
theorem sc_law_times : FnScope ["_law_prime_here", "_law_a", "_law_b"] ["_law_prime_here", "_law_a", "_law_b"] (defScope s_law_times) := ⟨rfl, rfl, rfl, by decide +kernel, rfl, by decide +kernel, by decide +kernel⟩
def R_law_times : Rel := fun ws G post => ∃ (F : Fk) (va vb : V) (a b : F.U), ws = [.int (F.p : Int), va, vb] ∧ Nu F G va a ∧ Nu F G vb b ∧ F.bd 1900 a ∧ F.bd 1900 b ∧ post = fun v G' => Nu F G' v (a * b)
theorem cal_law_times (T : Txt K mg) : C8.Cal P w K mg base 3 "_law_times" (Fn (SP R_law_times)) [] := by
  refine cal_by T.d_law_times sc_law_times (fun vs G O R h => ?_) (fun f cdv A outer s H vs G O R E hr h => ?_)
  · obtain ⟨_, _, ⟨F, va, vb, a, b, rfl, _⟩, _⟩ := h; rfl
  · obtain ⟨rfl, post, ⟨F, va, vb, a, b, rfl, ha, hb, ba, bb, rfl⟩, rfl⟩ := h
    refine ⟨_, (pss_cons (ps_if (pt_cmpR op_eq (pv 0) pe_int (nomark _))
      (pss_one (ps_ret (C8.pe_c (cal_law_lowest T) hr (by omega) rfl (pa_cons (pe_op op_mulZ (pe_ix (ixK K rfl) (pv 1) pe_int (fun _ _ => rfl)) (pe_ix (ixK K rfl) (pv 2) pe_int (fun _ _ => rfl))) (pa_cons (pe_op op_mulZ (pe_ix (ixK K rfl) (pv 1) pe_int (fun _ _ => rfl)) (pe_ix (ixK K rfl) (pv 2) pe_int (fun _ _ => rfl))) pa_nil)))))
      pss_nil)
    (pss_one (ps_ret (pe_op op_mod (pe_callTy cl_int rfl T.b_int PyProof.Rows.boot_int (pa_cons (pe_op op_mulZ (pv 1) (pv 2)) pa_nil)) (pv 0))))), ?_⟩
    show WS _ [some (.int (F.p : Int)), some (va), some (vb)] _ _ _
    walk_at "go"
    cases F with
    | frac =>
      have ba := bd_frac ba
      have bb := bd_frac bb
      walk_at "if"
      rotate_left
      · intro hc; exact absurd rfl hc
      intro _
      walk_at "go"
      refine r_atD (j := 0) (.inr (nu_frac ha)) rfl rfl fun x hx => ?_
      rw [da_int hx]
      walk_at "go"
      refine r_atD (j := 0) (.inr (nu_frac hb)) rfl rfl fun x hx => ?_
      rw [da_int hx]
      refine r_I (mulZ_w (a := 1901) (b := 1901) (lt_pow_succ ba.1) (lt_pow_succ bb.1) (by decide) (by decide) (by decide)) ?_
      walk_at "go"
      refine r_atD (j := 1) (.inr (nu_frac ha)) rfl rfl fun x hx => ?_
      rw [da_int hx]
      walk_at "go"
      refine r_atD (j := 1) (.inr (nu_frac hb)) rfl rfl fun x hx => ?_
      rw [da_int hx]
      refine r_I (mulZ_w (a := 1901) (b := 1901) (lt_pow_succ (by simpa using ba.2)) (lt_pow_succ (by simpa using bb.2)) (by decide) (by decide) (by decide)) ?_
      walk_at "go"
      refine f_p ⟨_, _, rfl, big_mul ba.1 bb.1 (by decide), big_mul (by simpa using ba.2) (by simpa using bb.2) (by decide), fun z => ?_, rfl⟩ fun v G2 e hv => ⟨rfl, nu_of_dq (fr_mul a b) hv⟩
      rcases Int.mul_eq_zero.mp z with z | z
      · exact fr_den_ne a z
      · exact fr_den_ne b z
    | rest p hp =>
      have e1 := nu_rest ha
      have e2 := nu_rest hb
      subst e1 e2
      have hp1 := hp.1
      have hp2 := hp.2.1
      have ha1 : (a : Rs p).1 < p := (a : Rs p).2.2
      have hb1 : (b : Rs p).1 < p := (b : Rs p).2.2
      walk_at "if"
      · intro hc; have : (p : Int) = 0 := hc; omega
      intro _
      walk_at "go"
      refine ⟨rfl, ?_⟩
      have : (((a : Rs p).1 : Int) * ((b : Rs p).1 : Int)) % (p : Int) = (((a : Rs p).1 * (b : Rs p).1 % p : Nat) : Int) := by rw [Int.natCast_emod, Int.natCast_mul]
      show Da _ _ (.int (((a : Rs p).1 : Int) * ((b : Rs p).1 : Int) % (p : Int))) _
      rw [this]
      exact .int _
end
/-! text P7 -/
theorem bits_lt (N : Nat) : N < 2 ^ Builtin.Int.intBits (N : Int) := by
  unfold Builtin.Int.intBits
  by_cases h : N = 0
  · subst h; decide
  · rw [if_neg (by simpa using h), Int.natAbs_natCast]; exact Nat.lt_log2_self
theorem np_next {U : Type} [Gp U] (c : U) (N t : Nat) : np c (N % 2 ^ (t + 1)) = if N / 2 ^ t % 2 = 1 then np c (N % 2 ^ t) * np c (2 ^ t) else np c (N % 2 ^ t) := by
  rw [Nat.mod_pow_succ, np_add]
  split
  · next h => rw [h, Nat.mul_one]
  · next h => rw [show N / 2 ^ t % 2 = 0 by omega, Nat.mul_zero]; exact Gp.mo _
section
variable {P : Program} {w : World} {K : PySem.W.Frag} {mg : Str → Option Value} {base : Heap}
theorem sc_law_power : FnScope ["_law_prime_here", "_law_a", "_law_exponent", "_law_base", "_law_left", "_law_out", "_law_step"] ["_law_prime_here", "_law_a", "_law_exponent"] (defScope s_law_power) := ⟨rfl, rfl, rfl, by decide +kernel, rfl, by decide +kernel, by decide +kernel⟩
def R_law_power (neg : Bool) : Rel := fun ws G post => ∃ (F : Fk) (va : V) (a : F.U) (e : Int) (n : Nat), ws = [.int (F.p : Int), va, .int e] ∧ Nu F G va a ∧ F.bd n a ∧ n * e.natAbs ≤ 900 ∧ n ≤ 900 ∧ e.natAbs < 2 ^ 40 ∧ (e < 0 → neg = true) ∧ post = fun v G' => Nu F G' v (zp a e)
theorem zp_of_neg {U : Type} [Gp U] (a : U) (e : Int) (h : e < 0) : zp a e = np a⁻¹ e.natAbs := by
  have : e = -(e.natAbs : Int) := by omega
  conv => lhs; rw [this]
  exact zp_neg a _
theorem zp_of_nn {U : Type} [Gp U] (a : U) (e : Int) (h : 0 ≤ e) : zp a e = np a e.natAbs := by
  have : e = (e.natAbs : Int) := by omega
  conv => lhs; rw [this]
  exact zp_nat a _
theorem rest_inv {p : Nat} {hp : Pr p} (a : (Fk.rest p hp).U) : np a (p - 2) = a⁻¹ := by
  have h2 := hp.1
  apply inv_of
  have h : np a (p - 1) = 1 := fermat hp a
  rw [show p - 1 = (p - 2) + 1 by omega] at h
  rw [mc]; exact h
theorem cal_none {x : Str} {st : Stmt} {N ps : List Str} (D : DefAt K mg x st ps) (sc : FnScope N ps (defScope st)) {k : Nat} : C8.Cal P w K mg base (k + 1) x (Fn (SP fun _ _ _ => False)) [] :=
  cal_by D sc (fun vs G O R h => by obtain ⟨_, _, h, _⟩ := h; exact h.elim) (fun f cdv A outer s H vs G O R E hr h => by obtain ⟨_, _, h, _⟩ := h; exact h.elim)
theorem pow_step (T : Txt K mg) {k : Nat} (hk : 3 ≤ k) {Rr : Rel} (c : C8.Cal P w K mg base k "_law_power" (Fn (SP Rr)) []) (neg : Bool) (hn : neg = true → Rr = R_law_power false) : C8.Cal P w K mg base (k + 1) "_law_power" (Fn (SP (R_law_power neg))) [] := by
  refine cal_by T.d_law_power sc_law_power (fun vs G O R h => ?_) (fun f cdv A outer s H vs G O R E hr h => ?_)
  · obtain ⟨_, _, ⟨F, va, a, e, n, rfl, _⟩, _⟩ := h; rfl
  · obtain ⟨rfl, post, ⟨F, va, a, e, n, rfl, ha, hb, he, hn9, he4, hneg, rfl⟩, rfl⟩ := h
    refine ⟨_, (pss_cons (ps_set (i := 3) sc_law_power.nd rfl (Or.inl rfl) (pv 1))
    (pss_cons (ps_set (i := 4) sc_law_power.nd rfl (Or.inl rfl) (pe_callB cl_abs rfl T.b_abs PyProof.Rows.boot_abs (pa_cons (pv 2) pa_nil)))
    (pss_cons (ps_if (PW.pt (pw_and (pt_cmpR op_eq (pv 0) pe_int (nomark _)) (pw_and1 (pt_cmpR op_lt (pv 2) pe_int (nomark _)))))
      (pss_one (ps_set (i := 3) sc_law_power.nd rfl (Or.inl rfl) (C8.pe_c (cal_law_lowest T) hr (by omega) rfl (pa_cons (pe_ix (ixK K rfl) (pv 1) pe_int (fun _ _ => rfl)) (pa_cons (pe_ix (ixK K rfl) (pv 1) pe_int (fun _ _ => rfl)) pa_nil)))))
      pss_nil)
    (pss_cons (ps_if (PW.pt (pw_and (pt_cmpR op_gt (pv 0) pe_int (nomark _)) (pw_and1 (pt_cmpR op_lt (pv 2) pe_int (nomark _)))))
      (pss_one (ps_set (i := 3) sc_law_power.nd rfl (Or.inl rfl) (C8.pe_c c hr (by omega) rfl (pa_cons (pv 0) (pa_cons (pv 1) (pa_cons (pe_op op_sub (pv 0) pe_int) pa_nil))))))
      pss_nil)
    (pss_cons (ps_set (i := 5) sc_law_power.nd rfl (Or.inl rfl) (C8.pe_c (cal_law_one T) hr (by omega) rfl (pa_cons (pv 0) pa_nil)))
    (pss_cons (ps_for PassesOwn.never rfl (pi_range1 rfl T.b_range (pa_cons (pe_bits (pv 4)) pa_nil)) (pg_name (i := 6) sc_law_power.nd rfl (Or.inl rfl))
      (pss_cons (ps_if (pt_cmpR op_eq (pe_op op_mod (pe_callTy cl_int rfl T.b_int PyProof.Rows.boot_int (pa_cons (pv 4) pa_nil)) pe_int) pe_int (nomark _))
        (pss_one (ps_set (i := 5) sc_law_power.nd rfl (Or.inl rfl) (C8.pe_c (cal_law_times T) hr (by omega) rfl (pa_cons (pv 0) (pa_cons (pv 5) (pa_cons (pv 3) pa_nil))))))
        pss_nil)
      (pss_cons (ps_set (i := 4) sc_law_power.nd rfl (Or.inl rfl) (pe_op op_fdivZ (pv 4) pe_int))
      (pss_one (ps_if (pt_cmpR op_gt (pv 4) pe_int (nomark _))
        (pss_one (ps_set (i := 3) sc_law_power.nd rfl (Or.inl rfl) (C8.pe_c (cal_law_times T) hr (by omega) rfl (pa_cons (pv 0) (pa_cons (pv 3) (pa_cons (pv 3) pa_nil))))))
        pss_nil)))))
    (pss_one (ps_ret (pv 5))))))))), ?_⟩
    show WS _ [some (.int (F.p : Int)), some (va), some (.int e), none, none, none, none] _ _ _
    have eabs : (if e < 0 then -e else e) = (e.natAbs : Int) := by split <;> omega
    -- what the loop starts from
    refine ws_seqI (fun σ G' O' => σ = [some (.int (F.p : Int)), some va, some (.int e), some va, none, none, none] ∧ O' = []) (by walk_at "go"; exact ⟨rfl, rfl⟩) ?_
    rintro σ G1 O1 e1 ⟨rfl, rfl⟩
    refine ws_seqI (fun σ G' O' => σ = [some (.int (F.p : Int)), some va, some (.int e), some va, some (.int (e.natAbs : Int)), none, none] ∧ O' = []) (by walk_at "go"; rw [eabs]; exact ⟨rfl, rfl⟩) ?_
    rintro σ G2 O2 e2 ⟨rfl, rfl⟩
    have ha := nu_up (e1.trans e2) ha
    refine ws_seqI (fun σ G' O' => ∃ vb, σ = [some (.int (F.p : Int)), some va, some (.int e), some vb, some (.int (e.natAbs : Int)), none, none] ∧ O' = [] ∧ Nu F G' va a ∧ ((vb = va ∧ (F.p ≠ 0 ∨ 0 ≤ e)) ∨ (Nu F G' vb a⁻¹ ∧ F.p = 0 ∧ e < 0))) ?_ ?_
    · walk_at "go"
      walk_at "if"
      · intro hc
        walk_at "go"
        walk_at "if"
        · intro hc2
          cases F with
          | rest p hp => have : (p : Int) = 0 := hc; have := hp.1; omega
          | frac =>
          have hb' := bd_frac hb
          walk_at "go"
          refine r_atD (j := 1) (.inr (nu_frac ha)) rfl rfl fun x hx => ?_
          rw [da_int hx]
          walk_at "go"
          refine r_atD (j := 0) (.inr (nu_frac ha)) rfl rfl fun x hx => ?_
          rw [da_int hx]
          walk_at "go"
          have hb0 : ∀ {x : Nat}, x ≤ 2 ^ n → x < 2 ^ 4000 := fun h => Nat.lt_of_le_of_lt h (Nat.pow_lt_pow_right (by decide) (by omega))
          refine f_p ⟨_, _, rfl, hb0 (by simpa using hb'.2), hb0 hb'.1, fr_num_ne a, rfl⟩ fun v G3 e3 hv => ?_
          exact ⟨_, rfl, rfl, nu_up e3 ha, .inr ⟨nu_of_dq (fr_inv a) hv, rfl, hc2⟩⟩
        · intro hc2
          walk_at "go"
          exact ⟨_, rfl, rfl, ha, .inl ⟨rfl, .inr (by omega)⟩⟩
      · intro hc
        walk_at "go"
        exact ⟨_, rfl, rfl, ha, .inl ⟨rfl, .inl (by omega)⟩⟩
    rintro σ G3 O3 e3 ⟨vb, rfl, rfl, ha, hvb⟩
    refine ws_seqI (fun σ G' O' => ∃ vb c, σ = [some (.int (F.p : Int)), some va, some (.int e), some vb, some (.int (e.natAbs : Int)), none, none] ∧ O' = [] ∧ Nu F G' vb c ∧ F.bd n c ∧ np c e.natAbs = zp a e) ?_ ?_
    · walk_at "go"
      walk_at "if"
      · intro hc
        walk_at "go"
        walk_at "if"
        · intro hc2
          cases F with
          | frac => exact absurd hc (by decide)
          | rest p hp =>
          have hp2 := hp.1
          have hp3 := hp.2.1
          obtain rfl := hn (hneg hc2)
          walk_at "go"
          have hpp : (((Fk.rest p hp).p : Int) - 2).natAbs = p - 2 := by show ((p : Int) - 2).natAbs = p - 2; omega
          refine f_p ⟨.rest p hp, _, a, _, 0, rfl, ha, trivial, by omega, by omega, by rw [hpp]; omega, fun z => ?_, rfl⟩ fun v G4 e4 hv => ?_
          · have : (p : Int) - 2 < 0 := z; omega
          · refine ⟨_, a⁻¹, rfl, rfl, ?_, Fk.bd_inv hb, (zp_of_neg a e hc2).symm⟩
            have hv : Nu _ _ _ _ := hv
            rw [zp_of_nn _ _ (by show (0 : Int) ≤ (p : Int) - 2; omega), hpp, rest_inv] at hv
            exact hv
        · intro hc2
          walk_at "go"
          rcases hvb with ⟨rfl, h⟩ | ⟨_, _, h⟩
          · exact ⟨_, a, rfl, rfl, ha, hb, (zp_of_nn a e (by omega)).symm⟩
          · omega
      · intro hc
        walk_at "go"
        rcases hvb with ⟨rfl, h⟩ | ⟨h1, h2, h3⟩
        · exact ⟨_, a, rfl, rfl, ha, hb, (zp_of_nn a e (by omega)).symm⟩
        · exact ⟨_, a⁻¹, rfl, rfl, h1, Fk.bd_inv hb, (zp_of_neg a e h3).symm⟩
    rintro σ G4 O4 e4 ⟨vb, c', rfl, rfl, hvb, hbc, hpow⟩
    walk_at "go"
    refine f_p ⟨F, rfl, rfl⟩ fun v G5 e5 hv => ?_
    have hN := bits_lt e.natAbs
    generalize hNe : e.natAbs = N at *
    clear hNe
    refine ws_seq ?_
    refine ws_for (i_range1 ?_)
    refine w_cons (w_bits ?_)
    walk_at "go"
    have hbits : Builtin.Int.intBits (N : Int) ≤ 40 := by
      unfold Builtin.Int.intBits
      by_cases h : N = 0
      · subst h; decide
      · rw [if_neg (by simpa using h), Int.natAbs_natCast]
        have := (Nat.log2_lt h).mpr he4
        omega
    refine ⟨by omega, by omega, _, _, wk_range, fun t σ G' O' => ∃ (vo vb : V) (u : Option V), σ = [some (.int (F.p : Int)), some va, some (.int e), some vb, some (.int ((N / 2 ^ t : Nat) : Int)), some vo, u] ∧ O' = [] ∧ Nu F G' vo (np c' (N % 2 ^ t)) ∧ (0 < N / 2 ^ t → Nu F G' vb (np c' (2 ^ t))), ⟨_, _, _, by rw [Nat.pow_zero, Nat.div_one], rfl, by rw [Nat.pow_zero, Nat.mod_one]; exact hv, fun _ => by rw [Nat.pow_zero]; show Nu F G5 vb (1 * c'); rw [om]; exact nu_up e5 hvb⟩, ?_, ?_⟩
    · rintro t x σ' G' O' ht e6 ⟨vo, vb, u, rfl, rfl, hvo, hvb⟩ G6 e7 rfl
      have hvo := nu_up e7 hvo
      have hvb := fun h => nu_up e7 (hvb h)
      have bo : F.bd 900 (np c' (N % 2 ^ t)) := Fk.bd_mono (Fk.bd_np hbc _) (Nat.le_trans (Nat.mul_le_mul_left _ (Nat.mod_le _ _)) he)
      have bb : 0 < N / 2 ^ t → F.bd 900 (np c' (2 ^ t)) := fun h => Fk.bd_mono (Fk.bd_np hbc _) (Nat.le_trans (Nat.mul_le_mul_left _ (by
        apply Classical.byContradiction
        intro hn
        rw [Nat.div_eq_of_lt (by omega)] at h
        omega)) he)
      have hmod : (((N / 2 ^ t : Nat) : Int)) % 2 = ((N / 2 ^ t % 2 : Nat) : Int) := by omega
      have hdiv : (((N / 2 ^ t : Nat) : Int)).fdiv 2 = ((N / 2 ^ (t + 1) : Nat) : Int) := by
        rw [Int.fdiv_eq_ediv_of_nonneg _ (by decide), Nat.pow_succ, ← Nat.div_div_eq_div_mul]; omega
      have hgt : 0 < N / 2 ^ (t + 1) → 0 < N / 2 ^ t := fun h => by
        rw [Nat.pow_succ, ← Nat.div_div_eq_div_mul] at h; omega
      refine g_name ?_
      refine ws_seqI (fun σ G' O' => ∃ vo, σ = [some (.int (F.p : Int)), some va, some (.int e), some vb, some (.int ((N / 2 ^ t : Nat) : Int)), some vo, some (.int (0 + (t : Int)))] ∧ O' = [] ∧ Nu F G' vo (np c' (N % 2 ^ (t + 1)))) ?_ ?_
      · walk_at "go"
        rw [hmod]
        walk_at "if"
        · intro hc
          have hc : N / 2 ^ t % 2 = 1 := by omega
          have hpos : 0 < N / 2 ^ t := Nat.pos_of_ne_zero fun z => by rw [z] at hc; cases hc
          walk_at "go"
          refine f_p ⟨F, _, _, _, _, rfl, hvo, hvb hpos, Fk.bd_mono bo (by decide), Fk.bd_mono (bb hpos) (by decide), rfl⟩ fun v G7 e8 hv7 => ?_
          exact ⟨_, rfl, rfl, by rw [np_next, if_pos hc]; exact hv7⟩
        · intro hc
          have hc : ¬ N / 2 ^ t % 2 = 1 := by omega
          walk_at "go"
          exact ⟨_, rfl, rfl, by rw [np_next, if_neg hc]; exact hvo⟩
      · rintro σ G7 O7 e8 ⟨vo, rfl, rfl, hvo⟩
        walk_at "go"
        rw [hdiv]
        walk_at "if"
        · intro hc
          have hc : 0 < N / 2 ^ (t + 1) := by omega
          walk_at "go"
          have hb2 := nu_up e8 (hvb (hgt hc))
          have bb2 := Fk.bd_mono (bb (hgt hc)) (show 900 ≤ 1900 by decide)
          refine f_p ⟨F, _, _, _, _, rfl, hb2, hb2, bb2, bb2, rfl⟩ fun v G8 e9 hv8 => ?_
          refine ⟨_, _, _, rfl, rfl, nu_up e9 hvo, fun _ => ?_⟩
          have hv8 : Nu F G8 v (np c' (2 ^ t) * np c' (2 ^ t)) := hv8
          rw [← np_add, ← Nat.two_mul, Nat.mul_comm, ← Nat.pow_succ] at hv8
          exact hv8
        · intro hc
          walk_at "go"
          exact ⟨_, _, _, rfl, rfl, hvo, fun h => absurd (by omega) hc⟩
    · rintro σ' G' O' e6 ⟨vo, vb, u, rfl, rfl, hvo, _⟩
      walk_at "go"
      refine ⟨rfl, ?_⟩
      have hb : (Builtin.Int.intBits (N : Int) : Int).toNat = Builtin.Int.intBits (N : Int) := Int.toNat_natCast _
      rw [hb, Nat.mod_eq_of_lt hN, hpow] at hvo
      exact hvo
theorem cal_law_power (T : Txt K mg) : C8.Cal P w K mg base 5 "_law_power" (Fn (SP (R_law_power true))) [] :=
  pow_step T (by decide) (pow_step (k := 3) T (by decide) (cal_none T.d_law_power sc_law_power) false (fun h => by cases h)) true fun _ => rfl
end
/-! text P8 -/
section
variable {P : Program} {w : World} {K : PySem.W.Frag} {mg : Str → Option Value} {base : Heap}
theorem nu_low {G : Hp} {v : V} {t b : Int} (ht : t ≠ 0) (hb : b ≠ 0) (ht2 : t.natAbs ≤ 16) (hb2 : b.natAbs ≤ 16) (h : Da G [] v (dq (Rat.divInt t b))) : ∃ u : Fk.frac.U, Nu .frac G v u ∧ Fk.bd .frac 4 u :=
  ⟨⟨Rat.divInt t b, divInt_ne ht hb⟩, nu_of_dq (a := ⟨Rat.divInt t b, divInt_ne ht hb⟩) rfl h, Nat.le_trans (divInt_le hb).1 ht2, Nat.le_trans (divInt_le hb).2 hb2⟩
theorem nu_res {G : Hp} {i : Int} {p : Nat} {hp : Pr p} (h0 : 0 < i) (h1 : i < p) : ∃ u : (Fk.rest p hp).U, Nu (.rest p hp) G (.int i) u ∧ Fk.bd (.rest p hp) 4 u := by
  refine ⟨(⟨i.toNat, by omega, by omega⟩ : Rs p), ?_, trivial⟩
  show Da _ _ _ (.int ((i.toNat : Nat) : Int))
  rw [Int.toNat_of_nonneg (by omega)]
  exact .int i
theorem small_big {i : Int} (h : i.natAbs ≤ 20000) : big i := Nat.lt_of_le_of_lt h (by
  have : 20000 < 2 ^ 15 := by decide
  exact Nat.lt_trans this (Nat.pow_lt_pow_right (by decide) (by decide)))
theorem sc_law_number : FnScope ["_law_hand_here", "_law_prime_here", "_law_pick", "_law_top", "_law_bottom"] ["_law_hand_here", "_law_prime_here"] (defScope s_law_number) := ⟨rfl, rfl, rfl, by decide +kernel, rfl, by decide +kernel, by decide +kernel⟩
def R_law_number : Rel := fun ws _ post => ∃ F : Fk, ws = [.int (F.p : Int)] ∧ post = fun v G' => ∃ u, Nu F G' v u ∧ F.bd 4 u
theorem cal_law_number (T : Txt K mg) : C8.Cal P w K mg base 3 "_law_number" (Fn (SH R_law_number)) [] := by
  refine cal_by T.d_law_number sc_law_number (fun vs G O R h => ?_) (fun f cdv A outer s H vs G O R E hr h => ?_)
  · obtain ⟨_, _, _, rfl, _, _, _, ⟨F, rfl, _⟩, _⟩ := h; rfl
  · obtain ⟨h, o, _, rfl, rfl, ho, post, ⟨F, rfl, rfl⟩, rfl⟩ := h
    refine ⟨_, (pss_cons (ps_set (i := 2) sc_law_number.nd rfl (Or.inl rfl) (C8.pe_c (cal_law_draw T) hr (by omega) rfl (pa_cons (pv 0) (pa_cons pe_int pa_nil))))
    (pss_cons (ps_if (pt_cmpR op_eq (pv 2) pe_int (nomark _))
      (pss_one (ps_ret (C8.pe_c (cal_law_one T) hr (by omega) rfl (pa_cons (pv 1) pa_nil))))
      pss_nil)
    (pss_cons (ps_if (pt_cmpR op_eq (pv 2) pe_int (nomark _))
      (pss_one (ps_ret (C8.pe_c (cal_law_minus T) hr (by omega) rfl (pa_cons (pv 1) pa_nil))))
      pss_nil)
    (pss_cons (ps_if (pt_cmpR op_gt (pv 1) pe_int (nomark _))
      (pss_one (ps_ret (pe_op op_add pe_int (C8.pe_c (cal_law_draw T) hr (by omega) rfl (pa_cons (pv 0) (pa_cons (pe_op op_sub (pv 1) pe_int) pa_nil))))))
      pss_nil)
    (pss_cons (ps_set (i := 3) sc_law_number.nd rfl (Or.inl rfl) (pe_op op_add pe_int (C8.pe_c (cal_law_draw T) hr (by omega) rfl (pa_cons (pv 0) (pa_cons pe_int pa_nil)))))
    (pss_cons (ps_set (i := 4) sc_law_number.nd rfl (Or.inl rfl) (pe_op op_add pe_int (C8.pe_c (cal_law_draw T) hr (by omega) rfl (pa_cons (pv 0) (pa_cons pe_int pa_nil)))))
    (pss_cons (ps_if (pt_cmpR op_eq (C8.pe_c (cal_law_draw T) hr (by omega) rfl (pa_cons (pv 0) (pa_cons pe_int pa_nil))) pe_int (nomark _))
      (pss_one (ps_set (i := 3) sc_law_number.nd rfl (Or.inl rfl) (pe_op op_sub pe_int (pv 3))))
      pss_nil)
    (pss_one (ps_ret (C8.pe_c (cal_law_lowest T) hr (by omega) rfl (pa_cons (pv 3) (pa_cons (pv 4) pa_nil)))))))))))), ?_⟩
    show WS _ [some (.ref h), some (.int (F.p : Int)), none, none, none] _ _ _
    walk_at "go"
    refine f_h ho ⟨_, rfl, by decide, by decide, rfl⟩ fun v G2 o2 e ho2 hk => ?_
    obtain ⟨k, rfl, hk0, hk1⟩ := hk
    walk_at "go"
    walk_at "if"
    · intro _
      walk_at "go"
      exact f_p ⟨F, rfl, rfl⟩ fun v G3 e3 hv => ⟨_, rfl, hd_up e3 ho2, 1, hv, Fk.bd_mono Fk.bd_one (by decide)⟩
    intro _
    walk_at "go"
    walk_at "if"
    · intro _
      walk_at "go"
      exact f_p ⟨F, rfl, rfl⟩ fun v G3 e3 hv => ⟨_, rfl, hd_up e3 ho2, F.minus, hv, Fk.bd_mono Fk.bd_minus (by decide)⟩
    intro _
    walk_at "go"
    walk_at "if"
    · intro hc
      cases F with
      | frac => exact absurd hc (by decide)
      | rest p hp =>
      have hp1 := hp.1
      have hp2 := hp.2.1
      have ep : ((Fk.rest p hp).p : Int) = p := rfl
      walk_at "go"
      refine f_h ho2 ⟨_, rfl, by omega, by omega, rfl⟩ fun v G3 o3 e3 ho3 hk => ?_
      obtain ⟨j, rfl, hj0, hj1⟩ := hk
      walk_at "go"
      exact ⟨_, rfl, ho3, nu_res (by omega) (by omega)⟩
    · intro hc
      cases F with
      | rest p hp => have := hp.1; have hc : ¬ (0 : Int) < (p : Int) := hc; omega
      | frac =>
      walk_at "go"
      refine f_h ho2 ⟨_, rfl, by decide, by decide, rfl⟩ fun v G3 o3 e3 ho3 hk => ?_
      obtain ⟨t, rfl, ht0, ht1⟩ := hk
      walk_at "go"
      refine f_h ho3 ⟨_, rfl, by decide, by decide, rfl⟩ fun v G4 o4 e4 ho4 hk => ?_
      obtain ⟨b, rfl, hb0, hb1⟩ := hk
      refine r_I0 ?_
      refine ws_seqI (fun σ G' O' => ∃ (t' : Int) (u : Option V) (o5 : HO), σ = [some (.ref h), some (.int ((Fk.frac).p : Int)), u, some (.int t'), some (.int (1 + b))] ∧ O' = [(h, o5)] ∧ HdOk G' o5 ∧ t' ≠ 0 ∧ t'.natAbs ≤ 16) ?_ ?_
      · walk_at "go"
        refine f_h ho4 ⟨_, rfl, by decide, by decide, rfl⟩ fun v G5 o5 e5 ho5 hk => ?_
        obtain ⟨z, rfl, hz⟩ := hk
        walk_at "go"
        walk_at "if"
        · intro _
          walk_at "go"
          exact ⟨_, _, _, rfl, rfl, ho5, by omega, by omega⟩
        · intro _
          walk_at "go"
          exact ⟨_, _, _, rfl, rfl, ho5, by omega, by omega⟩
      · rintro σ G5 O5 e5 ⟨t', u, o5, rfl, rfl, ho5, h1, h2⟩
        walk_at "go"
        exact f_p ⟨_, _, rfl, small_big (by omega), small_big (by omega), by omega, rfl⟩ fun v G6 e6 hv => ⟨_, rfl, hd_up e6 ho5, nu_low h1 (by omega) h2 (by omega) hv⟩
theorem sc_law_moving : FnScope ["_law_hand_here", "_law_prime_here"] ["_law_hand_here", "_law_prime_here"] (defScope s_law_moving) := ⟨rfl, rfl, rfl, by decide +kernel, rfl, by decide +kernel, by decide +kernel⟩
theorem cal_law_moving (T : Txt K mg) : C8.Cal P w K mg base 3 "_law_moving" (Fn (SH R_law_number)) [] := by
  refine cal_by T.d_law_moving sc_law_moving (fun vs G O R h => ?_) (fun f cdv A outer s H vs G O R E hr h => ?_)
  · obtain ⟨_, _, _, rfl, _, _, _, ⟨F, rfl, _⟩, _⟩ := h; rfl
  · obtain ⟨h, o, _, rfl, rfl, ho, post, ⟨F, rfl, rfl⟩, rfl⟩ := h
    refine ⟨_, (pss_cons (ps_if (pt_cmpR op_eq (pv 1) pe_int (nomark _))
      (pss_one (ps_ret (C8.pe_c (cal_law_lowest T) hr (by omega) rfl (pa_cons (pe_op op_add pe_int (C8.pe_c (cal_law_draw T) hr (by omega) rfl (pa_cons (pv 0) (pa_cons pe_int pa_nil)))) (pa_cons pe_int pa_nil)))))
      pss_nil)
    (pss_cons (ps_if (pt_cmpR op_eq (pv 1) pe_int (nomark _))
      (pss_one (ps_ret pe_int))
      pss_nil)
    (pss_one (ps_ret (pe_op op_add pe_int (C8.pe_c (cal_law_draw T) hr (by omega) rfl (pa_cons (pv 0) (pa_cons (pe_op op_sub (pv 1) pe_int) pa_nil)))))))), ?_⟩
    show WS _ [some (.ref h), some (.int (F.p : Int))] _ _ _
    walk_at "go"
    walk_at "if"
    · intro hc
      cases F with
      | rest p hp => have := hp.1; have hc : (p : Int) = 0 := hc; omega
      | frac =>
      walk_at "go"
      refine f_h ho ⟨_, rfl, by decide, by decide, rfl⟩ fun v G3 o3 e3 ho3 hk => ?_
      obtain ⟨t, rfl, ht0, ht1⟩ := hk
      walk_at "go"
      exact f_p ⟨_, _, rfl, small_big (by omega), small_big (by omega), by omega, rfl⟩ fun v G6 e6 hv => ⟨_, rfl, hd_up e6 ho3, nu_low (by omega) (by omega) (by omega) (by omega) hv⟩
    intro hc
    cases F with
    | frac => exact absurd rfl hc
    | rest p hp =>
    have hp1 := hp.1
    have hp2 := hp.2.1
    have ep : ((Fk.rest p hp).p : Int) = p := rfl
    walk_at "go"
    walk_at "if"
    · intro hc2
      walk_at "go"
      exact ⟨_, rfl, ho, nu_res (by omega) (by omega)⟩
    · intro hc2
      walk_at "go"
      refine f_h ho ⟨_, rfl, by omega, by omega, rfl⟩ fun v G3 o3 e3 ho3 hk => ?_
      obtain ⟨j, rfl, hj0, hj1⟩ := hk
      walk_at "go"
      exact ⟨_, rfl, ho3, nu_res (by omega) (by omega)⟩
theorem sc_law_is_number : FnScope ["_law_prime_here", "_law_thing"] ["_law_prime_here", "_law_thing"] (defScope s_law_is_number) := ⟨rfl, rfl, rfl, by decide +kernel, rfl, by decide +kernel, by decide +kernel⟩
def R_law_is_number : Rel := fun ws G post => ∃ (F : Fk) (va : V) (a : F.U), ws = [.int (F.p : Int), va] ∧ Nu F G va a ∧ F.bd 1900 a ∧ post = fun v _ => v = .bl true
theorem cal_law_is_number (T : Txt K mg) : C8.Cal P w K mg base 2 "_law_is_number" (Fn (SP R_law_is_number)) [] := by
  refine cal_by T.d_law_is_number sc_law_is_number (fun vs G O R h => ?_) (fun f cdv A outer s H vs G O R E hr h => ?_)
  · obtain ⟨_, _, ⟨F, va, a, rfl, _⟩, _⟩ := h; rfl
  · obtain ⟨rfl, post, ⟨F, va, a, rfl, ha, hb, rfl⟩, rfl⟩ := h
    refine ⟨_, (pss_cons (ps_if (pt_cmpR op_gt (pv 0) pe_int (nomark _))
      (pss_one (ps_ret (pe_and (C8.pe_c (cal_law_whole T) hr (by omega) rfl (pa_cons (pv 1) pa_nil)) (pe_one (pe_chain op_le op_lt pe_int (pv 1) (pv 0))))))
      pss_nil)
    (pss_cons (ps_if (PW.pt (pw_or (pt_not (pt_val (pe_callB (isiK K rfl) rfl T.b_isinstance PyProof.Rows.boot_isinstance (pa_cons (pv 1) (pa_cons (pe_bltn (v := .ty "tuple") rfl T.b_tuple PyProof.Rows.boot_tuple rfl) pa_nil))))) (pw_or (pt_cmpR op_ne (pe_callB (lenK K rfl) rfl T.b_len PySem.boot_len (pa_cons (pv 1) pa_nil)) pe_int (nomark _)) (pw_or (pt_not (pt_val (C8.pe_c (cal_law_whole T) hr (by omega) rfl (pa_cons (pe_ix (ixK K rfl) (pv 1) pe_int (fun _ _ => rfl)) pa_nil)))) (pw_or1 (pt_not (pt_val (C8.pe_c (cal_law_whole T) hr (by omega) rfl (pa_cons (pe_ix (ixK K rfl) (pv 1) pe_int (fun _ _ => rfl)) pa_nil)))))))))
      (pss_one (ps_ret pe_bl))
      pss_nil)
    (pss_one (ps_ret (pe_and (pe_cmpR op_gt (pe_ix (ixK K rfl) (pv 1) pe_int (fun _ _ => rfl)) pe_int (nomark _)) (pe_one (pe_cmpR op_eq (C8.pe_c (cal_law_divisor T) hr (by omega) rfl (pa_cons (pe_ix (ixK K rfl) (pv 1) pe_int (fun _ _ => rfl)) (pa_cons (pe_ix (ixK K rfl) (pv 1) pe_int (fun _ _ => rfl)) pa_nil))) pe_int (nomark _)))))))), ?_⟩
    show WS _ [some (.int (F.p : Int)), some (va)] _ _ _
    walk_at "go"
    walk_at "if"
    · intro hc
      cases F with
      | frac => exact absurd hc (by decide)
      | rest p hp =>
      have e1 := nu_rest ha
      subst e1
      have ha0 : 0 < (a : Rs p).1 := (a : Rs p).2.1
      have ha1 : (a : Rs p).1 < p := (a : Rs p).2.2
      have ep : ((Fk.rest p hp).p : Int) = p := rfl
      walk_at "go"
      refine f_p ⟨_, rfl, rfl⟩ fun v G2 e hv => ?_
      subst hv
      walk_at "go"
      walk_at "if"
      · intro _
        walk_at "go"
        refine ⟨rfl, ?_⟩
        rw [decide_eq_true (by omega)]
      · intro hc2; omega
    · intro hc
      cases F with
      | rest p hp => have := hp.1; have hc : ¬ (0 : Int) < (p : Int) := hc; omega
      | frac =>
      obtain ⟨pa, xs, rfl, hp, hd⟩ := da_tup (nu_frac ha)
      have hl := daAll_len hd
      have hl : xs.length = 2 := hl
      walk_at "go"
      refine r_len (.inl hp) ?_
      rw [hl]
      walk_at "go"
      refine cj_ni (fun h => absurd rfl h) fun _ => ?_
      walk_at "go"
      refine r_atD (j := 0) (.inr (nu_frac ha)) rfl rfl fun x hx => ?_
      rw [da_int hx]
      walk_at "go"
      refine f_p ⟨_, rfl, rfl⟩ fun v G2 e hv => ?_
      subst hv
      walk_at "go"
      have ha := nu_up e ha
      refine r_atD (j := 1) (.inr (nu_frac ha)) rfl rfl fun x hx => ?_
      rw [da_int hx]
      walk_at "go"
      refine f_p ⟨_, rfl, rfl⟩ fun v G3 e3 hv => ?_
      subst hv
      have ha := nu_up e3 ha
      walk_at "go"
      refine r_atD (j := 1) (.inr (nu_frac ha)) rfl rfl fun x hx => ?_
      rw [da_int hx]
      walk_at "go"
      have hpos := (a : Fr).1.den_pos
      walk_at "if"
      · intro _
        walk_at "go"
        refine r_atD (j := 0) (.inr (nu_frac ha)) rfl rfl fun x hx => ?_
        rw [da_int hx]
        walk_at "go"
        refine r_atD (j := 1) (.inr (nu_frac ha)) rfl rfl fun x hx => ?_
        rw [da_int hx]
        walk_at "go"
        have hb' := bd_frac hb
        have hb0 : ∀ {x : Nat}, x ≤ 2 ^ 1900 → x < 2 ^ 4000 := fun h => Nat.lt_of_le_of_lt h (Nat.pow_lt_pow_right (by decide) (by decide))
        refine f_p ⟨_, _, rfl, hb0 hb'.1, hb0 (by simpa using hb'.2), rfl⟩ fun v G4 e4 hv => ?_
        subst hv
        walk_at "go"
        refine ⟨rfl, ?_⟩
        have hg : Int.gcd (a : Fr).1.num ((a : Fr).1.den : Int) = 1 := (a : Fr).1.reduced
        rw [hg]
        rfl
      · intro hc2; omega
theorem sc_law_same : FnScope ["_law_prime_here", "_law_thing", "_law_due"] ["_law_prime_here", "_law_thing", "_law_due"] (defScope s_law_same) := ⟨rfl, rfl, rfl, by decide +kernel, rfl, by decide +kernel, by decide +kernel⟩
def R_law_same : Rel := fun ws G post => ∃ (F : Fk) (va vb : V) (a b : F.U), ws = [.int (F.p : Int), va, vb] ∧ Nu F G va a ∧ Nu F G vb b ∧ F.bd 1900 a ∧ post = fun v _ => v = .bl (decide (a = b))
theorem cal_law_same (T : Txt K mg) : C8.Cal P w K mg base 3 "_law_same" (Fn (SP R_law_same)) [] := by
  refine cal_by T.d_law_same sc_law_same (fun vs G O R h => ?_) (fun f cdv A outer s H vs G O R E hr h => ?_)
  · obtain ⟨_, _, ⟨F, va, vb, a, b, rfl, _⟩, _⟩ := h; rfl
  · obtain ⟨rfl, post, ⟨F, va, vb, a, b, rfl, ha, hb, ba, rfl⟩, rfl⟩ := h
    refine ⟨_, (pss_one (ps_ret (pe_and (C8.pe_c (cal_law_is_number T) hr (by omega) rfl (pa_cons (pv 0) (pa_cons (pv 1) pa_nil))) (pe_one (pe_cmpR (eqDK K rfl hr.units) (pv 1) (pv 2) (nomark _)))))), ?_⟩
    show WS _ [some (.int (F.p : Int)), some (va), some (vb)] _ _ _
    walk_at "go"
    refine f_p ⟨F, va, a, rfl, ha, ba, rfl⟩ fun v G2 e hv => ?_
    subst hv
    walk_at "go"
    exact r_eqN (nu_up e ha) (nu_up e hb) ⟨rfl, rfl⟩
end
/-! text P9 -/
section
variable {P : Program} {w : World} {K : PySem.W.Frag} {mg : Str → Option Value} {base : Heap}
theorem sc_law_tree : FnScope ["_law_picture_here", "_law_points", "_law_shuts", "_law_pairs", "_law_marks", "_law_tree_here", "_law_place", "_law_one_here", "_law_other", "_law_mark"] ["_law_picture_here"] (defScope s_law_tree) := ⟨rfl, rfl, rfl, by decide +kernel, rfl, by decide +kernel, by decide +kernel⟩
theorem dnats_map {l : List Nat} (f : Nat → Nat) : (List.range l.length).map (fun i => PyData.int ((f (l.getD i 0) : Nat) : Int)) = dnats (l.map f) := by
  refine List.ext_getElem (by simp [dnats]) fun i h1 h2 => ?_
  simp only [List.getElem_map, List.getElem_range, dnats]
  have hi : i < l.length := by simpa using h1
  rw [List.getD_eq_getElem?_getD, List.getElem?_eq_getElem hi]; rfl
theorem tr2_len {pick : Nat → Nat → Nat} {n m : Nat} {ps : List (Nat × Nat)} (i : Nat) : (tr pick n m ps i).2.length ≤ i := by
  induction i with
  | zero => exact Nat.le_refl _
  | succ i ih =>
    rw [tr2_succ]
    split
    · omega
    · rw [List.length_append]; simp; exact ih
theorem dn_of {l : List Nat} {i : Nat} {d : PyData} {G : Hp} {y : V} (h : (dnats l)[i]? = some d) (hy : Da G [] y d) : i < l.length ∧ y = .int (l.getD i 0 : Nat) := by
  have hi : i < l.length := by
    obtain ⟨h1, _⟩ := List.getElem?_eq_some_iff.mp h
    simpa [dnats] using h1
  rw [dn_get hi] at h
  cases h
  exact ⟨hi, da_int hy⟩
theorem dn_len {l : List Nat} : (dnats l).length = l.length := by simp [dnats]
def R_law_tree : Rel := fun ws G post => ∃ (n m : Nat) (ps : List (Nat × Nat)) (v0 : V), PW n m ps ∧ ws = [v0] ∧ Da G [] v0 (dpic n m ps) ∧ post = fun v G' => Da G' [] v (.list [.list (dnats (tree n m ps)), .list (dnats (tr pmin n m ps ps.length).1)])
theorem cal_law_tree (T : Txt K mg) : C8.Cal P w K mg base 1 "_law_tree" (Fn (SP R_law_tree)) [] := by
  refine cal_by T.d_law_tree sc_law_tree (fun vs G O R h => ?_) (fun f cdv A outer s H vs G O R E hr h => ?_)
  · obtain ⟨_, _, ⟨_, _, _, _, _, rfl, _⟩, _⟩ := h; rfl
  · obtain ⟨rfl, post, ⟨n, m, ps, v0, pw, rfl, hv0, rfl⟩, rfl⟩ := h
    refine ⟨_, (pss_cons (ps_asg (pv 0) (pg_lstK K rfl (n := 3) rfl (pgs_cons (pg_name (i := 1) sc_law_tree.nd rfl (Or.inl rfl)) (pgs_cons (pg_name (i := 2) sc_law_tree.nd rfl (Or.inl rfl)) (pgs_cons (pg_name (i := 3) sc_law_tree.nd rfl (Or.inl rfl)) pgs_nil)))))
    (pss_cons (ps_set (i := 4) sc_law_tree.nd rfl (Or.inl rfl) (pe_listRg rfl rfl T.b_list (prg_1 rfl T.b_range (pe_op op_add (pv 1) (pv 2)))))
    (pss_cons (ps_set (i := 5) sc_law_tree.nd rfl (Or.inl rfl) (pe_lst pa_nil))
    (pss_cons (ps_for PassesOwn.never rfl (pi_range1 rfl T.b_range (pa_cons (pe_callB (lenK K rfl) rfl T.b_len PySem.boot_len (pa_cons (pv 3) pa_nil)) pa_nil)) (pg_name (i := 6) sc_law_tree.nd rfl (Or.inl rfl))
      (pss_cons (ps_set (i := 7) sc_law_tree.nd rfl (Or.inr rfl) (pe_ix (ixK K rfl) (pv 4) (pe_ix (ixK K rfl) (pe_ix (ixK K rfl) (pv 3) (pv 6) (fun _ _ => rfl)) pe_int (fun _ _ => rfl)) (fun _ _ => rfl)))
      (pss_cons (ps_set (i := 8) sc_law_tree.nd rfl (Or.inr rfl) (pe_ix (ixK K rfl) (pv 4) (pe_op op_add (pv 1) (pe_ix (ixK K rfl) (pe_ix (ixK K rfl) (pv 3) (pv 6) (fun _ _ => rfl)) pe_int (fun _ _ => rfl))) (fun _ _ => rfl)))
      (pss_one (ps_if (pt_cmpR op_ne (pv 7) (pv 8) (nomark _))
        (pss_cons (ps_expr (pe_bm PySem.F.plainAttrs_list PySem.F.slot_list_append PySem.F.type_list_append mt_append (pv 5) (pa_cons (pv 6) pa_nil)))
        (pss_one (ps_setLc (i := 4) (own := [("_law_mark", 9)]) rfl sc_law_tree.nd rfl rfl (sw_true rfl rfl rfl (by decide +kernel)) (pi_listK K rfl (pv 4)) (blkOk_by (N := ["_law_picture_here", "_law_points", "_law_shuts", "_law_pairs", "_law_marks", "_law_tree_here", "_law_place", "_law_one_here", "_law_other", "_law_mark"]) (sc := defScope s_law_tree) (by decide +kernel)) (fun _ _ _ _ _ => (pg_name (i := 9) sc_law_tree.nd rfl (Or.inl rfl))) (fun _ _ _ _ _ => pts_nil) (fun _ _ _ _ _ => (pe_ifExp (pt_cmpR (inK K rfl) (pv 9) (pe_tup (pa_cons (pv 7) (pa_cons (pv 8) pa_nil))) (by with_unfolding_all rfl)) (pe_callB (cl_min2 rfl) rfl T.b_min PyProof.Rows.boot_min (pa_cons (pv 7) (pa_cons (pv 8) pa_nil))) (pv 9))))))
        pss_nil)))))
    (pss_one (ps_ret (pe_lst (pa_cons (pv 5) (pa_cons (pv 4) pa_nil))))))))), ?_⟩
    show WS _ [some (v0), none, none, none, none, none, none, none, none, none] _ _ _
    walk_at "go"
    refine g_lstD hv0 rfl fun xs hxs => ?_
    obtain ⟨vn, vm, vp, rfl, hn, hm, hvp⟩ := da3 hxs
    rw [da_int hn, da_int hm]
    refine g_cons (g_name (g_cons (g_name (g_cons (g_name (g_nil ?_))))))
    refine ws_seq (ws_set (w_listRg ?_))
    walk_at "go"
    have n5 := pw.n5
    have m5 := pw.m5
    have l25 := pw.len
    refine ⟨n + m, by rw [Int.natCast_add], by omega, fun v1 G1 e1 hv1 => ?_⟩
    refine ws_seq (ws_set (w_lst ?_))
    walk_at "go"
    refine ⟨by decide, fun tp htp => ?_⟩
    walk_at "go"
    have hvp1 := Da.up e1 hvp
    refine ws_for (i_range1 ?_)
    walk_at "go"
    refine r_lenD (.inl hvp1) ?_
    rw [List.length_map]
    walk_at "go"
    refine ⟨by omega, by omega, _, _, wk_range0, fun i σ G' O' => ∃ (vm : V) (u1 u2 u3 u4 : Option V), σ = [some v0, some (.int (n : Int)), some (.int (m : Int)), some vp, some vm, some (.ref tp), u1, u2, u3, u4] ∧ O' = [(tp, .lst ((tr pmin n m ps i).2.map fun x : Nat => V.int (x : Int)))] ∧ Da G' [] vm (.list (dnats (tr pmin n m ps i).1)),
      ⟨_, _, _, _, _, rfl, rfl, hv1⟩, ?_, ?_⟩
    · rintro i x σ' G' O' hi e2 ⟨vm, u1, u2, u3, u4, rfl, rfl, hvm⟩ G2 e3 rfl
      have hi : i < ps.length := by omega
      have hvp2 := Da.up (e2.trans e3) hvp1
      have hvm := Da.up e3 hvm
      have hin := pa_in pw hi
      walk_at "go"
      refine r_atD (j := i) (.inl hvp2) (pa_get hi) (by omega) fun x hx => ?_
      walk_at "go"
      refine r_atD (j := 0) (.inr hx) rfl rfl fun y hy => ?_
      rw [da_int hy]
      refine r_atD (j := (pa ps i).1) (.inl hvm) (dn_get (by rw [tr_len]; omega)) rfl fun y hy => ?_
      rw [da_int hy]
      walk_at "go"
      refine r_atD (j := i) (.inl hvp2) (pa_get hi) (by omega) fun x hx => ?_
      walk_at "go"
      refine r_atD (j := 1) (.inr hx) rfl rfl fun y hy => ?_
      rw [da_int hy]
      walk_at "go"
      refine r_atD (j := n + (pa ps i).2) (.inl hvm) (dn_get (by rw [tr_len]; omega)) (by rw [Int.natCast_add]) fun y hy => ?_
      rw [da_int hy]
      walk_at "go"
      have hs := tr_succ pmin n m ps i
      walk_at "if"
      · intro hc
        have hc : (tr pmin n m ps i).1.getD (pa ps i).1 0 ≠ (tr pmin n m ps i).1.getD (n + (pa ps i).2) 0 := by omega
        have hs2 : tr pmin n m ps (i + 1) = ((tr pmin n m ps i).1.map (fun x => if x = (tr pmin n m ps i).1.getD (pa ps i).1 0 ∨ x = (tr pmin n m ps i).1.getD (n + (pa ps i).2) 0 then pmin ((tr pmin n m ps i).1.getD (pa ps i).1 0) ((tr pmin n m ps i).1.getD (n + (pa ps i).2) 0) else x), (tr pmin n m ps i).2 ++ [i]) := by rw [hs, tstep]; exact if_neg hc
        refine ws_seq (ws_drop (w_append ?_))
        walk_at "go"
        refine ⟨0, tp, _, rfl, rfl, ?_⟩
        walk_at "go"
        refine ⟨rfl, ?_, ?_⟩
        · rw [List.length_map]
          have := tr2_len (pick := pmin) (n := n) (m := m) (ps := ps) i
          omega
        · refine ws_set (w_lcLm ?_)
          walk_at "go"
          refine ⟨_, by rw [dn_len, tr_len]; omega, hvm, fun j => PyData.int ((if (tr pmin n m ps i).1.getD j 0 = (tr pmin n m ps i).1.getD (pa ps i).1 0 ∨ (tr pmin n m ps i).1.getD j 0 = (tr pmin n m ps i).1.getD (n + (pa ps i).2) 0 then pmin ((tr pmin n m ps i).1.getD (pa ps i).1 0) ((tr pmin n m ps i).1.getD (n + (pa ps i).2) 0) else (tr pmin n m ps i).1.getD j 0 : Nat) : Int), ?_, ?_⟩
          · intro j y d G3 hd e4 hy
            obtain ⟨hj, rfl⟩ := dn_of hd hy
            refine ⟨rfl, ?_⟩
            walk_at "go"
            refine ⟨_, by simp, .cons (.int _) (.cons (.int _) .nil), fun x G4 e5 hx => ?_⟩
            obtain ⟨tp, xs, rfl, hx1, hx2⟩ := da_tup hx
            obtain ⟨a, b, rfl, ha, hb⟩ := da2 hx2
            rw [da_int ha, da_int hb] at hx1
            refine r_in (.inl hx1) rfl rfl ?_
            rw [inV_2]
            walk_at "go"
            refine cj_d (fun hc2 => ?_) (fun hc2 => ?_)
            · walk_at "go"
              refine ⟨rfl, ?_⟩
              have hcond : (tr pmin n m ps i).1.getD j 0 = (tr pmin n m ps i).1.getD (pa ps i).1 0 ∨ (tr pmin n m ps i).1.getD j 0 = (tr pmin n m ps i).1.getD (n + (pa ps i).2) 0 := by omega
              show Da _ _ _ (PyData.int ((if (tr pmin n m ps i).1.getD j 0 = (tr pmin n m ps i).1.getD (pa ps i).1 0 ∨ (tr pmin n m ps i).1.getD j 0 = (tr pmin n m ps i).1.getD (n + (pa ps i).2) 0 then pmin ((tr pmin n m ps i).1.getD (pa ps i).1 0) ((tr pmin n m ps i).1.getD (n + (pa ps i).2) 0) else (tr pmin n m ps i).1.getD j 0 : Nat) : Int))
              rw [if_pos hcond]
              unfold pmin
              split
              · rw [if_pos (by omega)]; exact .int _
              · rw [if_neg (by omega)]; exact .int _
            · walk_at "go"
              refine ⟨rfl, ?_⟩
              have hcond : ¬ ((tr pmin n m ps i).1.getD j 0 = (tr pmin n m ps i).1.getD (pa ps i).1 0 ∨ (tr pmin n m ps i).1.getD j 0 = (tr pmin n m ps i).1.getD (n + (pa ps i).2) 0) := by omega
              show Da _ _ _ (PyData.int ((if (tr pmin n m ps i).1.getD j 0 = (tr pmin n m ps i).1.getD (pa ps i).1 0 ∨ (tr pmin n m ps i).1.getD j 0 = (tr pmin n m ps i).1.getD (n + (pa ps i).2) 0 then pmin ((tr pmin n m ps i).1.getD (pa ps i).1 0) ((tr pmin n m ps i).1.getD (n + (pa ps i).2) 0) else (tr pmin n m ps i).1.getD j 0 : Nat) : Int))
              rw [if_neg hcond]
              exact .int _
          · intro p G3 e4 hp
            refine ⟨_, _, _, _, _, rfl, ?_, ?_⟩
            · rw [hs2, List.map_append]; rfl
            · rw [hs2]
              rw [dn_len] at hp
              rw [dnats_map (fun x => if x = (tr pmin n m ps i).1.getD (pa ps i).1 0 ∨ x = (tr pmin n m ps i).1.getD (n + (pa ps i).2) 0 then pmin ((tr pmin n m ps i).1.getD (pa ps i).1 0) ((tr pmin n m ps i).1.getD (n + (pa ps i).2) 0) else x)] at hp
              exact hp
      · intro hc
        have hc : (tr pmin n m ps i).1.getD (pa ps i).1 0 = (tr pmin n m ps i).1.getD (n + (pa ps i).2) 0 := by omega
        have hs2 : tr pmin n m ps (i + 1) = tr pmin n m ps i := by rw [hs, tstep]; exact if_pos hc
        walk_at "go"
        exact ⟨_, _, _, _, _, rfl, by rw [hs2], by rw [hs2]; exact hvm⟩
    · rintro σ' G' O' e2 ⟨vm, u1, u2, u3, u4, rfl, rfl, hvm⟩
      have hN : (ps.length : Int).toNat = ps.length := Int.toNat_natCast _
      rw [hN] at hvm ⊢
      have htree : (tr pmin n m ps ps.length).2 = tree n m ps := ((mk_same pw pk_fst pk_min ps.length (Nat.le_refl _)).2).symm
      rw [htree]
      refine ws_frzD 0 rfl (daAll_nats _ _) fun G3 e3 htp => ?_
      refine ws_ret (w_lstD ?_)
      walk_at "go"
      exact ⟨_, by simp, .cons htp (.cons (Da.up e3 hvm) .nil), fun x G4 e4 hx => ⟨rfl, hx⟩⟩
end
/-! text Q1 -/
theorem dnats_filter {n : Nat} (b : Nat → Bool) : ((List.range n).filter b).map (fun i : Nat => PyData.int (i : Int)) = dnats ((List.range n).filter b) := rfl
theorem flat_ints (l : List Nat) : (l.map fun x : Nat => V.int (x : Int)).all flatV = true := by
  rw [List.all_map]; exact List.all_eq_true.mpr fun _ _ => rfl
theorem inV_nats (k : Nat) (l : List Nat) : inV (.int (k : Int)) (l.map fun x : Nat => V.int (x : Int)) = decide (k ∈ l) := by
  induction l with
  | nil => rfl
  | cons a l ih =>
    show (((a : Int) == (k : Int)) || inV (.int (k : Int)) (l.map fun x : Nat => V.int (x : Int))) = _
    rw [ih, Bool.eq_iff_iff, Bool.or_eq_true, beq_iff_eq, decide_eq_true_eq, decide_eq_true_eq, List.mem_cons]
    exact or_congr ⟨fun h => by omega, fun h => by omega⟩ Iff.rfl
theorem da_nats {G : Hp} {v : V} {l : List Nat} (h : Da G [] v (.list (dnats l))) : ∃ a, v = .ref a ∧ G a = some (.lst (l.map fun x : Nat => V.int (x : Int))) := by
  obtain ⟨a, xs, rfl, h1, h2⟩ := da_lst h
  refine ⟨a, rfl, ?_⟩
  have e : dnats l = (l.map fun x : Nat => (x : Int)).map PyData.int := by rw [List.map_map]; rfl
  rw [e] at h2
  rw [h1, daAll_ints' h2, List.map_map]; rfl
theorem da_natsT {G : Hp} {v : V} {l : List Nat} (h : Da G [] v (.tuple (dnats l))) : ∃ a, v = .ref a ∧ G a = some (.tup (l.map fun x : Nat => V.int (x : Int))) := by
  obtain ⟨a, xs, rfl, h1, h2⟩ := da_tup h
  refine ⟨a, rfl, ?_⟩
  have e : dnats l = (l.map fun x : Nat => (x : Int)).map PyData.int := by rw [List.map_map]; rfl
  rw [e] at h2
  rw [h1, daAll_ints' h2, List.map_map]; rfl
section
variable {P : Program} {w : World} {K : PySem.W.Frag} {mg : Str → Option Value} {base : Heap}
theorem sc_law_others : FnScope ["_law_picture_here", "_law_tree_here", "_law_place"] ["_law_picture_here"] (defScope s_law_others) := ⟨rfl, rfl, rfl, by decide +kernel, rfl, by decide +kernel, by decide +kernel⟩
def R_law_others : Rel := fun ws G post => ∃ (n m : Nat) (ps : List (Nat × Nat)) (v0 : V), PW n m ps ∧ ws = [v0] ∧ Da G [] v0 (dpic n m ps) ∧ post = fun v G' => Da G' [] v (.list (dnats (oth n m ps)))
theorem cal_law_others (T : Txt K mg) : C8.Cal P w K mg base 2 "_law_others" (Fn (SP R_law_others)) [] := by
  refine cal_by T.d_law_others sc_law_others (fun vs G O R h => ?_) (fun f cdv A outer s H vs G O R E hr h => ?_)
  · obtain ⟨_, _, ⟨_, _, _, _, _, rfl, _⟩, _⟩ := h; rfl
  · obtain ⟨rfl, post, ⟨n, m, ps, v0, pw, rfl, hv0, rfl⟩, rfl⟩ := h
    refine ⟨_, (pss_cons (ps_set (i := 1) sc_law_others.nd rfl (Or.inr rfl) (pe_ix (ixK K rfl) (C8.pe_c (cal_law_tree T) hr (by omega) rfl (pa_cons (pv 0) pa_nil)) pe_int (fun _ _ => rfl)))
    (pss_one (ps_ret (pe_lc (own := [("_law_place", 2)]) rfl sc_law_others.nd (pi_range1 rfl T.b_range (pa_cons (pe_callB (lenK K rfl) rfl T.b_len PySem.boot_len (pa_cons (pe_ix (ixK K rfl) (pv 0) pe_int (fun _ _ => rfl)) pa_nil)) pa_nil)) (blkOk_by (N := ["_law_picture_here", "_law_tree_here", "_law_place"]) (sc := defScope s_law_others) (by decide +kernel)) (fun _ _ _ _ _ => (pg_name (i := 2) sc_law_others.nd rfl (Or.inl rfl))) (fun _ _ _ _ _ => (pts_one (pt_cmpR (ninK K rfl) (pv 2) (pv 1) (by with_unfolding_all rfl)))) (fun _ _ _ _ _ => (pv 2)))))), ?_⟩
    show WS _ [some (v0), none, none] _ _ _
    have l25 := pw.len
    walk_at "go"
    refine f_p ⟨n, m, ps, _, pw, rfl, hv0, rfl⟩ fun v G1 e1 hv => ?_
    walk_at "go"
    refine r_atD (j := 0) (.inl hv) rfl rfl fun y hy => ?_
    walk_at "go"
    refine w_lcR ?_
    walk_at "go"
    refine r_atD (j := 2) (.inl (Da.up e1 hv0)) rfl rfl fun z hz => ?_
    walk_at "go"
    refine r_lenD (.inl hz) ?_
    rw [List.length_map]
    obtain ⟨a, rfl, ha⟩ := da_nats hy
    walk_at "go"
    refine ⟨_, rfl, by omega, fun k => decide (k ∉ tree n m ps), fun k => .int (k : Int), fun i G2 hi e2 => ⟨rfl, ?_⟩, fun p G2 e2 hp => ?_⟩
    · walk_at "go"
      refine r_in (.inr (.inl (e2 _ _ ha))) rfl (flat_ints _) ?_
      rw [inV_nats]
      walk_at "go"
      refine ⟨rfl, by simp, fun _ => ?_⟩
      walk_at "go"
      exact ⟨rfl, .int _⟩
    · exact ⟨rfl, hp⟩
theorem sc_law_leaf : FnScope ["_law_pairs", "_law_left", "_law_place", "_law_side", "_law_other"] ["_law_pairs", "_law_left"] (defScope s_law_leaf) := ⟨rfl, rfl, rfl, by decide +kernel, rfl, by decide +kernel, by decide +kernel⟩
theorem good_count {ps : List (Nat × Nat)} {left : List Nat} (nd : left.Nodup) {k s : Nat} (hk : k ∈ left) : (left.filter fun j => decide (sd s (pa ps j) = sd s (pa ps k))).length = 1 ↔ good ps left k s = true := by
  have e : left.filter (fun j => decide (sd s (pa ps j) = sd s (pa ps k))) = [k] ↔ good ps left k s = true := by
    constructor
    · intro h
      refine List.all_eq_true.mpr fun j hj => ?_
      by_cases c : sd s (pa ps j) = sd s (pa ps k)
      · have : j ∈ left.filter fun j => decide (sd s (pa ps j) = sd s (pa ps k)) := List.mem_filter.mpr ⟨hj, by simp [c]⟩
        rw [h] at this
        simp at this
        simp [this]
      · simp [c]
    · intro h
      have h' := List.all_eq_true.mp h
      have e1 : left.filter (fun j => decide (sd s (pa ps j) = sd s (pa ps k))) = left.filter (fun j => j == k) := List.filter_congr fun j hj => by
        have := h' j hj
        by_cases c : j = k
        · simp [c]
        · have : ¬ sd s (pa ps j) = sd s (pa ps k) := by simpa [c] using this
          simp [c, this]
      rw [e1, List.filter_beq, nd.count, if_pos hk]; rfl
  rw [← e]
  constructor
  · intro h
    obtain ⟨a, ha⟩ := List.length_eq_one_iff.mp h
    have : k ∈ left.filter fun j => decide (sd s (pa ps j) = sd s (pa ps k)) := List.mem_filter.mpr ⟨hk, by simp⟩
    rw [ha] at this
    rw [ha]; simp at this; rw [this]
  · intro h; rw [h]; rfl
theorem lf_at {ps : List (Nat × Nat)} {left : List Nat} {i k s : Nat} {tl : List Nat} (hi : i < left.length) (hk : left.getD i 0 = k) (hno : ∀ j, j < i → ends ps left (left.getD j 0) = []) (he : ends ps left k = s :: tl) : lf ps left = some (k, s) := by
  refine List.findSome?_eq_some_iff.mpr ⟨left.take i, k, left.drop (i + 1), ?_, by rw [he]; rfl, fun x hx => ?_⟩
  · rw [← hk]
    conv => lhs; rw [← List.take_append_drop i left]
    rw [List.drop_eq_getElem_cons hi, List.getD_eq_getElem?_getD, List.getElem?_eq_getElem hi]; rfl
  · obtain ⟨j, hj, ej⟩ := List.getElem_of_mem hx
    have hj2 : j < i := by rw [List.length_take] at hj; omega
    have := hno j hj2
    rw [List.getD_eq_getElem?_getD, List.getElem?_eq_getElem (by omega)] at this
    rw [List.getElem_take] at ej
    rw [← ej]
    have this : ends ps left left[j] = [] := this
    rw [this]; rfl
def R_law_leaf : Rel := fun ws G post => ∃ (n m : Nat) (ps : List (Nat × Nat)) (vp vl : V) (left : List Nat), PW n m ps ∧ ws = [vp, vl] ∧ Da G [] vp (.list (ps.map dpair)) ∧ Da G [] vl (.list (dnats left)) ∧ left.Nodup ∧ (∀ k ∈ left, k < ps.length) ∧ left.length ≤ 25 ∧
  post = fun v G' => ∀ k s, lf ps left = some (k, s) → Da G' [] v (.list [.int (k : Int), .int (s : Int)])
theorem cal_law_leaf (T : Txt K mg) : C8.Cal P w K mg base 1 "_law_leaf" (Fn (SP R_law_leaf)) [] := by
  refine cal_by T.d_law_leaf sc_law_leaf (fun vs G O R h => ?_) (fun f cdv A outer s H vs G O R E hr h => ?_)
  · obtain ⟨_, _, ⟨_, _, _, _, _, _, _, rfl, _⟩, _⟩ := h; rfl
  · obtain ⟨rfl, post, ⟨n, m, ps, vp, vl, left, pw, rfl, hvp, hvl, nd, hin, h25, rfl⟩, rfl⟩ := h
    refine ⟨_, (pss_cons (ps_for PassesOwn.never rfl (pi_listK K rfl (pv 1)) (pg_name (i := 2) sc_law_leaf.nd rfl (Or.inr rfl))
      (pss_one (ps_for PassesOwn.never rfl (pi_range1 rfl T.b_range (pa_cons pe_int pa_nil)) (pg_name (i := 3) sc_law_leaf.nd rfl (Or.inr rfl))
        (pss_one (ps_if (pt_cmpR op_eq (pe_callB (lenK K rfl) rfl T.b_len PySem.boot_len (pa_cons (pe_lc (own := [("_law_other", 4)]) rfl sc_law_leaf.nd (pi_listK K rfl (pv 1)) (blkOk_by (N := ["_law_pairs", "_law_left", "_law_place", "_law_side", "_law_other"]) (sc := defScope s_law_leaf) (by decide +kernel)) (fun _ _ _ _ _ => (pg_name (i := 4) sc_law_leaf.nd rfl (Or.inl rfl))) (fun _ _ _ _ _ => (pts_one (pt_cmpR op_eq (pe_ix (ixK K rfl) (pe_ix (ixK K rfl) (pv 0) (pv 4) (fun _ _ => rfl)) (pv 3) (fun _ _ => rfl)) (pe_ix (ixK K rfl) (pe_ix (ixK K rfl) (pv 0) (pv 2) (fun _ _ => rfl)) (pv 3) (fun _ _ => rfl)) (nomark _)))) (fun _ _ _ _ _ => (pv 4))) pa_nil)) pe_int (nomark _))
          (pss_one (ps_ret (pe_lst (pa_cons (pv 2) (pa_cons (pv 3) pa_nil)))))
          pss_nil)))))
    (pss_one (ps_ret (pe_lst (pa_cons pe_int (pa_cons pe_int pa_nil)))))), ?_⟩
    show WS _ [some (vp), some (vl), none, none, none] _ _ _
    obtain ⟨la, rfl, hla⟩ := da_nats hvl
    refine ws_seq ?_
    refine ws_for (i_list ?_)
    walk_at "go"
    have hN : ∀ i, i < left.length → left[i]? = some (left.getD i 0) := fun i hi => by rw [List.getD_eq_getElem?_getD, List.getElem?_eq_getElem hi]; rfl
    refine ⟨la, _, rfl, .inl hla, _, _, wk_list hla, fun i σ G' O' => ∃ u1 u2 u3 : Option V, σ = [some vp, some (.ref la), u1, u2, u3] ∧ O' = [] ∧ ∀ j, j < i → ends ps left (left.getD j 0) = [], ⟨_, _, _, rfl, rfl, by omega⟩, ?_, ?_⟩
    · rintro i x σ' G' O' hi e1 ⟨u1, u2, u3, rfl, rfl, hno⟩ G2 e2 hx
      have hi : i < left.length := by simpa using hi
      rw [List.getElem?_map, hN i hi] at hx
      have hx : V.int ((left.getD i 0 : Nat) : Int) = x := Option.some.inj hx
      subst hx
      have hmem : left.getD i 0 ∈ left := List.mem_of_getElem? (hN i hi)
      have hvp2 := Da.up (e1.trans e2) hvp
      have hla2 := (e1.trans e2) _ _ hla
      generalize hk : left.getD i 0 = k at *
      have hkl := hin k hmem
      refine g_name ?_
      refine ws_for (i_range1 ?_)
      walk_at "go"
      refine ⟨by decide, by decide, _, _, wk_range0, fun t σ G' O' => ∃ u2 u3 : Option V, σ = [some vp, some (.ref la), some (.int (k : Int)), u2, u3] ∧ O' = [] ∧ ∀ s, s < t → good ps left k s = false, ⟨_, _, rfl, rfl, by omega⟩, ?_, ?_⟩
      · rintro s x σ' G3 O' hs e3 ⟨u2, u3, rfl, rfl, hns⟩ G4 e4 rfl
        have hs : s < 2 := hs
        have hvp3 := Da.up (e3.trans e4) hvp2
        have hla3 := (e3.trans e4) _ _ hla2
        walk_at "go"
        refine w_lcL ?_
        walk_at "go"
        refine ⟨dnats left, by rw [dn_len]; omega, .lst (.inl hla3) (daAll_nats _ _), fun j => decide (sd s (pa ps (left.getD j 0)) = sd s (pa ps k)), fun j => .int (left.getD j 0 : Nat), ?_, ?_⟩
        · intro j y d G5 hd e5 hy
          obtain ⟨hj, rfl⟩ := dn_of hd hy
          have hjl := hin _ (List.mem_of_getElem? (hN j hj))
          have hvp4 := Da.up e5 hvp3
          refine ⟨rfl, ?_⟩
          walk_at "go"
          refine r_atD (j := left.getD j 0) (.inl hvp4) (pa_get hjl) rfl fun y hy => ?_
          walk_at "go"
          refine r_atD (j := s) (.inr hy) (sd_get hs) rfl fun y hy => ?_
          rw [da_int hy]
          walk_at "go"
          refine r_atD (j := k) (.inl hvp4) (pa_get hkl) rfl fun y hy => ?_
          walk_at "go"
          refine r_atD (j := s) (.inr hy) (sd_get hs) rfl fun y hy => ?_
          rw [da_int hy]
          walk_at "go"
          refine ⟨rfl, ?_, fun _ => ?_⟩
          · rw [Bool.eq_iff_iff, decide_eq_true_eq, decide_eq_true_eq, V.int.injEq]; omega
          · walk_at "go"
            exact ⟨rfl, .int _⟩
        · intro p G5 e5 hp
          rw [dn_len, filt_range left 0 (fun x => decide (sd s (pa ps x) = sd s (pa ps k))) (fun x : Nat => PyData.int (x : Int))] at hp
          walk_at "go"
          refine r_lenD (.inl hp) ?_
          rw [List.length_map]
          walk_at "go"
          have hgc := good_count (ps := ps) (s := s) nd hmem
          walk_at "if"
          · intro hc
            have hg := hgc.mp (by omega)
            refine ws_ret (w_lstD ?_)
            walk_at "go"
            refine ⟨_, by simp, .cons (.int _) (.cons (.int _) .nil), fun x G6 e6 hx => ⟨rfl, fun k' s' e => ?_⟩⟩
            -- the first place and the first side
            have hends : ends ps left k = s :: (ends ps left k).tail := by
              have : s = 0 ∨ s = 1 := by omega
              rcases this with rfl | rfl
              · simp [ends, hg]
              · have h0 := hns 0 (by decide); simp [ends, hg, h0]
            have hfind : lf ps left = some (k, s) := lf_at hi hk hno hends
            rw [hfind] at e
            cases e
            exact hx
          · intro hc
            walk_at "go"
            refine ⟨_, _, rfl, rfl, fun t ht => ?_⟩
            by_cases et : t = s
            · subst et
              cases hg : good ps left k t with
              | false => rfl
              | true => exact absurd (by have := hgc.mpr hg; omega) hc
            · exact hns t (by omega)
      · rintro σ' G3 O3 e3 ⟨u2, u3, rfl, rfl, hns⟩
        walk_at "go"
        refine ⟨_, _, _, rfl, rfl, fun j hj => ?_⟩
        by_cases ej : j = i
        · subst ej
          rw [hk, ends]
          have h0 := hns 0 (by decide)
          have h1 := hns 1 (by decide)
          simp [h0, h1]
        · exact hno j (by omega)
    · rintro σ' G' O' e1 ⟨u1, u2, u3, rfl, rfl, hno⟩
      refine ws_ret ?_
      refine w_lstD ?_
      walk_at "go"
      refine ⟨_, by simp, .cons (.int _) (.cons (.int _) .nil), fun x G4 e4 hx => ⟨rfl, fun k s e => ?_⟩⟩
      obtain ⟨l1, a, l2, q1, q2, _⟩ := List.findSome?_eq_some_iff.mp e
      have ha : a ∈ left := by rw [q1]; simp
      obtain ⟨j, hj, ej⟩ := List.getElem_of_mem ha
      have := hno j (by simpa using hj)
      rw [List.getD_eq_getElem?_getD, List.getElem?_eq_getElem hj] at this
      have this : ends ps left left[j] = [] := this
      rw [ej] at this
      rw [this] at q2
      cases q2
end
/-! text Q2 -/
section
variable {P : Program} {w : World} {K : PySem.W.Frag} {mg : Str → Option Value} {base : Heap}
theorem sc_law_tour : FnScope ["_law_picture_here", "_law_row", "_law_pairs", "_law_left", "_law_others_here", "_law_out", "_law_k", "_law_turn", "_law_place", "_law_side", "_law_end", "_law_other"] ["_law_picture_here", "_law_row"] (defScope s_law_tour) := ⟨rfl, rfl, rfl, by decide +kernel, rfl, by decide +kernel, by decide +kernel⟩
def R_law_tour : Rel := fun ws G post => ∃ (n m : Nat) (ps : List (Nat × Nat)) (v0 vr : V) (row : List Int), PW n m ps ∧ ws = [v0, vr] ∧ Da G [] v0 (dpic n m ps) ∧ Da G [] vr (.list (dints row)) ∧ row.length = (oth n m ps).length ∧ post = fun v G' => Da G' [] v (.tuple (dints (tour n m ps row)))
theorem filt_len {left : List Nat} (nd : left.Nodup) {k f : Nat} (hk : k ∈ left) (hl : left.length = f + 1) : (left.filter fun j => decide (j ≠ k)).length = f := by
  have hp : left.erase k = left.filter fun j => decide (j ≠ k) := by
    rw [nd.erase_eq_filter]; exact List.filter_congr fun x _ => by by_cases z : x = k <;> simp [bne, z]
  rw [← hp, List.length_erase_of_mem hk, hl]; rfl
theorem cal_law_tour (T : Txt K mg) : C8.Cal P w K mg base 3 "_law_tour" (Fn (SP R_law_tour)) [] := by
  refine cal_by T.d_law_tour sc_law_tour (fun vs G O R h => ?_) (fun f cdv A outer s H vs G O R E hr h => ?_)
  · obtain ⟨_, _, ⟨_, _, _, _, _, _, _, rfl, _⟩, _⟩ := h; rfl
  · obtain ⟨rfl, post, ⟨n, m, ps, v0, vr, row, pw, rfl, hv0, hvr, hrl, rfl⟩, rfl⟩ := h
    refine ⟨_, (pss_cons (ps_set (i := 2) sc_law_tour.nd rfl (Or.inr rfl) (pe_ix (ixK K rfl) (pv 0) pe_int (fun _ _ => rfl)))
    (pss_cons (ps_set (i := 3) sc_law_tour.nd rfl (Or.inl rfl) (pe_ix (ixK K rfl) (C8.pe_c (cal_law_tree T) hr (by omega) rfl (pa_cons (pv 0) pa_nil)) pe_int (fun _ _ => rfl)))
    (pss_cons (ps_set (i := 4) sc_law_tour.nd rfl (Or.inl rfl) (C8.pe_c (cal_law_others T) hr (by omega) rfl (pa_cons (pv 0) pa_nil)))
    (pss_cons (ps_set (i := 5) sc_law_tour.nd rfl (Or.inr rfl) (pe_op op_rep (pe_lst (pa_cons pe_int pa_nil)) (pe_callB (lenK K rfl) rfl T.b_len PySem.boot_len (pa_cons (pv 2) pa_nil))))
    (pss_cons (ps_for PassesOwn.never rfl (pi_range1 rfl T.b_range (pa_cons (pe_callB (lenK K rfl) rfl T.b_len PySem.boot_len (pa_cons (pv 4) pa_nil)) pa_nil)) (pg_name (i := 6) sc_law_tour.nd rfl (Or.inl rfl))
      (pss_one (ps_asg (pe_ix (ixK K rfl) (pv 1) (pv 6) (fun _ _ => rfl)) (pg_sub (pv 5) (pe_ix (ixK K rfl) (pv 4) (pv 6) (fun _ _ => rfl)) set_list))))
    (pss_cons (ps_for PassesOwn.never rfl (pi_range1 rfl T.b_range (pa_cons (pe_callB (lenK K rfl) rfl T.b_len PySem.boot_len (pa_cons (pv 3) pa_nil)) pa_nil)) (pg_name (i := 7) sc_law_tour.nd rfl (Or.inl rfl))
      (pss_cons (ps_asg (C8.pe_c (cal_law_leaf T) hr (by omega) rfl (pa_cons (pv 2) (pa_cons (pv 3) pa_nil))) (pg_lstK K rfl (n := 2) rfl (pgs_cons (pg_name (i := 8) sc_law_tour.nd rfl (Or.inr rfl)) (pgs_cons (pg_name (i := 9) sc_law_tour.nd rfl (Or.inr rfl)) pgs_nil))))
      (pss_cons (ps_set (i := 10) sc_law_tour.nd rfl (Or.inr rfl) (pe_ix (ixK K rfl) (pe_ix (ixK K rfl) (pv 2) (pv 8) (fun _ _ => rfl)) (pv 9) (fun _ _ => rfl)))
      (pss_cons (ps_asg (pe_op op_sub pe_int (pe_callB (sumK K rfl rfl) rfl T.b_sum (by decide +kernel) (pa_cons (pe_lc (own := [("_law_k", 6)]) rfl sc_law_tour.nd (pi_range1 rfl T.b_range (pa_cons (pe_callB (lenK K rfl) rfl T.b_len PySem.boot_len (pa_cons (pv 2) pa_nil)) pa_nil)) (blkOk_by (N := ["_law_picture_here", "_law_row", "_law_pairs", "_law_left", "_law_others_here", "_law_out", "_law_k", "_law_turn", "_law_place", "_law_side", "_law_end", "_law_other"]) (sc := defScope s_law_tour) (by decide +kernel)) (fun _ _ _ _ _ => (pg_name (i := 6) sc_law_tour.nd rfl (Or.inl rfl))) (fun _ _ _ _ _ => (pts_one (PW.pt (pw_and (pt_cmpR op_eq (pe_ix (ixK K rfl) (pe_ix (ixK K rfl) (pv 2) (pv 6) (fun _ _ => rfl)) (pv 9) (fun _ _ => rfl)) (pv 10) (nomark _)) (pw_and1 (pt_cmpR op_ne (pv 6) (pv 8) (nomark _))))))) (fun _ _ _ _ _ => (pe_ix (ixK K rfl) (pv 5) (pv 6) (fun _ _ => rfl)))) pa_nil))) (pg_sub (pv 5) (pv 8) set_list))
      (pss_one (ps_setLc (i := 3) (own := [("_law_other", 11)]) rfl sc_law_tour.nd rfl rfl (sw_true rfl rfl rfl (by decide +kernel)) (pi_listK K rfl (pv 3)) (blkOk_by (N := ["_law_picture_here", "_law_row", "_law_pairs", "_law_left", "_law_others_here", "_law_out", "_law_k", "_law_turn", "_law_place", "_law_side", "_law_end", "_law_other"]) (sc := defScope s_law_tour) (by decide +kernel)) (fun _ _ _ _ _ => (pg_name (i := 11) sc_law_tour.nd rfl (Or.inl rfl))) (fun _ _ _ _ _ => (pts_one (pt_cmpR op_ne (pv 11) (pv 8) (nomark _)))) (fun _ _ _ _ _ => (pv 11))))))))
    (pss_one (ps_ret (pe_callTy (tupleK K rfl) rfl T.b_tuple PyProof.Rows.boot_tuple (pa_cons (pv 5) pa_nil)))))))))), ?_⟩
    show WS _ [some (v0), some (vr), none, none, none, none, none, none, none, none, none, none] _ _ _
    have l25 := pw.len
    walk_at "go"
    refine r_atD (j := 2) (.inl hv0) rfl rfl fun vp hvp => ?_
    walk_at "go"
    refine f_p ⟨n, m, ps, _, pw, rfl, hv0, rfl⟩ fun v G1 e1 hv => ?_
    walk_at "go"
    refine r_atD (j := 0) (.inl hv) rfl rfl fun vt hvt => ?_
    walk_at "go"
    refine f_p ⟨n, m, ps, _, pw, rfl, Da.up e1 hv0, rfl⟩ fun vo G2 e2 hvo => ?_
    refine ws_seq (ws_set (w_op (w_lstG ?_)))
    walk_at "go"
    refine ⟨by decide, fun zp G3 e3 hzp => ?_⟩
    walk_at "go"
    refine r_lenD (.inl (Da.up ((e1.trans e2).trans e3) hvp)) ?_
    rw [List.length_map]
    refine r_rep (.inl hzp) (by omega) (by omega) (by have := sizeLine_eq; simp only [List.length_cons, List.length_nil]; omega) fun op hop => ?_
    have hflat : (List.replicate (ps.length : Int).toNat [V.int 0]).flatten = (List.replicate ps.length (0 : Int)).map V.int := by
      rw [Int.toNat_natCast, List.map_replicate]
      generalize ps.length = N
      induction N with
      | zero => rfl
      | succ N ih => rw [List.replicate_succ, List.replicate_succ, List.flatten_cons, ih]; rfl
    rw [hflat]
    have hvo3 := Da.up e3 hvo
    have hvr3 := Da.up ((e1.trans e2).trans e3) hvr
    have hvt3 := Da.up (e2.trans e3) hvt
    have hvp3 := Da.up ((e1.trans e2).trans e3) hvp
    clear hvo hvr hvt hvp hv hv0
    refine ws_seq ?_
    refine ws_for (i_range1 ?_)
    dsimp only [List.nil_append]
    walk_at "go"
    refine r_lenD (.inl hvo3) ?_
    rw [dn_len]
    walk_at "go"
    have ol := oth_len (n := n) (m := m) (ps := ps)
    refine ⟨by omega, by omega, _, _, wk_range0, fun i σ G' O' => ∃ (u5 : Option V), σ = [some v0, some vr, some vp, some vt, some vo, some (.ref op), u5, none, none, none, none, none] ∧ O' = [(op, .lst ((put (oth n m ps) row ps.length i).map V.int))], ⟨_, rfl, rfl⟩, ?_, ?_⟩
    · rintro i x σ' G' O' hi e1 ⟨u5, rfl, rfl⟩ G4 e4 rfl
      have hi : i < (oth n m ps).length := by omega
      have hvo4 := Da.up (e1.trans e4) hvo3
      have hvr4 := Da.up (e1.trans e4) hvr3
      walk_at "go"
      refine r_atD (j := i) (.inl hvr4) (di_get (by omega)) rfl fun y hy => ?_
      rw [da_int hy]
      walk_at "go"
      refine r_atD (j := i) (.inl hvo4) (dn_get hi) rfl fun y hy => ?_
      rw [da_int hy]
      have hm := (oth_mem.mp (oth_getm hi)).1
      refine ⟨_, _, _, _, rfl, rfl, rfl, (ixN_nat (by rw [List.length_map, put_len]; exact hm)), ?_⟩
      refine ⟨_, rfl, ?_⟩
      rw [put_succ, ← set_ints]; rfl
    · rintro σ' G' O' e1 ⟨u5, rfl, rfl⟩
      have hN : ((oth n m ps).length : Int).toNat = (oth n m ps).length := Int.toNat_natCast _
      rw [hN]
      have hvt4 := Da.up e1 hvt3
      have hvp4 := Da.up e1 hvp3
      refine ws_seq ?_
      refine ws_for (i_range1 ?_)
      walk_at "go"
      refine r_lenD (.inl hvt4) ?_
      rw [dn_len]
      have htl : (tree n m ps).length ≤ ps.length := tr2_len ps.length
      walk_at "go"
      refine ⟨by omega, by omega, _, _, wk_range0, fun t σ G' O' => ∃ (left : List Nat) (out : List Int) (vl : V) (u6 u7 u8 u9 ua ub : Option V), σ = [some v0, some vr, some vp, some vl, some vo, some (.ref op), u6, u7, u8, u9, ua, ub] ∧ O' = [(op, .lst (out.map V.int))] ∧ Da G' [] vl (.list (dnats left)) ∧
        left.length = (tree n m ps).length - t ∧ left.Nodup ∧ (∀ k ∈ left, k ∈ tree n m ps) ∧ out.length = ps.length ∧ tl ps left.length left out = tour n m ps row,
        ⟨_, _, _, _, _, _, _, _, _, rfl, rfl, hvt4, rfl, tree_nd, fun _ h => h, put_len .., rfl⟩, ?_, ?_⟩
      · rintro t x σ' G5 O' ht e5 ⟨left, out, vl, u6, u7, u8, u9, ua, ub, rfl, rfl, hvl, hll, nd, hsub, hol, htour⟩ G6 e6 rfl
        have ht : t < (tree n m ps).length := by omega
        have hvp6 := Da.up (e5.trans e6) hvp4
        have hvl := Da.up e6 hvl
        obtain ⟨f, hf⟩ : ∃ f, left.length = f + 1 := ⟨left.length - 1, by omega⟩
        have hin : ∀ k ∈ left, k < ps.length := fun k hk => tree_lt (hsub k hk)
        obtain ⟨k, s, hlf, hk, hs, hg⟩ := lf_some pw hin ((tree_fo pw).sub hsub) (fun z => by rw [z] at hf; cases hf)
        have hkl := hin k hk
        have hleft := filt_len nd hk hf
        rw [hf, tl, hlf] at htour
        have htour : tl ps f (left.filter fun j => decide (j ≠ k)) (out.set k (0 - esum ps out k s)) = tour n m ps row := htour
        walk_at "go"
        refine f_p ⟨n, m, ps, _, _, left, pw, rfl, hvp6, hvl, nd, hin, by omega, rfl⟩ fun v G7 e7 hv => ?_
        refine g_lstD (hv k s hlf) rfl fun xs hxs => ?_
        obtain ⟨v1, v2, rfl, h1, h2⟩ := da2 hxs
        rw [da_int h1, da_int h2]
        refine g_cons (g_name (g_cons (g_name (g_nil ?_))))
        have hvp7 := Da.up e7 hvp6
        have hvl7 := Da.up e7 hvl
        walk_at "go"
        refine r_atD (j := k) (.inl hvp7) (pa_get hkl) rfl fun y hy => ?_
        walk_at "go"
        refine r_atD (j := s) (.inr hy) (sd_get hs) rfl fun y hy => ?_
        rw [da_int hy]
        walk_at "go"
        refine w_lcR ?_
        walk_at "go"
        refine r_lenD (.inl hvp7) ?_
        rw [List.length_map]
        walk_at "go"
        refine ⟨_, rfl, by omega, fun j => decide (sd s (pa ps j) = sd s (pa ps k)) && decide (j ≠ k), fun j => .int (out.getD j 0), fun j G8 hj e8 => ⟨rfl, ?_⟩, fun p G8 e8 hp => ?_⟩
        · walk_at "go"
          refine r_atD (j := j) (.inl (Da.up e8 hvp7)) (pa_get hj) rfl fun y hy => ?_
          walk_at "go"
          refine r_atD (j := s) (.inr hy) (sd_get hs) rfl fun y hy => ?_
          rw [da_int hy]
          walk_at "go"
          have read : ∀ G9, W (tOp (rIx K) (tVar 5) (tVar 6) ((wipe [some v0, some vr, some vp, some vl, some vo, some (.ref op), u6, some (.int (t : Int)), some (.int (k : Int)), some (.int (s : Int)), some (.int (sd s (pa ps k) : Nat)), ub] [6]).set 6 (some (.int (j : Int))))) G9 [(op, .lst (out.map V.int))] fun z G3 O3 => O3 = [(op, .lst (out.map V.int))] ∧ Da G3 [] z (.int (out.getD j 0)) := fun G9 => by
            walk_at "go"
            exact r_own 0 rfl (atI_nat (ints_at (by omega))) ⟨rfl, .int _⟩
          walk_at "if"
          · intro hc
            walk_at "go"
            refine ⟨rfl, ?_, fun _ => read _⟩
            rw [Bool.eq_iff_iff, Bool.and_eq_true, decide_eq_true_eq, decide_eq_true_eq, Bool.not_eq_true', decide_eq_false_iff_not, V.int.injEq]
            omega
          · intro hc
            refine ⟨rfl, ?_, fun hb => ?_⟩
            · rw [decide_eq_false (by omega), Bool.false_and]
            · rw [decide_eq_false (by omega), Bool.false_and] at hb; cases hb
        · walk_at "go"
          have ep : ((List.range ps.length).filter fun j => decide (sd s (pa ps j) = sd s (pa ps k)) && decide (j ≠ k)).map (fun j => PyData.int (out.getD j 0)) = (((List.range ps.length).filter fun j => decide (sd s (pa ps j) = sd s (pa ps k)) && decide (j ≠ k)).map fun j => out.getD j 0).map PyData.int := by rw [List.map_map]; rfl
          rw [ep] at hp
          obtain ⟨p', hp', hG⟩ := da_ints hp
          rw [hp']
          refine r_sum (.inl hG) ?_
          walk_at "go"
          refine ⟨_, _, _, _, rfl, rfl, rfl, ixN_nat (by rw [List.length_map]; omega), ?_⟩
          refine ws_set (w_lcL ?_)
          walk_at "go"
          refine ⟨_, by rw [dn_len]; omega, Da.up e8 hvl7, fun j => decide (left.getD j 0 ≠ k), fun j => .int (left.getD j 0 : Nat), ?_, ?_⟩
          · intro j y d G9 hd e9 hy
            obtain ⟨hj, rfl⟩ := dn_of hd hy
            refine ⟨rfl, ?_⟩
            walk_at "go"
            refine ⟨rfl, ?_, fun _ => ?_⟩
            · rw [Bool.eq_iff_iff, decide_eq_true_eq, Bool.not_eq_true', decide_eq_false_iff_not, V.int.injEq]; omega
            · walk_at "go"
              exact ⟨rfl, .int _⟩
          · intro p2 G9 e9 hp2
            rw [dn_len, filt_range left 0 (fun x => decide (x ≠ k)) (fun x : Nat => PyData.int (x : Int))] at hp2
            refine ⟨left.filter fun j => decide (j ≠ k), out.set k (0 - esum ps out k s), _, _, _, _, _, _, _, rfl, ?_, hp2, by omega, nd.sublist List.filter_sublist, fun j hj => hsub j (List.mem_filter.mp hj).1, by rw [List.length_set, hol], by rw [hleft]; exact htour⟩
            rw [← set_ints]; rfl
      · rintro σ' G5 O' e5 ⟨left, out, vl, u6, u7, u8, u9, ua, ub, rfl, rfl, hvl, hll, nd, hsub, hol, htour⟩
        have hl0 : left.length = 0 := by omega
        rw [hl0, tl] at htour
        subst htour
        refine ws_frzD 0 rfl (daAll_ints _) fun G7 e7 hl => ?_
        walk_at "go"
        refine r_tupleD (.inl hl) fun x G8 e8 hx => ⟨rfl, hx⟩
end
/-! text Q3 -/
def dtours (l : List (List Int)) : List PyData := l.map fun t => .tuple (dints t)
theorem ro_get {F : Fk} {us : List F.U} {k : Nat} (h : k < us.length) : (us.map F.dat)[k]? = some (F.dat (us.getD k 1)) := by
  rw [List.getElem?_map, List.getD_eq_getElem?_getD, List.getElem?_eq_getElem h]; rfl
def allBd (F : Fk) (n : Nat) (us : List F.U) : Prop := ∀ u ∈ us, F.bd n u
theorem allBd.get {F : Fk} {n : Nat} {us : List F.U} (h : allBd F n us) (k : Nat) : F.bd n (us.getD k 1) := by
  by_cases hk : k < us.length
  · rw [List.getD_eq_getElem?_getD, List.getElem?_eq_getElem hk]; exact h _ (List.getElem_mem hk)
  · rw [List.getD_eq_getElem?_getD, List.getElem?_eq_none (by omega)]; exact Fk.bd_mono Fk.bd_one (Nat.zero_le _)
theorem allBd.mono {F : Fk} {m n : Nat} {us : List F.U} (h : allBd F m us) (hm : m ≤ n) : allBd F n us := fun u hu => Fk.bd_mono (h u hu) hm
theorem bd_pm {F : Fk} {B : Nat} (N : Nat) (f : Nat → F.U) (h : ∀ i, i < N → F.bd B (f i)) : F.bd (B * N) (pm N f) := by
  induction N with
  | zero => exact Fk.bd_one
  | succ N ih => rw [Nat.mul_succ]; exact Fk.bd_mul (ih fun i hi => h i (by omega)) (h N (by omega))
theorem bd_worth {F : Fk} {B N : Nat} {us : List F.U} {T : List Int} (hb : allBd F B us) (hT : ∀ j, (T.getD j 0).natAbs ≤ 2) : F.bd (2 * B * N) (worth N us T) := by
  refine bd_pm N _ fun i _ => Fk.bd_mono (Fk.bd_zp (hb.get i) _) ?_
  rw [Nat.mul_comm 2 B]
  exact Nat.mul_le_mul_left _ (hT i)
def scaled {U : Type} [Gp U] (ps : List (Nat × Nat)) (us P W : List U) : List U := (List.range us.length).map fun k => us.getD k 1 * (P.getD (pa ps k).1 1 * W.getD (pa ps k).2 1)
section
variable {P : Program} {w : World} {K : PySem.W.Frag} {mg : Str → Option Value} {base : Heap}
theorem sc_law_basis : FnScope ["_law_picture_here", "_law_many", "_law_at", "_law_k"] ["_law_picture_here"] (defScope s_law_basis) := ⟨rfl, rfl, rfl, by decide +kernel, rfl, by decide +kernel, by decide +kernel⟩
def R_law_basis : Rel := fun ws G post => ∃ (n m : Nat) (ps : List (Nat × Nat)) (v0 : V), PW n m ps ∧ ws = [v0] ∧ Da G [] v0 (dpic n m ps) ∧ post = fun v G' => Da G' [] v (.list (dtours (basis n m ps)))
theorem cal_law_basis (T : Txt K mg) : C8.Cal P w K mg base 4 "_law_basis" (Fn (SP R_law_basis)) [] := by
  refine cal_by T.d_law_basis sc_law_basis (fun vs G O R h => ?_) (fun f cdv A outer s H vs G O R E hr h => ?_)
  · obtain ⟨_, _, ⟨_, _, _, _, _, rfl, _⟩, _⟩ := h; rfl
  · obtain ⟨rfl, post, ⟨n, m, ps, v0, pw, rfl, hv0, rfl⟩, rfl⟩ := h
    refine ⟨_, (pss_cons (ps_set (i := 1) sc_law_basis.nd rfl (Or.inr rfl) (pe_callB (lenK K rfl) rfl T.b_len PySem.boot_len (pa_cons (C8.pe_c (cal_law_others T) hr (by omega) rfl (pa_cons (pv 0) pa_nil)) pa_nil)))
    (pss_one (ps_ret (pe_lc (own := [("_law_at", 2)]) rfl sc_law_basis.nd (pi_range1 rfl T.b_range (pa_cons (pv 1) pa_nil)) (blkOk_by (N := ["_law_picture_here", "_law_many", "_law_at", "_law_k"]) (sc := defScope s_law_basis) (by decide +kernel)) (fun _ _ _ _ _ => (pg_name (i := 2) sc_law_basis.nd rfl (Or.inr rfl))) (fun _ _ _ _ _ => pts_nil) (fun _ _ _ _ _ => (C8.pe_c (cal_law_tour T) hr (by omega) rfl (pa_cons (pv 0) (pa_cons (pe_lc (own := [("_law_k", 3)]) rfl sc_law_basis.nd (pi_range1 rfl T.b_range (pa_cons (pv 1) pa_nil)) (blkOk_by (by kernel_rfl)) (fun _ _ _ _ _ => (pg_name (i := 3) sc_law_basis.nd rfl (Or.inl rfl))) (fun _ _ _ _ _ => pts_nil) (fun _ _ _ _ _ => (pe_callTy cl_int rfl T.b_int PyProof.Rows.boot_int (pa_cons (pe_cmpR op_eq (pv 3) (pv 2) (nomark _)) pa_nil)))) pa_nil)))))))), ?_⟩
    show WS _ [some (v0), none, none, none] _ _ _
    have l25 := pw.len
    have ol := oth_len (n := n) (m := m) (ps := ps)
    walk_at "go"
    refine f_p ⟨n, m, ps, _, pw, rfl, hv0, rfl⟩ fun v G1 e1 hv => ?_
    walk_at "go"
    refine r_lenD (.inl hv) ?_
    rw [dn_len]
    refine ws_ret (w_lcRm ?_)
    walk_at "go"
    refine ⟨_, rfl, by omega, fun i => .tuple (dints (btour n m ps i)), fun i G2 hi e2 => ⟨rfl, ?_⟩, fun p G2 e2 hp => ⟨rfl, ?_⟩⟩
    · walk_at "go"
      refine w_lcRm ?_
      walk_at "go"
      refine ⟨_, rfl, by omega, fun k => .int (if k = i then 1 else 0), fun k G3 hk e3 => ⟨rfl, ?_⟩, fun p G3 e3 hp => ?_⟩
      · walk_at "go"
        refine ⟨rfl, ?_⟩
        by_cases hki : k = i
        · subst hki; simp; exact .int 1
        · rw [if_neg hki]
          have : decide (V.int (k : Int) = V.int (i : Int)) = false := by rw [decide_eq_false_iff_not, V.int.injEq]; omega
          rw [this]; exact .int 0
      · walk_at "go"
        have ep : (List.range (oth n m ps).length).map (fun k => PyData.int (if k = i then 1 else 0)) = dints (unit (oth n m ps).length i) := by rw [dints, unit, List.map_map]; rfl
        rw [ep] at hp
        exact f_p ⟨n, m, ps, _, _, _, pw, rfl, Da.up ((e1.trans e2).trans e3) hv0, hp, by simp [unit], rfl⟩ fun v G4 e4 hv => ⟨rfl, hv⟩
    · have ep : (List.range (oth n m ps).length).map (fun i => PyData.tuple (dints (btour n m ps i))) = dtours (basis n m ps) := by rw [dtours, basis, List.map_map]; rfl
      rw [ep] at hp
      exact hp
theorem sc_law_worth : FnScope ["_law_prime_here", "_law_table_here", "_law_tour_here", "_law_out", "_law_place"] ["_law_prime_here", "_law_table_here", "_law_tour_here"] (defScope s_law_worth) := ⟨rfl, rfl, rfl, by decide +kernel, rfl, by decide +kernel, by decide +kernel⟩
def R_law_worth : Rel := fun ws G post => ∃ (F : Fk) (us : List F.U) (T : List Int) (vt vT : V), ws = [.int (F.p : Int), vt, vT] ∧ Ro F G vt us ∧ Da G [] vT (.tuple (dints T)) ∧ T.length = us.length ∧ us.length ≤ 25 ∧ (∀ j, (T.getD j 0).natAbs ≤ 2) ∧ allBd F 16 us ∧ post = fun v G' => Nu F G' v (worth us.length us T)
theorem cal_law_worth (T : Txt K mg) : C8.Cal P w K mg base 6 "_law_worth" (Fn (SP R_law_worth)) [] := by
  refine cal_by T.d_law_worth sc_law_worth (fun vs G O R h => ?_) (fun f cdv A outer s H vs G O R E hr h => ?_)
  · obtain ⟨_, _, ⟨_, _, _, _, _, rfl, _⟩, _⟩ := h; rfl
  · obtain ⟨rfl, post, ⟨F, us, Tt, vt, vT, rfl, hvt, hvT, hl, h25, hT, hb, rfl⟩, rfl⟩ := h
    refine ⟨_, (pss_cons (ps_set (i := 3) sc_law_worth.nd rfl (Or.inl rfl) (C8.pe_c (cal_law_one T) hr (by omega) rfl (pa_cons (pv 0) pa_nil)))
    (pss_cons (ps_for PassesOwn.never rfl (pi_range1 rfl T.b_range (pa_cons (pe_callB (lenK K rfl) rfl T.b_len PySem.boot_len (pa_cons (pv 1) pa_nil)) pa_nil)) (pg_name (i := 4) sc_law_worth.nd rfl (Or.inl rfl))
      (pss_one (ps_if (pt_cmpR op_ne (pe_ix (ixK K rfl) (pv 2) (pv 4) (fun _ _ => rfl)) pe_int (nomark _))
        (pss_one (ps_set (i := 3) sc_law_worth.nd rfl (Or.inl rfl) (C8.pe_c (cal_law_times T) hr (by omega) rfl (pa_cons (pv 0) (pa_cons (pv 3) (pa_cons (C8.pe_c (cal_law_power T) hr (by omega) rfl (pa_cons (pv 0) (pa_cons (pe_ix (ixK K rfl) (pv 1) (pv 4) (fun _ _ => rfl)) (pa_cons (pe_ix (ixK K rfl) (pv 2) (pv 4) (fun _ _ => rfl)) pa_nil)))) pa_nil))))))
        pss_nil)))
    (pss_one (ps_ret (pv 3))))), ?_⟩
    show WS _ [some (.int (F.p : Int)), some (vt), some (vT), none, none] _ _ _
    walk_at "go"
    refine f_p ⟨F, rfl, rfl⟩ fun v G1 e1 hv => ?_
    refine ws_seq ?_
    refine ws_for (i_range1 ?_)
    walk_at "go"
    refine r_lenD (ro_up e1 hvt) ?_
    rw [List.length_map]
    walk_at "go"
    refine ⟨by omega, by omega, _, _, wk_range0, fun i σ G' O' => ∃ (vo : V) (u : Option V), σ = [some (.int (F.p : Int)), some vt, some vT, some vo, u] ∧ O' = [] ∧ Nu F G' vo (worth i us Tt), ⟨_, _, rfl, rfl, hv⟩, ?_, ?_⟩
    · rintro i x σ' G' O' hi e2 ⟨vo, u, rfl, rfl, hvo⟩ G2 e3 rfl
      have hi : i < us.length := by omega
      have hvt := ro_up ((e1.trans e2).trans e3) hvt
      have hvT := Da.up ((e1.trans e2).trans e3) hvT
      have hvo := nu_up e3 hvo
      have bw := bd_worth (N := i) hb hT
      have hTi := hT i
      walk_at "go"
      refine r_atD (j := i) (.inr hvT) (di_get (by omega)) rfl fun y hy => ?_
      rw [da_int hy]
      walk_at "go"
      walk_at "if"
      · intro hc
        walk_at "go"
        refine r_atD (j := i) hvt (ro_get hi) rfl fun y hy => ?_
        walk_at "go"
        refine r_atD (j := i) (.inr hvT) (di_get (by omega)) rfl fun z hz => ?_
        rw [da_int hz]
        walk_at "go"
        refine f_p ⟨F, _, us.getD i 1, _, 16, rfl, hy, hb.get i, by omega, by decide, Nat.lt_of_le_of_lt hTi (by decide), fun _ => rfl, rfl⟩ fun v2 G3 e4 hv2 => ?_
        walk_at "go"
        exact f_p ⟨F, _, _, _, _, rfl, nu_up e4 hvo, hv2, Fk.bd_mono bw (by have : 2 * 16 * i ≤ 2 * 16 * 25 := Nat.mul_le_mul_left _ (by omega); omega), Fk.bd_mono (Fk.bd_zp (hb.get i) _) (by omega), rfl⟩ fun v3 G4 e5 hv3 => ⟨_, _, rfl, rfl, hv3⟩
      · intro hc
        walk_at "go"
        refine ⟨_, _, rfl, rfl, ?_⟩
        show Nu F G2 vo (worth i us Tt * zp (us.getD i 1) (Tt.getD i 0))
        rw [hc, zp_zero, Gp.mo]
        exact hvo
    · rintro σ' G' O' e2 ⟨vo, u, rfl, rfl, hvo⟩
      walk_at "go"
      rw [Int.toNat_natCast] at hvo
      exact ⟨rfl, hvo⟩
end
/-! text Q4 -/
section
variable {P : Program} {w : World} {K : PySem.W.Frag} {mg : Str → Option Value} {base : Heap}
theorem allBd.snoc {F : Fk} {n : Nat} {us : List F.U} {u : F.U} (h : allBd F n us) (hu : F.bd n u) : allBd F n (us ++ [u]) := fun x hx => by
  rcases List.mem_append.mp hx with z | z
  · exact h x z
  · have : x = u := by simpa using z
    rw [this]; exact hu
theorem ro_snoc {F : Fk} {G : Hp} {xs : List V} {x : V} {us : List F.U} {u : F.U} (h : DaAll G [] xs (us.map F.dat)) (hu : Nu F G x u) : DaAll G [] (xs ++ [x]) ((us ++ [u]).map F.dat) := by
  rw [List.map_append]; exact daAll_snoc h hu
theorem sc_law_table : FnScope ["_law_hand_here", "_law_prime_here", "_law_many", "_law_signs", "_law_out", "_law_k"] ["_law_hand_here", "_law_prime_here", "_law_many"] (defScope s_law_table) := ⟨rfl, rfl, rfl, by decide +kernel, rfl, by decide +kernel, by decide +kernel⟩
/-- rows of numbers of a length -/
def R_law_table : Rel := fun ws _ post => ∃ (F : Fk) (many : Nat), ws = [.int (F.p : Int), .int (many : Int)] ∧ many ≤ 25 ∧ post = fun v G' => ∃ us : List F.U, us.length = many ∧ Da G' [] v (.list (us.map F.dat)) ∧ allBd F 4 us
theorem cal_law_table (T : Txt K mg) : C8.Cal P w K mg base 4 "_law_table" (Fn (SH R_law_table)) [] := by
  refine cal_by T.d_law_table sc_law_table (fun vs G O R h => ?_) (fun f cdv A outer s H vs G O R E hr h => ?_)
  · obtain ⟨_, _, _, rfl, _, _, _, ⟨F, _, rfl, _⟩, _⟩ := h; rfl
  · obtain ⟨h, o, _, rfl, rfl, ho, post, ⟨F, many, rfl, hm, rfl⟩, rfl⟩ := h
    refine ⟨_, (pss_cons (ps_set (i := 3) sc_law_table.nd rfl (Or.inl rfl) (pe_cmpR op_eq (C8.pe_c (cal_law_draw T) hr (by omega) rfl (pa_cons (pv 0) (pa_cons pe_int pa_nil))) pe_int (nomark _)))
    (pss_cons (ps_set (i := 4) sc_law_table.nd rfl (Or.inl rfl) (pe_lst pa_nil))
    (pss_cons (ps_for PassesOwn.never rfl (pi_range1 rfl T.b_range (pa_cons (pv 2) pa_nil)) (pg_name (i := 5) sc_law_table.nd rfl (Or.inl rfl))
      (pss_one (ps_if (pt_val (pv 3))
        (pss_one (ps_expr (pe_bm PySem.F.plainAttrs_list PySem.F.slot_list_append PySem.F.type_list_append mt_append (pv 4) (pa_cons (pe_ifExp (pt_cmpR op_eq (C8.pe_c (cal_law_draw T) hr (by omega) rfl (pa_cons (pv 0) (pa_cons pe_int pa_nil))) pe_int (nomark _)) (C8.pe_c (cal_law_one T) hr (by omega) rfl (pa_cons (pv 1) pa_nil)) (C8.pe_c (cal_law_minus T) hr (by omega) rfl (pa_cons (pv 1) pa_nil))) pa_nil))))
        (pss_one (ps_expr (pe_bm PySem.F.plainAttrs_list PySem.F.slot_list_append PySem.F.type_list_append mt_append (pv 4) (pa_cons (C8.pe_c (cal_law_number T) hr (by omega) rfl (pa_cons (pv 0) (pa_cons (pv 1) pa_nil))) pa_nil)))))))
    (pss_one (ps_ret (pv 4)))))), ?_⟩
    show WS _ [some (.ref h), some (.int (F.p : Int)), some (.int (many : Int)), none, none, none] _ _ _
    walk_at "go"
    refine f_h ho ⟨_, rfl, by decide, by decide, rfl⟩ fun v G1 o1 e1 ho1 hk => ?_
    obtain ⟨k, rfl, _⟩ := hk
    walk_at "go"
    refine w_lst ?_
    walk_at "go"
    refine ⟨by decide, fun lp hlp => ?_⟩
    dsimp only [List.cons_append, List.nil_append]
    refine ws_seq ?_
    refine ws_for (i_range1 ?_)
    walk_at "go"
    refine ⟨by omega, by omega, _, _, wk_range0, fun i σ G' O' => ∃ (b : Bool) (u : Option V) (o' : HO) (xs : List V) (us : List F.U), σ = [some (.ref h), some (.int (F.p : Int)), some (.int (many : Int)), some (.bl b), some (.ref lp), u] ∧ O' = [(h, o'), (lp, .lst xs)] ∧ HdOk G' o' ∧ us.length = i ∧ DaAll G' [] xs (us.map F.dat) ∧ allBd F 4 us,
      ⟨_, _, _, _, [], rfl, rfl, ho1, rfl, .nil, fun u hu => by cases hu⟩, ?_, ?_⟩
    · rintro i x σ' G' O' hi e2 ⟨b, u, o', xs, us, rfl, rfl, ho', hul, hus, hbd⟩ G2 e3 rfl
      have hus := DaAll.up e3 hus
      have hlx := daAll_len hus
      rw [List.length_map] at hlx
      have ho' := hd_up e3 ho'
      walk_at "go"
      walk_at "if"
      · intro hb0
        refine ws_drop (w_append ?_)
        walk_at "go"
        refine ⟨1, lp, xs, rfl, rfl, ?_⟩
        walk_at "go"
        refine f_h ho' ⟨_, rfl, by decide, by decide, rfl⟩ fun v G3 o3 e4 ho3 hk => ?_
        obtain ⟨k3, rfl, _⟩ := hk
        walk_at "go"
        walk_at "if"
        · intro _
          walk_at "go"
          refine f_p ⟨F, rfl, rfl⟩ fun y G4 e5 hy => ⟨rfl, by omega, ?_⟩
          exact ⟨b, _, o3, _, us ++ [1], rfl, rfl, hd_up e5 ho3, by simp [hul], ro_snoc (DaAll.up (e4.trans e5) hus) hy, hbd.snoc (Fk.bd_mono Fk.bd_one (by decide))⟩
        · intro _
          walk_at "go"
          refine f_p ⟨F, rfl, rfl⟩ fun y G4 e5 hy => ⟨rfl, by omega, ?_⟩
          exact ⟨b, _, o3, _, us ++ [F.minus], rfl, rfl, hd_up e5 ho3, by simp [hul], ro_snoc (DaAll.up (e4.trans e5) hus) hy, hbd.snoc (Fk.bd_mono Fk.bd_minus (by decide))⟩
      · intro hb0
        refine ws_drop (w_append ?_)
        walk_at "go"
        refine ⟨1, lp, xs, rfl, rfl, ?_⟩
        walk_at "go"
        refine f_h ho' ⟨F, rfl, rfl⟩ fun y G3 o3 e4 ho3 hk => ⟨rfl, by omega, ?_⟩
        obtain ⟨un, hy, hbu⟩ := hk
        exact ⟨b, _, o3, _, us ++ [un], rfl, rfl, ho3, by simp [hul], ro_snoc (DaAll.up e4 hus) hy, hbd.snoc hbu⟩
    · rintro σ' G' O' e2 ⟨b, u, o', xs, us, rfl, rfl, ho', hul, hus, hbd⟩
      rw [Int.toNat_natCast] at hul
      refine ws_frzD 1 rfl hus fun G3 e3 hl => ?_
      walk_at "go"
      exact ⟨_, rfl, hd_up e3 ho', us, hul, hl, hbd⟩
theorem sc_law_factors : FnScope ["_law_hand_here", "_law_prime_here", "_law_many", "_law_k"] ["_law_hand_here", "_law_prime_here", "_law_many"] (defScope s_law_factors) := ⟨rfl, rfl, rfl, by decide +kernel, rfl, by decide +kernel, by decide +kernel⟩
theorem cal_law_factors (T : Txt K mg) : C8.Cal P w K mg base 4 "_law_factors" (Fn (SH R_law_table)) [] := by
  refine cal_by T.d_law_factors sc_law_factors (fun vs G O R h => ?_) (fun f cdv A outer s H vs G O R E hr h => ?_)
  · obtain ⟨_, _, _, rfl, _, _, _, ⟨F, _, rfl, _⟩, _⟩ := h; rfl
  · obtain ⟨h, o, _, rfl, rfl, ho, post, ⟨F, many, rfl, hm, rfl⟩, rfl⟩ := h
    refine ⟨_, (pss_one (ps_ret (pe_lc (own := [("_law_k", 3)]) rfl sc_law_factors.nd (pi_range1 rfl T.b_range (pa_cons (pv 2) pa_nil)) (blkOk_by (N := ["_law_hand_here", "_law_prime_here", "_law_many", "_law_k"]) (sc := defScope s_law_factors) (by decide +kernel)) (fun _ _ _ _ _ => (pg_name (i := 3) sc_law_factors.nd rfl (Or.inl rfl))) (fun _ _ _ _ _ => pts_nil) (fun _ _ _ _ _ => (C8.pe_c (cal_law_number T) hr (by omega) rfl (pa_cons (pv 0) (pa_cons (pv 1) pa_nil))))))), ?_⟩
    show WS _ [some (.ref h), some (.int (F.p : Int)), some (.int (many : Int)), none] _ _ _
    refine ws_ret (w_lcG (i_range1 ?_))
    walk_at "go"
    refine ⟨by omega, by omega, _, _, by omega, wk_range0, fun i xs G' O' => ∃ (o' : HO) (us : List F.U), O' = [(h, o')] ∧ HdOk G' o' ∧ us.length = i ∧ DaAll G' [] xs (us.map F.dat) ∧ allBd F 4 us, ⟨o, [], rfl, ho, rfl, .nil, fun u hu => by cases hu⟩, ?_, ?_⟩
    · rintro i x xs G' O' hi e1 ⟨o', us, rfl, ho', hul, hus, hbd⟩ G2 e2 rfl
      refine g_name ⟨rfl, t_yes ⟨fun _ => ?_, fun z => by cases z⟩⟩
      walk_at "go"
      refine f_h (hd_up e2 ho') ⟨F, rfl, rfl⟩ fun y G3 o3 e4 ho3 hk => ?_
      obtain ⟨un, hy, hbu⟩ := hk
      exact ⟨o3, us ++ [un], rfl, ho3, by simp [hul], ro_snoc (DaAll.up (e2.trans e4) hus) hy, hbd.snoc hbu⟩
    · rintro acc p G' O' hl e1 ⟨o', us, rfl, ho', hul, hus, hbd⟩ G2 e2 hp
      rw [Int.toNat_natCast] at hul
      exact ⟨o', rfl, hd_up e2 ho', us, hul, .lst (.inl hp) (DaAll.up e2 hus), hbd⟩
theorem sc_law_scaled : FnScope ["_law_prime_here", "_law_picture_here", "_law_table_here", "_law_points", "_law_shuts", "_law_out", "_law_place", "_law_point", "_law_shut_here"] ["_law_prime_here", "_law_picture_here", "_law_table_here", "_law_points", "_law_shuts"] (defScope s_law_scaled) := ⟨rfl, rfl, rfl, by decide +kernel, rfl, by decide +kernel, by decide +kernel⟩
/-- the new list is the caller's own -/
def S_law_scaled : Sg := fun vs G O R => O = [] ∧ ∃ (F : Fk) (n m : Nat) (ps : List (Nat × Nat)) (us Pt Wt : List F.U) (v0 vt vP vW : V), vs = [.int (F.p : Int), v0, vt, vP, vW] ∧ PW n m ps ∧ Da G [] v0 (dpic n m ps) ∧ Ro F G vt us ∧ Ro F G vP Pt ∧ Ro F G vW Wt ∧ us.length = ps.length ∧ Pt.length = n ∧ Wt.length = m ∧ allBd F 20 us ∧ allBd F 400 Pt ∧ allBd F 400 Wt ∧
  R = fun v G' O' => ∃ l xs, v = .ref l ∧ O' = [(l, .lst xs)] ∧ DaAll G' [] xs ((scaled ps us Pt Wt).map F.dat)
theorem cal_law_scaled (T : Txt K mg) : C8.Cal P w K mg base 4 "_law_scaled" (Fn S_law_scaled) [] := by
  refine cal_by T.d_law_scaled sc_law_scaled (fun vs G O R h => ?_) (fun f cdv A outer s H vs G O R E hr h => ?_)
  · obtain ⟨rfl, F, n, m, ps, us, Pt, Wt, v0, vt, vP, vW, rfl, _⟩ := h; rfl
  · obtain ⟨rfl, F, n, m, ps, us, Pt, Wt, v0, vt, vP, vW, rfl, pw, hv0, hvt, hvP, hvW, hul, hPl, hWl, bu, bP, bW, rfl⟩ := h
    refine ⟨_, (pss_cons (ps_set (i := 5) sc_law_scaled.nd rfl (Or.inl rfl) (pe_lst pa_nil))
    (pss_cons (ps_for PassesOwn.never rfl (pi_range1 rfl T.b_range (pa_cons (pe_callB (lenK K rfl) rfl T.b_len PySem.boot_len (pa_cons (pv 2) pa_nil)) pa_nil)) (pg_name (i := 6) sc_law_scaled.nd rfl (Or.inl rfl))
      (pss_cons (ps_asg (pe_ix (ixK K rfl) (pe_ix (ixK K rfl) (pv 1) pe_int (fun _ _ => rfl)) (pv 6) (fun _ _ => rfl)) (pg_tupK K rfl (n := 2) rfl (pgs_cons (pg_name (i := 7) sc_law_scaled.nd rfl (Or.inl rfl)) (pgs_cons (pg_name (i := 8) sc_law_scaled.nd rfl (Or.inl rfl)) pgs_nil))))
      (pss_one (ps_expr (pe_bm PySem.F.plainAttrs_list PySem.F.slot_list_append PySem.F.type_list_append mt_append (pv 5) (pa_cons (C8.pe_c (cal_law_times T) hr (by omega) rfl (pa_cons (pv 0) (pa_cons (pe_ix (ixK K rfl) (pv 2) (pv 6) (fun _ _ => rfl)) (pa_cons (C8.pe_c (cal_law_times T) hr (by omega) rfl (pa_cons (pv 0) (pa_cons (pe_ix (ixK K rfl) (pv 3) (pv 7) (fun _ _ => rfl)) (pa_cons (pe_ix (ixK K rfl) (pv 4) (pv 8) (fun _ _ => rfl)) pa_nil)))) pa_nil)))) pa_nil))))))
    (pss_one (ps_ret (pv 5))))), ?_⟩
    show WS _ [some (.int (F.p : Int)), some (v0), some (vt), some (vP), some (vW), none, none, none, none] _ _ _
    have l25 := pw.len
    walk_at "go"
    refine w_lst ?_
    walk_at "go"
    refine ⟨by decide, fun lp hlp => ?_⟩
    dsimp only [List.cons_append, List.nil_append]
    refine ws_seq ?_
    refine ws_for (i_range1 ?_)
    walk_at "go"
    refine r_lenD hvt ?_
    rw [List.length_map]
    walk_at "go"
    refine ⟨by omega, by omega, _, _, wk_range0, fun i σ G' O' => ∃ (u1 u2 u3 : Option V) (xs : List V), σ = [some (.int (F.p : Int)), some v0, some vt, some vP, some vW, some (.ref lp), u1, u2, u3] ∧ O' = [(lp, .lst xs)] ∧ DaAll G' [] xs (((List.range i).map fun k => us.getD k 1 * (Pt.getD (pa ps k).1 1 * Wt.getD (pa ps k).2 1)).map F.dat),
      ⟨_, _, _, [], rfl, rfl, .nil⟩, ?_, ?_⟩
    · rintro i x σ' G' O' hi e2 ⟨u1, u2, u3, xs, rfl, rfl, hxs⟩ G2 e3 rfl
      have hi : i < us.length := by omega
      have hin := pa_in pw (by omega : i < ps.length)
      have hxs := DaAll.up e3 hxs
      have hlx := daAll_len hxs
      simp only [List.length_map, List.length_range] at hlx
      have hv0 := Da.up (e2.trans e3) hv0
      have hvt := ro_up (e2.trans e3) hvt
      have hvP := ro_up (e2.trans e3) hvP
      have hvW := ro_up (e2.trans e3) hvW
      walk_at "go"
      refine r_atD (j := 2) (.inl hv0) rfl rfl fun vp hvp => ?_
      walk_at "go"
      refine r_atD (j := i) (.inl hvp) (pa_get (by omega)) rfl fun y hy => ?_
      refine g_tupD hy rfl fun zs hzs => ?_
      obtain ⟨v1, v2, rfl, h1, h2⟩ := da2 hzs
      rw [da_int h1, da_int h2]
      refine g_cons (g_name (g_cons (g_name (g_nil ?_))))
      refine ws_drop (w_append ?_)
      walk_at "go"
      refine ⟨0, lp, xs, rfl, rfl, ?_⟩
      walk_at "go"
      refine r_atD (j := i) hvt (ro_get hi) rfl fun y1 hy1 => ?_
      walk_at "go"
      refine r_atD (j := (pa ps i).1) hvP (ro_get (by omega)) rfl fun y2 hy2 => ?_
      walk_at "go"
      refine r_atD (j := (pa ps i).2) hvW (ro_get (by omega)) rfl fun y3 hy3 => ?_
      walk_at "go"
      refine f_p ⟨F, _, _, _, _, rfl, hy2, hy3, Fk.bd_mono (bP.get _) (by decide), Fk.bd_mono (bW.get _) (by decide), rfl⟩ fun y4 G3 e4 hy4 => ?_
      walk_at "go"
      refine f_p ⟨F, _, _, _, _, rfl, nu_up e4 hy1, hy4, Fk.bd_mono (bu.get _) (by decide), Fk.bd_mono (Fk.bd_mul (bP.get _) (bW.get _)) (by decide), rfl⟩ fun y5 G4 e5 hy5 => ⟨rfl, by omega, ?_⟩
      refine ⟨_, _, _, _, rfl, rfl, ?_⟩
      rw [List.range_succ, List.map_append]
      exact ro_snoc (DaAll.up (e4.trans e5) hxs) hy5
    · rintro σ' G' O' e2 ⟨u1, u2, u3, xs, rfl, rfl, hxs⟩
      walk_at "go"
      rw [Int.toNat_natCast] at hxs
      exact ⟨lp, xs, rfl, rfl, hxs⟩
end
/-! text Q5 -/
section
variable {P : Program} {w : World} {K : PySem.W.Frag} {mg : Str → Option Value} {base : Heap}
def putU {U : Type} [Gp U] (os : List Nat) (ws : List U) (N i : Nat) : List U := (List.range i).foldl (fun o k => o.set (os.getD k 0) (ws.getD k 1)) (List.replicate N 1)
theorem putU_succ {U : Type} [Gp U] (os : List Nat) (ws : List U) (N i : Nat) : putU os ws N (i + 1) = (putU os ws N i).set (os.getD i 0) (ws.getD i 1) := by rw [putU, List.range_succ, List.foldl_append]; rfl
theorem putU_len {U : Type} [Gp U] (os : List Nat) (ws : List U) (N i : Nat) : (putU os ws N i).length = N := by
  induction i with
  | zero => simp [putU]
  | succ i ih => rw [putU_succ, List.length_set, ih]
def worths {U : Type} [Gp U] (n m : Nat) (ps : List (Nat × Nat)) (us : List U) : List U := (List.range (oth n m ps).length).map fun i => worth us.length us (btour n m ps i)
def plain {U : Type} [Gp U] (n m : Nat) (ps : List (Nat × Nat)) (us : List U) : List U := putU (oth n m ps) (worths n m ps us) ps.length (oth n m ps).length
theorem worths_get {U : Type} [Gp U] {n m : Nat} {ps : List (Nat × Nat)} {us : List U} {i : Nat} (h : i < (oth n m ps).length) : (worths n m ps us).getD i 1 = worth us.length us (btour n m ps i) := by
  rw [worths, List.getD_eq_getElem?_getD, List.getElem?_map, List.getElem?_range h]; rfl
theorem basis_get {n m : Nat} {ps : List (Nat × Nat)} {i : Nat} (h : i < (oth n m ps).length) : (dtours (basis n m ps))[i]? = some (.tuple (dints (btour n m ps i))) := by
  rw [dtours, basis, List.map_map, List.getElem?_map, List.getElem?_range h]; rfl
theorem flat_rep {α : Type} (N : Nat) (x : α) : (List.replicate N [x]).flatten = List.replicate N x := by
  induction N with
  | zero => rfl
  | succ N ih => rw [List.replicate_succ, List.replicate_succ, List.flatten_cons, ih]; rfl
theorem sc_law_plain : FnScope ["_law_prime_here", "_law_picture_here", "_law_table_here", "_law_out", "_law_others_here", "_law_basis_here", "_law_k"] ["_law_prime_here", "_law_picture_here", "_law_table_here"] (defScope s_law_plain) := ⟨rfl, rfl, rfl, by decide +kernel, rfl, by decide +kernel, by decide +kernel⟩
def R_law_plain : Rel := fun ws G post => ∃ (F : Fk) (n m : Nat) (ps : List (Nat × Nat)) (us : List F.U) (v0 vt : V), ws = [.int (F.p : Int), v0, vt] ∧ PW n m ps ∧ Da G [] v0 (dpic n m ps) ∧ Ro F G vt us ∧ us.length = ps.length ∧ allBd F 16 us ∧ post = fun v G' => Da G' [] v (.tuple ((plain n m ps us).map F.dat))
theorem cal_law_plain (T : Txt K mg) : C8.Cal P w K mg base 7 "_law_plain" (Fn (SP R_law_plain)) [] := by
  refine cal_by T.d_law_plain sc_law_plain (fun vs G O R h => ?_) (fun f cdv A outer s H vs G O R E hr h => ?_)
  · obtain ⟨_, _, ⟨F, _, _, _, _, _, _, rfl, _⟩, _⟩ := h; rfl
  · obtain ⟨rfl, post, ⟨F, n, m, ps, us, v0, vt, rfl, pw, hv0, hvt, hul, bu, rfl⟩, rfl⟩ := h
    refine ⟨_, (pss_cons (ps_set (i := 3) sc_law_plain.nd rfl (Or.inl rfl) (pe_op op_rep (pe_lst (pa_cons (C8.pe_c (cal_law_one T) hr (by omega) rfl (pa_cons (pv 0) pa_nil)) pa_nil)) (pe_callB (lenK K rfl) rfl T.b_len PySem.boot_len (pa_cons (pv 2) pa_nil))))
    (pss_cons (ps_set (i := 4) sc_law_plain.nd rfl (Or.inl rfl) (C8.pe_c (cal_law_others T) hr (by omega) rfl (pa_cons (pv 1) pa_nil)))
    (pss_cons (ps_set (i := 5) sc_law_plain.nd rfl (Or.inl rfl) (C8.pe_c (cal_law_basis T) hr (by omega) rfl (pa_cons (pv 1) pa_nil)))
    (pss_cons (ps_for PassesOwn.never rfl (pi_range1 rfl T.b_range (pa_cons (pe_callB (lenK K rfl) rfl T.b_len PySem.boot_len (pa_cons (pv 4) pa_nil)) pa_nil)) (pg_name (i := 6) sc_law_plain.nd rfl (Or.inl rfl))
      (pss_one (ps_asg (C8.pe_c (cal_law_worth T) hr (by omega) rfl (pa_cons (pv 0) (pa_cons (pv 2) (pa_cons (pe_ix (ixK K rfl) (pv 5) (pv 6) (fun _ _ => rfl)) pa_nil)))) (pg_sub (pv 3) (pe_ix (ixK K rfl) (pv 4) (pv 6) (fun _ _ => rfl)) set_list))))
    (pss_one (ps_ret (pe_callTy (tupleK K rfl) rfl T.b_tuple PyProof.Rows.boot_tuple (pa_cons (pv 3) pa_nil)))))))), ?_⟩
    show WS _ [some (.int (F.p : Int)), some (v0), some (vt), none, none, none, none] _ _ _
    have l25 := pw.len
    have ol := oth_len (n := n) (m := m) (ps := ps)
    walk_at "go"
    refine w_lstG ?_
    walk_at "go"
    refine f_p ⟨F, rfl, rfl⟩ fun v1 G1 e1 hv1 => ?_
    walk_at "go"
    refine ⟨(by show 1 ≤ sizeLine; decide), fun zp G2 e2 hzp => ?_⟩
    walk_at "go"
    refine r_lenD (ro_up (e1.trans e2) hvt) ?_
    rw [List.length_map]
    refine r_rep (.inl hzp) (by omega) (by omega) (by have := sizeLine_eq; simp only [List.length_cons, List.length_nil]; omega) fun op hop => ?_
    rw [Int.toNat_natCast, flat_rep]
    dsimp only [List.nil_append]
    walk_at "go"
    refine f_p ⟨n, m, ps, _, pw, rfl, Da.up (e1.trans e2) hv0, rfl⟩ fun vo G3 e3 hvo => ?_
    walk_at "go"
    refine f_p ⟨n, m, ps, _, pw, rfl, Da.up ((e1.trans e2).trans e3) hv0, rfl⟩ fun vb G4 e4 hvb => ?_
    refine ws_seq ?_
    refine ws_for (i_range1 ?_)
    walk_at "go"
    have hvo4 := Da.up e4 hvo
    refine r_lenD (.inl hvo4) ?_
    rw [dn_len]
    have hvt4 := ro_up (((e1.trans e2).trans e3).trans e4) hvt
    have hv14 := nu_up ((e2.trans e3).trans e4) hv1
    walk_at "go"
    refine ⟨by omega, by omega, _, _, wk_range0, fun i σ G' O' => ∃ (u : Option V) (xs : List V), σ = [some (.int (F.p : Int)), some v0, some vt, some (.ref op), some vo, some vb, u] ∧ O' = [(op, .lst xs)] ∧ DaAll G' [] xs ((putU (oth n m ps) (worths n m ps us) ps.length i).map F.dat), ⟨_, _, rfl, rfl, ?_⟩, ?_, ?_⟩
    · show DaAll _ _ _ ((List.replicate ps.length 1).map F.dat)
      rw [List.map_replicate, hul]
      exact daAll_rep _ hv14
    · rintro i x σ' G' O' hi e5 ⟨u, xs, rfl, rfl, hxs⟩ G6 e6 rfl
      have hi : i < (oth n m ps).length := by omega
      have hxs := DaAll.up e6 hxs
      have hlx := daAll_len hxs
      rw [List.length_map, putU_len] at hlx
      have hvo := Da.up (e5.trans e6) hvo4
      have hvb := Da.up (e5.trans e6) hvb
      have hvt := ro_up (e5.trans e6) hvt4
      have hm := (oth_mem.mp (oth_getm hi)).1
      walk_at "go"
      refine r_atD (j := i) (.inl hvb) (basis_get hi) rfl fun y hy => ?_
      walk_at "go"
      refine f_p ⟨F, us, _, _, _, rfl, hvt, hy, by rw [btour_len, hul], by omega, btour_small pw hi, bu, rfl⟩ fun v6 G7 e7 hv6 => ?_
      walk_at "go"
      refine r_atD (j := i) (.inl (Da.up e7 hvo)) (dn_get hi) rfl fun y hy => ?_
      rw [da_int hy]
      refine ⟨_, _, _, _, rfl, rfl, rfl, ixN_nat (by omega), ?_⟩
      refine ⟨_, _, rfl, rfl, ?_⟩
      rw [putU_succ, worths_get hi, List.map_set]
      exact daAll_set (DaAll.up e7 hxs) hv6
    · rintro σ' G' O' e5 ⟨u, xs, rfl, rfl, hxs⟩
      rw [Int.toNat_natCast] at hxs
      refine ws_frzD 0 rfl hxs fun G6 e6 hl => ?_
      walk_at "go"
      exact r_tupleD (.inl hl) fun x G7 e7 hx => ⟨rfl, hx⟩
theorem scaled_len {U : Type} [Gp U] {ps : List (Nat × Nat)} {us P W : List U} : (scaled ps us P W).length = us.length := by simp [scaled]
theorem scaled_bd {F : Fk} {ps : List (Nat × Nat)} {us P W : List F.U} {a b c : Nat} (hu : allBd F a us) (hP : allBd F b P) (hW : allBd F c W) : allBd F (a + (b + c)) (scaled ps us P W) := fun u h => by
  obtain ⟨k, _, rfl⟩ := List.mem_map.mp h
  exact Fk.bd_mul (hu.get k) (Fk.bd_mul (hP.get _) (hW.get _))
theorem sc_law_second_table : FnScope ["_law_hand_here", "_law_prime_here", "_law_picture_here", "_law_table_here", "_law_pick", "_law_points", "_law_out", "_law_at"] ["_law_hand_here", "_law_prime_here", "_law_picture_here", "_law_table_here"] (defScope s_law_second_table) := ⟨rfl, rfl, rfl, by decide +kernel, rfl, by decide +kernel, by decide +kernel⟩
def R_law_second_table : Rel := fun ws G post => ∃ (F : Fk) (n m : Nat) (ps : List (Nat × Nat)) (us : List F.U) (v0 vt : V), ws = [.int (F.p : Int), v0, vt] ∧ PW n m ps ∧ Da G [] v0 (dpic n m ps) ∧ Da G [] vt (.list (us.map F.dat)) ∧ us.length = ps.length ∧ allBd F 4 us ∧ post = fun v G' => ∃ us' : List F.U, us'.length = ps.length ∧ Da G' [] v (.list (us'.map F.dat)) ∧ allBd F 16 us'
theorem cal_law_second_table (T : Txt K mg) : C8.Cal P w K mg base 5 "_law_second_table" (Fn (SH R_law_second_table)) [] := by
  refine cal_by T.d_law_second_table sc_law_second_table (fun vs G O R h => ?_) (fun f cdv A outer s H vs G O R E hr h => ?_)
  · obtain ⟨_, _, _, rfl, _, _, _, ⟨F, _, _, _, _, _, _, rfl, _⟩, _⟩ := h; rfl
  · obtain ⟨h, o, _, rfl, rfl, ho, post, ⟨F, n, m, ps, us, v0, vt, rfl, pw, hv0, hvt, hul, bu, rfl⟩, rfl⟩ := h
    refine ⟨_, (pss_cons (ps_set (i := 4) sc_law_second_table.nd rfl (Or.inl rfl) (C8.pe_c (cal_law_draw T) hr (by omega) rfl (pa_cons (pv 0) (pa_cons pe_int pa_nil))))
    (pss_cons (ps_if (pt_cmpR op_eq (pv 4) pe_int (nomark _))
      (pss_one (ps_ret (pe_callTy (listK K rfl) rfl T.b_list PyProof.Rows.boot_list (pa_cons (pv 3) pa_nil))))
      pss_nil)
    (pss_cons (ps_if (pt_cmpR op_eq (pv 4) pe_int (nomark _))
      (pss_one (ps_ret (C8.pe_c (cal_law_table T) hr (by omega) rfl (pa_cons (pv 0) (pa_cons (pv 1) (pa_cons (pe_callB (lenK K rfl) rfl T.b_len PySem.boot_len (pa_cons (pv 3) pa_nil)) pa_nil))))))
      pss_nil)
    (pss_cons (ps_set (i := 5) sc_law_second_table.nd rfl (Or.inl rfl) (C8.pe_c (cal_law_factors T) hr (by omega) rfl (pa_cons (pv 0) (pa_cons (pv 1) (pa_cons (pe_ix (ixK K rfl) (pv 2) pe_int (fun _ _ => rfl)) pa_nil)))))
    (pss_cons (ps_set (i := 6) sc_law_second_table.nd rfl (Or.inl rfl) (C8.pe_c (cal_law_scaled T) hr (by omega) rfl (pa_cons (pv 1) (pa_cons (pv 2) (pa_cons (pv 3) (pa_cons (pv 5) (pa_cons (C8.pe_c (cal_law_factors T) hr (by omega) rfl (pa_cons (pv 0) (pa_cons (pv 1) (pa_cons (pe_ix (ixK K rfl) (pv 2) pe_int (fun _ _ => rfl)) pa_nil)))) pa_nil)))))))
    (pss_cons (ps_if (PW.pt (pw_and (pt_cmpR op_lt (pv 4) pe_int (nomark _)) (pw_and1 (pt_cmpR op_gt (pe_callB (lenK K rfl) rfl T.b_len PySem.boot_len (pa_cons (pv 3) pa_nil)) pe_int (nomark _)))))
      (pss_cons (ps_set (i := 7) sc_law_second_table.nd rfl (Or.inl rfl) (C8.pe_c (cal_law_draw T) hr (by omega) rfl (pa_cons (pv 0) (pa_cons (pe_callB (lenK K rfl) rfl T.b_len PySem.boot_len (pa_cons (pv 3) pa_nil)) pa_nil))))
      (pss_one (ps_asg (C8.pe_c (cal_law_times T) hr (by omega) rfl (pa_cons (pv 1) (pa_cons (pe_ix (ixK K rfl) (pv 6) (pv 7) (fun _ _ => rfl)) (pa_cons (C8.pe_c (cal_law_moving T) hr (by omega) rfl (pa_cons (pv 0) (pa_cons (pv 1) pa_nil))) pa_nil)))) (pg_sub (pv 6) (pv 7) set_list))))
      pss_nil)
    (pss_one (ps_ret (pv 6))))))))), ?_⟩
    show WS _ [some (.ref h), some (.int (F.p : Int)), some (v0), some (vt), none, none, none, none] _ _ _
    have l25 := pw.len
    have n5 := pw.n5
    have m5 := pw.m5
    walk_at "go"
    refine f_h ho ⟨_, rfl, by decide, by decide, rfl⟩ fun v G1 o1 e1 ho1 hk => ?_
    obtain ⟨k, rfl, hk0, hk1⟩ := hk
    walk_at "go"
    walk_at "if"
    · intro _
      walk_at "go"
      exact r_listDG (.inl (Da.up e1 hvt)) fun x G2 e2 hx => ⟨_, rfl, hd_up e2 ho1, us, hul, hx, bu.mono (by decide)⟩
    intro _
    walk_at "go"
    walk_at "if"
    · intro _
      walk_at "go"
      refine r_lenD (.inl (Da.up e1 hvt)) ?_
      rw [List.length_map]
      walk_at "go"
      refine f_h ho1 ⟨F, us.length, rfl, by omega, rfl⟩ fun v G2 o2 e2 ho2 hk => ?_
      obtain ⟨us', h1, h2, h3⟩ := hk
      exact ⟨_, rfl, ho2, us', by omega, h2, h3.mono (by decide)⟩
    intro _
    walk_at "go"
    refine r_atD (j := 0) (.inl (Da.up e1 hv0)) rfl rfl fun y hy => ?_
    rw [da_int hy]
    walk_at "go"
    refine f_h ho1 ⟨F, n, rfl, by omega, rfl⟩ fun vP G2 o2 e2 ho2 hk => ?_
    obtain ⟨Pt, hPl, hvP, bP⟩ := hk
    walk_at "go"
    refine r_atD (j := 1) (.inl (Da.up (e1.trans e2) hv0)) rfl rfl fun y hy => ?_
    rw [da_int hy]
    walk_at "go"
    refine f_h ho2 ⟨F, m, rfl, by omega, rfl⟩ fun vW G3 o3 e3 ho3 hk => ?_
    obtain ⟨Wt, hWl, hvW, bW⟩ := hk
    walk_at "go"
    have hv0 := Da.up ((e1.trans e2).trans e3) hv0
    have hvt := Da.up ((e1.trans e2).trans e3) hvt
    refine f_own ⟨rfl, F, n, m, ps, us, Pt, Wt, _, _, _, _, rfl, pw, hv0, .inl hvt, .inl (Da.up e3 hvP), .inl hvW, hul, hPl, hWl, bu.mono (by decide), bP.mono (by decide), bW.mono (by decide), rfl⟩ fun v G4 A4 e4 hv => ?_
    obtain ⟨l, xs, rfl, rfl, hxs⟩ := hv
    dsimp only [List.cons_append, List.nil_append]
    have bs : allBd F 12 (scaled ps us Pt Wt) := scaled_bd bu bP bW
    have hsl : (scaled ps us Pt Wt).length = ps.length := by rw [scaled_len, hul]
    refine ws_seqI (fun σ G' O' => ∃ (u1 : Option V) (o' : HO) (xs : List V) (us' : List F.U), σ = [some (.ref h), some (.int (F.p : Int)), some v0, some vt, some (.int k), some vP, some (.ref l), u1] ∧ O' = [(h, o'), (l, .lst xs)] ∧ HdOk G' o' ∧ DaAll G' [] xs (us'.map F.dat) ∧ us'.length = ps.length ∧ allBd F 16 us') ?_ ?_
    · walk_at "go"
      walk_at "if"
      · intro _
        walk_at "go"
        refine r_lenD (.inl (Da.up e4 hvt)) ?_
        rw [List.length_map]
        walk_at "go"
        walk_at "if"
        · intro hc
          walk_at "go"
          refine r_lenD (.inl (Da.up e4 hvt)) ?_
          rw [List.length_map]
          walk_at "go"
          refine f_h (hd_up e4 ho3) ⟨_, rfl, by omega, by omega, rfl⟩ fun v5 G5 o5 e5 ho5 hk => ?_
          obtain ⟨j, rfl, hj0, hj1⟩ := hk
          obtain ⟨jn, rfl⟩ : ∃ jn : Nat, j = jn := ⟨j.toNat, by omega⟩
          have hxs5 := DaAll.up e5 hxs
          have hlx := daAll_len hxs5
          rw [List.length_map, hsl] at hlx
          obtain ⟨y, hy, hyd⟩ := daAll_get hxs5 (ro_get (by omega : jn < (scaled ps us Pt Wt).length))
          walk_at "go"
          refine r_own 1 rfl (atI_nat hy) ?_
          walk_at "go"
          refine f_h ho5 ⟨F, rfl, rfl⟩ fun v6 G6 o6 e6 ho6 hk => ?_
          obtain ⟨un, hun, bun⟩ := hk
          walk_at "go"
          refine f_p ⟨F, _, _, _, _, rfl, nu_up e6 hyd, hun, Fk.bd_mono (bs.get _) (by decide), Fk.bd_mono bun (by decide), rfl⟩ fun v7 G7 e7 hv7 => ?_
          refine g_sub 1 ?_
          walk_at "go"
          refine ⟨_, _, _, _, rfl, rfl, rfl, ixN_nat (by omega), ?_⟩
          refine ⟨_, _, _, (scaled ps us Pt Wt).set jn ((scaled ps us Pt Wt).getD jn 1 * un), rfl, rfl, hd_up e7 ho6, ?_, by rw [List.length_set, hsl], fun u hu => ?_⟩
          · rw [List.map_set]
            exact daAll_set (DaAll.up (e6.trans e7) hxs5) hv7
          · rcases List.mem_or_eq_of_mem_set hu with z | z
            · exact Fk.bd_mono (bs u z) (by decide)
            · rw [z]; exact Fk.bd_mul (bs.get _) bun
        · intro hc
          walk_at "go"
          exact ⟨_, _, _, _, rfl, rfl, hd_up e4 ho3, hxs, hsl, bs.mono (by decide)⟩
      · intro _
        walk_at "go"
        exact ⟨_, _, _, _, rfl, rfl, hd_up e4 ho3, hxs, hsl, bs.mono (by decide)⟩
    · rintro σ G5 O5 e5 ⟨u1, o', xs', us', rfl, rfl, ho', hxs', hl', b'⟩
      refine ws_frzD 1 rfl hxs' fun G6 e6 hl => ?_
      walk_at "go"
      exact ⟨_, rfl, hd_up e6 ho', us', hl', hl, b'⟩
end
/-! text R1 -/
section
variable {P : Program} {w : World} {K : PySem.W.Frag} {mg : Str → Option Value} {base : Heap}
theorem sc_is_whole : FnScope ["thing", "low", "high"] ["thing", "low", "high"] (defScope s_is_whole) := ⟨rfl, rfl, rfl, by decide +kernel, rfl, by decide +kernel, by decide +kernel⟩
def opV : Option Int → V
  | none => .non
  | some i => .int i
def geO (l : Option Int) (i : Int) : Bool := match l with
  | none => true
  | some l => decide (l ≤ i)
def leO (l : Option Int) (i : Int) : Bool := match l with
  | none => true
  | some l => decide (i ≤ l)
/-- no whole number -/
def NoW (K : PySem.W.Frag) (G : Hp) (x : V) : Prop := (∃ b, x = .bl b) ∨ ∃ t, TyK K G [] x (.type t) ∧ kitB t "int" = some false
theorem tyK_wk {K : PySem.W.Frag} {G : Hp} {O : OL} {x : V} {t : Value} (h : TyK K G [] x t) : TyK K G O x t := by
  cases h with
  | non => exact .non
  | bl b => exact .bl b
  | int i => exact .int i
  | str z => exact .str z
  | lst h => exact .lst (h.elim .inl fun z => by cases z)
  | tup h => exact .tup h
  | ins h c => exact .ins h c
def R_is_whole (K : PySem.W.Frag) : Rel := fun ws G post => ∃ x lo hi, ws = [x, lo, hi] ∧ ((∃ (i : Int) (l h : Option Int), x = .int i ∧ lo = opV l ∧ hi = opV h ∧ post = fun v _ => v = .bl (geO l i && leO h i)) ∨ (NoW K G x ∧ post = fun v _ => v = .bl false))
theorem fn_is_whole (T : Txt K mg) {fd : FuncData} (F : FunD K "is_whole" "is_whole" (defArgs s_is_whole) (defBody s_is_whole) (defScope s_is_whole) [.non, .non] [] (ga K "is_whole") fd) : FnOk P w K mg base CX0 1 (ga K "is_whole") fd ["thing", "low", "high"] (Fn (SP (R_is_whole K))) := by
  refine F.ok sc_is_whole (fun vs H Q E h => ?_) (fun cdv A outer s H vs Q E hr h => ?_)
  · obtain ⟨_, _, _, _, ⟨_, _, ⟨_, _, _, rfl, _⟩, _⟩, _⟩ := h; rfl
  · obtain ⟨G, O, R, m, hS, q⟩ := h
    have key : ∃ t, PSs (cxOf CX0 P w K mg base ["thing", "low", "high"] "is_whole" (defScope s_is_whole) (ga K "is_whole") cdv A outer s H E).nox (defBody s_is_whole) t ∧ WS t (start ["thing", "low", "high"] vs) G O { nx := fun _ G' O' => R .non G' O', rt := R } := by
      obtain ⟨rfl, post, ⟨x, lo, hi, rfl, hx⟩, rfl⟩ := hS
      refine ⟨_, (pss_cons (ps_if (PW.pt (pw_or (pt_not (pt_val (pe_callB (isiK K rfl) rfl T.b_isinstance PyProof.Rows.boot_isinstance (pa_cons (pv 0) (pa_cons (pe_bltn (v := .ty "int") rfl T.b_int PyProof.Rows.boot_int rfl) pa_nil))))) (pw_or1 (pt_val (pe_callB (isiK K rfl) rfl T.b_isinstance PyProof.Rows.boot_isinstance (pa_cons (pv 0) (pa_cons (pe_bltn (v := .ty "bool") rfl T.b_bool PyProof.Rows.boot_bool rfl) pa_nil)))))))
      (pss_one (ps_ret pe_bl))
      pss_nil)
    (pss_cons (ps_if (PW.pt (pw_and (pt_cmpR op_notNone (pv 1) pe_non (nomark _)) (pw_and1 (pt_cmpR op_lt (pv 0) (pv 1) (nomark _)))))
      (pss_one (ps_ret pe_bl))
      pss_nil)
    (pss_one (ps_ret (pe_or (pe_cmpR op_isNone (pv 2) pe_non (nomark _)) (pe_one (pe_cmpR op_le (pv 0) (pv 2) (nomark _)))))))), ?_⟩
      show WS _ [some (x), some (lo), some (hi)] _ _ _
      rcases hx with ⟨i, l, h, rfl, rfl, rfl, rfl⟩ | ⟨hx, rfl⟩
      · refine ws_seqI (fun σ G' O' => σ = [some (.int i), some (opV l), some (opV h)] ∧ O' = []) (by walk_at "go"; exact ⟨rfl, rfl⟩) ?_
        rintro σ G1 O1 e1 ⟨rfl, rfl⟩
        refine ws_seqI (fun σ G' O' => geO l i = true ∧ σ = [some (.int i), some (opV l), some (opV h)] ∧ O' = []) ?_ ?_
        · cases l with
          | none =>
            show WS _ [some (V.int i), some V.non, some (opV h)] _ _ _
            walk_at "go"
            refine ⟨fun z => by simp at z, fun _ => cj_f ?_⟩
            walk_at "go"
            exact ⟨rfl, rfl, rfl⟩
          | some l =>
            show WS _ [some (V.int i), some (V.int l), some (opV h)] _ _ _
            walk_at "go"
            refine ⟨fun _ => ?_, fun z => by simp at z⟩
            walk_at "go"
            walk_at "if"
            · intro hc
              walk_at "go"
              refine ⟨rfl, ?_⟩
              rw [show geO (some l) i = false from decide_eq_false (by omega)]; rfl
            · intro hc
              walk_at "go"
              exact ⟨decide_eq_true (by omega), rfl, rfl⟩
        · rintro σ G' O' e ⟨hg, rfl, rfl⟩
          rw [hg]
          cases h with
          | none =>
            show WS _ [some (V.int i), some (opV l), some V.non] _ _ _
            walk_at "go"
            exact ⟨fun _ => ⟨rfl, rfl⟩, fun z => by simp at z⟩
          | some h =>
            show WS _ [some (V.int i), some (opV l), some (V.int h)] _ _ _
            walk_at "go"
            exact ⟨fun z => (by simp at z), fun _ => by walk_at "go"; exact ⟨rfl, rfl⟩⟩
      · rcases hx with ⟨b, rfl⟩ | ⟨t, hty, hk⟩
        · walk_at "go"
          exact ⟨rfl, rfl⟩
        · walk_at "go"
          refine r_isiTy (tyK_wk hty) hk ?_
          walk_at "go"
          exact ⟨rfl, rfl⟩
    obtain ⟨t, ht, hw⟩ := key
    exact ⟨t, ht.nox, hw H m _ ⟨fun _ H' G' O' m' u r => q .non H' G' O' m' u r, q, fun _ _ _ _ _ _ z => z, fun _ _ _ _ _ _ z => z⟩⟩
theorem cal_is_whole3 (T : Txt K mg) : C8.Cal P w K mg base 1 "is_whole" (Fn (SP (R_is_whole K))) [] := by
  obtain ⟨fd, F⟩ := T.d_is_whole
  obtain ⟨ds, hd, hb⟩ := F.binds1 (ps := ["thing", "low", "high"]) 3 2 (by simp) rfl (fun Tt kV doc pm an cdv ct us its h1 h2 => by
    match us, h1, its, h2 with
    | [a, b, c], _, [x, y], _ => exact ⟨_, rfl, rfl⟩)
  exact ⟨_, fd, _, ds, fn_is_whole T F, T.g_is_whole, F.kp, hb, hd⟩
theorem cal_is_whole2 (T : Txt K mg) : C8.Cal P w K mg base 1 "is_whole" (Fn (SP (R_is_whole K))) [.non] := by
  obtain ⟨fd, F⟩ := T.d_is_whole
  obtain ⟨ds, hd, hb⟩ := F.binds1 (ps := ["thing", "low", "high"]) 2 1 (by simp) rfl (fun Tt kV doc pm an cdv ct us its h1 h2 => by
    match us, h1, its, h2 with
    | [a, b], _, [x, y], _ => exact ⟨_, rfl, rfl⟩)
  exact ⟨_, fd, _, ds, fn_is_whole T F, T.g_is_whole, F.kp, hb, hd⟩
theorem cal_is_whole1 (T : Txt K mg) : C8.Cal P w K mg base 1 "is_whole" (Fn (SP (R_is_whole K))) [.non, .non] := by
  obtain ⟨fd, F⟩ := T.d_is_whole
  obtain ⟨ds, hd, hb⟩ := F.binds1 (ps := ["thing", "low", "high"]) 1 0 (by simp) rfl (fun Tt kV doc pm an cdv ct us its h1 h2 => by
    match us, h1, its, h2 with
    | [a], _, [x, y], _ => exact ⟨_, rfl, rfl⟩)
  exact ⟨_, fd, _, ds, fn_is_whole T F, T.g_is_whole, F.kp, hb, hd⟩
end
/-! text R2 -/
section
variable {P : Program} {w : World} {K : PySem.W.Frag} {mg : Str → Option Value} {base : Heap}
theorem sc_common_divisor : FnScope ["one", "other", "first", "second"] ["one", "other"] (defScope s_common_divisor) := ⟨rfl, rfl, rfl, by decide +kernel, rfl, by decide +kernel, by decide +kernel⟩
def R_common_divisor : Rel := fun ws _ post => ∃ i j : Int, ws = [.int i, .int j] ∧ post = fun v _ => v = .int (Int.gcd i j : Nat)
theorem cal_common_divisor (T : Txt K mg) : C8.Cal P w K mg base 1 "common_divisor" (Fn (SP R_common_divisor)) [] := by
  refine cal_by T.d_common_divisor sc_common_divisor (fun vs G O R h => ?_) (fun f cdv A outer s H vs G O R E hr h => ?_)
  · obtain ⟨_, _, ⟨a, b, rfl, _⟩, _⟩ := h; rfl
  · obtain ⟨rfl, post, ⟨i, j, rfl, rfl⟩, rfl⟩ := h
    refine ⟨_, (pss_cons (ps_par (i := 2) (j := 3) (by rfl) sc_common_divisor.nd rfl rfl (by decide) rfl rfl (pa_cons (pe_callB cl_abs rfl T.b_abs PyProof.Rows.boot_abs (pa_cons (pv 0) pa_nil)) (pa_cons (pe_callB cl_abs rfl T.b_abs PyProof.Rows.boot_abs (pa_cons (pv 1) pa_nil)) pa_nil)) (by rfl))
    (pss_cons (ps_while PassesOwn.never (pt_truK K rfl (pv 3) (by intro _; rfl))
      (pss_one (ps_par (i := 2) (j := 3) (by rfl) sc_common_divisor.nd rfl rfl (by decide) rfl rfl (pa_cons (pv 3) (pa_cons (pe_op op_mod (pe_callTy cl_int rfl T.b_int PyProof.Rows.boot_int (pa_cons (pv 2) pa_nil)) (pv 3)) pa_nil)) (by rfl))))
    (pss_one (ps_ret (pv 2))))), ?_⟩
    show WS _ [some (.int i), some (.int j), none, none] _ _ _
    have e1 : (if i < 0 then -i else i) = (i.natAbs : Int) := by split <;> omega
    have e2 : (if j < 0 then -j else j) = (j.natAbs : Int) := by split <;> omega
    walk_at "go"
    rw [e1, e2]
    refine ⟨_, _, rfl, ?_⟩
    refine ws_seq ?_
    refine ws_while (fun μ σ G' O' => ∃ a b : Nat, b = μ ∧ σ = [some (.int i), some (.int j), some (.int (a : Int)), some (.int (b : Int))] ∧ O' = [] ∧ Nat.gcd a b = Int.gcd i j) j.natAbs ⟨_, _, rfl, rfl, rfl, rfl⟩ ?_
    rintro μ σ' G' O' e ⟨a, b, rfl, rfl, rfl, hg⟩
    refine t_tru ?_
    walk_at "go"
    refine .inl ⟨_, rfl, fun hc => ?_, fun hc => ?_⟩
    · have hb : 0 < b := by
        have : (b : Int) ≠ 0 := by simpa using hc
        omega
      walk_at "go"
      refine ⟨_, _, rfl, a % b, Nat.mod_lt _ hb, b, a % b, rfl, by rw [Int.natCast_emod], rfl, ?_⟩
      rw [← hg, Nat.gcd_comm a b, Nat.gcd_rec b a]
      exact Nat.gcd_comm _ _
    · have hb : b = 0 := by
        have : (b : Int) = 0 := by simpa using hc
        omega
      subst hb
      walk_at "go"
      refine ⟨rfl, ?_⟩
      rw [← hg, Nat.gcd_zero_right]
theorem pow_half (b : Int) (l : Nat) : b ^ l = (if l % 2 = 1 then b else 1) * (b * b) ^ (l / 2) := by
  have h := Nat.div_add_mod l 2
  conv => lhs; rw [← h, Int.pow_add, Int.pow_mul, show b ^ 2 = b * b by rw [Int.pow_succ, Int.pow_succ, Int.pow_zero, Int.one_mul]]
  by_cases c : l % 2 = 1
  · rw [if_pos c, c, Int.mul_comm, Int.pow_succ, Int.pow_zero, Int.one_mul]
  · rw [if_neg c, show l % 2 = 0 by omega, Int.pow_zero, Int.mul_one, Int.one_mul]
theorem sc_power_of : FnScope ["base", "exponent", "total", "factor", "left"] ["base", "exponent"] (defScope s_power_of) := ⟨rfl, rfl, rfl, by decide +kernel, rfl, by decide +kernel, by decide +kernel⟩
def R_power_of : Rel := fun ws _ post => ∃ (b : Int) (e n : Nat), ws = [.int b, .int (e : Int)] ∧ b.natAbs ≤ 2 ^ n ∧ n ≤ 4000 ∧ e ≤ 2 ∧ post = fun v _ => v = .int (b ^ e)
theorem pow_le {b : Int} {n : Nat} (h : b.natAbs ≤ 2 ^ n) (k : Nat) : (b ^ k).natAbs ≤ 2 ^ (n * k) := by
  rw [Int.natAbs_pow, Nat.pow_mul]; exact Nat.pow_le_pow_left h k
theorem cal_power_of (T : Txt K mg) : C8.Cal P w K mg base 1 "power_of" (Fn (SP R_power_of)) [] := by
  refine cal_by T.d_power_of sc_power_of (fun vs G O R h => ?_) (fun f cdv A outer s H vs G O R E hr h => ?_)
  · obtain ⟨_, _, ⟨a, b, n, rfl, _⟩, _⟩ := h; rfl
  · obtain ⟨rfl, post, ⟨b, e, n, rfl, hb, hn, he, rfl⟩, rfl⟩ := h
    refine ⟨_, (pss_cons (ps_set (i := 2) sc_power_of.nd rfl (Or.inl rfl) pe_int)
    (pss_cons (ps_set (i := 3) sc_power_of.nd rfl (Or.inl rfl) (pv 0))
    (pss_cons (ps_set (i := 4) sc_power_of.nd rfl (Or.inl rfl) (pv 1))
    (pss_cons (ps_while PassesOwn.never (pt_cmpR op_gt (pv 4) pe_int (nomark _))
      (pss_cons (ps_if (pt_cmpR op_eq (pe_op op_mod (pe_callTy cl_int rfl T.b_int PyProof.Rows.boot_int (pa_cons (pv 4) pa_nil)) pe_int) pe_int (nomark _))
        (pss_one (ps_set (i := 2) sc_power_of.nd rfl (Or.inl rfl) (pe_op op_mulZ (pv 2) (pv 3))))
        pss_nil)
      (pss_cons (ps_set (i := 3) sc_power_of.nd rfl (Or.inl rfl) (pe_op op_mulZ (pv 3) (pv 3)))
      (pss_one (ps_set (i := 4) sc_power_of.nd rfl (Or.inl rfl) (pe_op op_fdivZ (pv 4) pe_int))))))
    (pss_one (ps_ret (pv 2))))))), ?_⟩
    show WS _ [some (.int b), some (.int (e : Int)), none, none, none] _ _ _
    refine ws_seq ?_
    refine ws_set (w_c ?_)
    refine ws_seq ?_
    refine ws_set (w_var rfl ?_)
    refine ws_seq ?_
    refine ws_set (w_var rfl ?_)
    refine ws_seq ?_
    refine ws_while (fun μ σ G' O' => ∃ (to fa : Int) (t l : Nat), l = μ ∧ σ = [some (.int b), some (.int (e : Int)), some (.int to), some (.int fa), some (.int (l : Int))] ∧ O' = [] ∧ to * fa ^ l = b ^ e ∧ l * 2 ^ t ≤ e ∧ t ≤ 2 ∧ (l = 0 ∨ fa = b ^ (2 ^ t)) ∧ to.natAbs ≤ 2 ^ (n * (2 ^ t))) e ⟨1, b, 0, e, rfl, rfl, rfl, by rw [Int.one_mul], by omega, by omega, .inr (by rw [Nat.pow_zero, Int.pow_succ, Int.pow_zero, Int.one_mul]), by show 1 ≤ _; exact Nat.one_le_two_pow⟩ ?_
    rintro μ σ' G' O' e1 ⟨to, fa, t, l, rfl, rfl, rfl, hpow, hlt, ht2, hfa, hto⟩
    walk_at "go"
    walk_at "if"
    · intro hc
      have hl : 0 < l := by omega
      have hfa : fa = b ^ (2 ^ t) := hfa.resolve_left (by omega)
      have hfb : fa.natAbs ≤ 2 ^ (n * 2 ^ t) := by rw [hfa]; exact pow_le hb _
      have h4 : 2 ^ t ≤ 4 := Nat.pow_le_pow_right (by decide : 0 < 2) ht2
      have h5 : n * 2 ^ t ≤ 16000 := Nat.le_trans (Nat.mul_le_mul hn h4) (by decide)
      have ht1 : t ≤ 1 := by
        apply Classical.byContradiction
        intro hn2
        have : t = 2 := by omega
        subst this
        have : 1 * 2 ^ 2 ≤ l * 2 ^ 2 := Nat.mul_le_mul_right _ hl
        omega
      have hmod : (l : Int) % 2 = ((l % 2 : Nat) : Int) := by omega
      have hdiv : (l : Int).fdiv 2 = ((l / 2 : Nat) : Int) := by rw [Int.fdiv_eq_ediv_of_nonneg _ (by decide)]; omega
      refine ws_seqI (fun σ G' O' => ∃ to' : Int, σ = [some (.int b), some (.int (e : Int)), some (.int to'), some (.int fa), some (.int (l : Int))] ∧ O' = [] ∧ to' = to * (if l % 2 = 1 then fa else 1) ∧ to'.natAbs ≤ 2 ^ (n * (2 ^ (t + 1)))) ?_ ?_
      · walk_at "go"
        rw [hmod]
        walk_at "if"
        · intro hc2
          have hc2 : l % 2 = 1 := by omega
          walk_at "go"
          refine r_I (mulZ_w (lt_pow_succ hto) (lt_pow_succ hfb) (by omega) (by omega) (by omega)) ?_
          refine ⟨_, rfl, rfl, by rw [if_pos hc2], ?_⟩
          rw [Int.natAbs_mul, Nat.pow_succ, ← Nat.mul_assoc, Nat.mul_two, Nat.pow_add]
          exact Nat.mul_le_mul hto hfb
        · intro hc2
          have hc2 : ¬ l % 2 = 1 := by omega
          walk_at "go"
          refine ⟨to, rfl, rfl, by rw [if_neg hc2, Int.mul_one], Nat.le_trans hto (Nat.pow_le_pow_right (by decide) (Nat.mul_le_mul_left _ (Nat.pow_le_pow_right (by decide) (by omega))))⟩
      · rintro σ G2 O2 e2 ⟨to', rfl, rfl, hto', hto2⟩
        walk_at "go"
        refine r_I (mulZ_w (lt_pow_succ hfb) (lt_pow_succ hfb) (by omega) (by omega) (by omega)) ?_
        walk_at "go"
        rw [hdiv]
        refine ⟨l / 2, by omega, to', fa * fa, t + 1, l / 2, rfl, rfl, rfl, ?_, ?_, by omega, .inr ?_, hto2⟩
        · rw [hto', ← hpow, pow_half fa l, Int.mul_assoc]
        · refine Nat.le_trans ?_ hlt
          rw [Nat.pow_succ, Nat.mul_comm (2 ^ t) 2, ← Nat.mul_assoc]
          exact Nat.mul_le_mul_right _ (by omega)
        · rw [hfa, ← Int.pow_add, Nat.pow_succ, Nat.mul_two]
    · intro hc
      have hl : l = 0 := by omega
      subst hl
      walk_at "go"
      refine ⟨rfl, ?_⟩
      rw [← hpow, Int.pow_zero, Int.mul_one]
end
/-! text R3 -/
section
variable {P : Program} {w : World} {K : PySem.W.Frag} {mg : Str → Option Value} {base : Heap}
theorem sc_lowest_terms : FnScope ["top", "bottom", "part"] ["top", "bottom"] (defScope s_lowest_terms) := ⟨rfl, rfl, rfl, by decide +kernel, rfl, by decide +kernel, by decide +kernel⟩
theorem cal_lowest_terms (T : Txt K mg) : C8.Cal P w K mg base 2 "lowest_terms" (Fn (SP R_law_lowest)) [] := by
  refine cal_by T.d_lowest_terms sc_lowest_terms (fun vs G O R h => ?_) (fun f cdv A outer s H vs G O R E hr h => ?_)
  · obtain ⟨_, _, ⟨a, b, rfl, _⟩, _⟩ := h; rfl
  · obtain ⟨rfl, post, ⟨t, b, rfl, ht, hb, h0, rfl⟩, rfl⟩ := h
    refine ⟨_, (pss_cons (ps_set (i := 2) sc_lowest_terms.nd rfl (Or.inl rfl) (C8.pe_c (cal_common_divisor T) hr (by omega) rfl (pa_cons (pv 0) (pa_cons (pv 1) pa_nil))))
    (pss_cons (ps_if (pt_cmpR op_lt (pv 1) pe_int (nomark _))
      (pss_one (ps_set (i := 2) sc_lowest_terms.nd rfl (Or.inl rfl) (pe_un un_neg (pv 2))))
      pss_nil)
    (pss_one (ps_ret (pe_tup (pa_cons (pe_op op_fdivZ (pv 0) (pv 2)) (pa_cons (pe_op op_fdivZ (pv 1) (pv 2)) pa_nil))))))), ?_⟩
    show WS _ [some (.int t), some (.int b), none] _ _ _
    walk_at "go"
    refine f_p ⟨_, _, rfl, rfl⟩ fun v G2 e hv => ?_
    subst hv
    refine ws_seqI (fun σ G' O' => σ = [some (.int t), some (.int b), some (.int (b.sign * (Int.gcd t b : Nat)))] ∧ O' = []) ?_ ?_
    · have hp := (low_part (t := t) h0).1
      walk_at "go"
      walk_at "if"
      · intro hc
        rw [if_pos hc] at hp
        walk_at "go"
        refine ⟨?_, rfl⟩
        rw [← hp, Int.zero_sub]
      · intro hc
        rw [if_neg hc] at hp
        walk_at "go"
        exact ⟨by rw [← hp], rfl⟩
    · rintro σ G' O' e2 ⟨rfl, rfl⟩
      have hz : b.sign * (Int.gcd t b : Nat) ≠ 0 := fun z => by
        rcases Int.mul_eq_zero.mp z with z | z
        · exact h0 (Int.sign_eq_zero_iff_zero.mp z)
        · exact (low_part (t := t) h0).2 z
      walk_at "go"
      refine r_I (divZ_ok (b := 4000) hz (gcd_big h0 hb) (by decide) (by decide)) ?_
      walk_at "go"
      refine r_I (divZ_ok (b := 4000) hz (gcd_big h0 hb) (by decide) (by decide)) ?_
      walk_at "go"
      refine ⟨_, by simp, .cons (.int _) (.cons (.int _) .nil), fun x G3 e3 hx => ⟨rfl, ?_⟩⟩
      rw [low_num h0, low_den h0] at hx
      exact hx
theorem sc_is_prime : FnScope ["number", "divisor"] ["number"] (defScope s_is_prime) := ⟨rfl, rfl, rfl, by decide +kernel, rfl, by decide +kernel, by decide +kernel⟩
def R_is_prime : Rel := fun ws _ post => ∃ p : Nat, ws = [.int (p : Int)] ∧ Pr p ∧ post = fun v _ => v = .bl true
theorem cal_is_prime (T : Txt K mg) : C8.Cal P w K mg base 2 "is_prime" (Fn (SP R_is_prime)) [] := by
  refine cal_by T.d_is_prime sc_is_prime (fun vs G O R h => ?_) (fun f cdv A outer s H vs G O R E hr h => ?_)
  · obtain ⟨_, _, ⟨a, rfl, _⟩, _⟩ := h; rfl
  · obtain ⟨rfl, post, ⟨p, rfl, hp, rfl⟩, rfl⟩ := h
    have hM := T.g_MOST_PRIME
    refine ⟨_, (pss_cons (ps_if (pt_not (pt_val (C8.pe_c (cal_is_whole3 T) hr (by omega) rfl (pa_cons (pv 0) (pa_cons pe_int (pa_cons (C8.pe_gc rfl T.g_MOST_PRIME) pa_nil))))))
      (pss_one (ps_ret pe_bl))
      pss_nil)
    (pss_cons (ps_set (i := 1) sc_is_prime.nd rfl (Or.inl rfl) pe_int)
    (pss_cons (ps_while PassesOwn.never (pt_cmpR op_le (pe_op op_mulZ (pv 1) (pv 1)) (pv 0) (nomark _))
      (pss_cons (ps_if (pt_cmpR op_eq (pe_op op_mod (pe_callTy cl_int rfl T.b_int PyProof.Rows.boot_int (pa_cons (pv 0) pa_nil)) (pv 1)) pe_int (nomark _))
        (pss_one (ps_ret pe_bl))
        pss_nil)
      (pss_one (ps_set (i := 1) sc_is_prime.nd rfl (Or.inl rfl) (pe_op op_add (pv 1) pe_int)))))
    (pss_one (ps_ret pe_bl))))), ?_⟩
    show WS _ [some (.int (p : Int)), none] _ _ _
    have hp1 := hp.1
    have hp2 := hp.2.1
    walk_at "go"
    refine f_p ⟨_, _, _, rfl, .inl ⟨_, some 2, some 20000, rfl, rfl, rfl, rfl⟩⟩ fun v G2 e hv => ?_
    rw [show (geO (some 2) (p : Int) && leO (some 20000) (p : Int)) = true by simp [geO, leO]; omega] at hv
    subst hv
    walk_at "go"
    refine ws_while (fun μ σ G' O' => ∃ d : Nat, d + μ = 20000 ∧ σ = [some (.int (p : Int)), some (.int (d : Int))] ∧ O' = [] ∧ 2 ≤ d) 19998 ⟨2, rfl, rfl, rfl, by omega⟩ ?_
    rintro μ σ' G' O' e1 ⟨d, hd, rfl, rfl, hd2⟩
    have hsq : (d : Int) * (d : Int) = ((d * d : Nat) : Int) := (Int.natCast_mul ..).symm
    walk_at "go"
    rw [hsq]
    walk_at "if"
    · intro hc
      have hc : d * d ≤ p := by omega
      have hmod : (p : Int) % (d : Int) = ((p % d : Nat) : Int) := (Int.natCast_emod ..).symm
      have hdl : d < 142 := by
        apply Classical.byContradiction
        intro hn
        have : 142 * 142 ≤ d * d := Nat.mul_le_mul (by omega) (by omega)
        omega
      have hnd := hp.2.2 d hd2 hc
      walk_at "go"
      rw [hmod]
      refine cj_i (fun h => absurd (by omega) hnd) fun _ => ?_
      walk_at "go"
      exact ⟨μ - 1, by omega, d + 1, by omega, by rw [Int.natCast_add]; rfl, rfl, by omega⟩
    · intro hc
      walk_at "go"
      exact ⟨rfl, rfl⟩
theorem rs_np_next {p : Nat} {hp : Pr p} (o b : (Fk.rest p hp).U) (l : Nat) : o * np b l = (if l % 2 = 1 then o * b else o) * np (b * b) (l / 2) := by
  rw [np_half]
  split
  · rw [Gp.ma]
  · rw [om]
theorem sc_rest_power : FnScope ["number", "exponent", "prime", "out", "base", "left", "bit"] ["number", "exponent", "prime"] (defScope s_rest_power) := ⟨rfl, rfl, rfl, by decide +kernel, rfl, by decide +kernel, by decide +kernel⟩
def R_rest_power : Rel := fun ws G post => ∃ (p : Nat) (hp : Pr p) (va : V) (a : (Fk.rest p hp).U) (e : Nat), ws = [va, .int (e : Int), .int (p : Int)] ∧ Nu (.rest p hp) G va a ∧ e < 2 ^ 40 ∧ post = fun v G' => Nu (.rest p hp) G' v (np a e)
theorem cal_rest_power (T : Txt K mg) : C8.Cal P w K mg base 1 "rest_power" (Fn (SP R_rest_power)) [] := by
  refine cal_by T.d_rest_power sc_rest_power (fun vs G O R h => ?_) (fun f cdv A outer s H vs G O R E hr h => ?_)
  · obtain ⟨_, _, ⟨_, _, _, _, _, rfl, _⟩, _⟩ := h; rfl
  · obtain ⟨rfl, post, ⟨p, hp, va, a, e, rfl, ha, he, rfl⟩, rfl⟩ := h
    refine ⟨_, (pss_cons (ps_set (i := 3) sc_rest_power.nd rfl (Or.inl rfl) pe_int)
    (pss_cons (ps_set (i := 4) sc_rest_power.nd rfl (Or.inl rfl) (pe_op op_mod (pe_callTy cl_int rfl T.b_int PyProof.Rows.boot_int (pa_cons (pv 0) pa_nil)) (pv 2)))
    (pss_cons (ps_set (i := 5) sc_rest_power.nd rfl (Or.inl rfl) (pv 1))
    (pss_cons (ps_while PassesOwn.never (pt_cmpR op_gt (pv 5) pe_int (nomark _))
      (pss_cons (ps_asg (pe_callB cl_divmod rfl T.b_divmod PyProof.Rows.boot_divmod (pa_cons (pv 5) (pa_cons pe_int pa_nil))) (pg_tupK K rfl (n := 2) rfl (pgs_cons (pg_name (i := 5) sc_rest_power.nd rfl (Or.inl rfl)) (pgs_cons (pg_name (i := 6) sc_rest_power.nd rfl (Or.inl rfl)) pgs_nil))))
      (pss_cons (ps_if (pt_cmpR op_eq (pv 6) pe_int (nomark _))
        (pss_one (ps_set (i := 3) sc_rest_power.nd rfl (Or.inl rfl) (pe_op op_mod (pe_op op_mulZ (pv 3) (pv 4)) (pv 2))))
        pss_nil)
      (pss_one (ps_set (i := 4) sc_rest_power.nd rfl (Or.inl rfl) (pe_op op_mod (pe_op op_mulZ (pv 4) (pv 4)) (pv 2)))))))
    (pss_one (ps_ret (pv 3))))))), ?_⟩
    obtain rfl := nu_rest ha
    show WS _ [some (.int ((a : Rs p).1 : Int)), some (.int (e : Int)), some (.int (p : Int)), none, none, none, none] _ _ _
    have hp1 := hp.1
    have hp2 := hp.2.1
    have ha1 : (a : Rs p).1 < p := (a : Rs p).2.2
    refine ws_seq (ws_set (w_c ?_))
    refine ws_seqI (fun σ G' O' => σ = [some (.int ((a : Rs p).1 : Int)), some (.int (e : Int)), some (.int (p : Int)), some (.int 1), some (.int ((a : Rs p).1 : Int)), none, none] ∧ O' = []) ?_ ?_
    · walk_at "go"
      refine ⟨?_, rfl⟩
      rw [Int.emod_eq_of_lt (by omega) (by omega)]
    rintro σ G1 O1 e1 ⟨rfl, rfl⟩
    refine ws_seq (ws_set (w_var rfl ?_))
    refine ws_seq ?_
    refine ws_while (fun μ σ G' O' => ∃ (o b : (Fk.rest p hp).U) (l : Nat) (u : Option V), l = μ ∧ σ = [some (.int ((a : Rs p).1 : Int)), some (.int (e : Int)), some (.int (p : Int)), some (.int ((o : Rs p).1 : Int)), some (.int ((b : Rs p).1 : Int)), some (.int (l : Int)), u] ∧ O' = [] ∧ o * np b l = np a e ∧ l ≤ e) e ⟨1, a, e, _, rfl, rfl, rfl, om _, Nat.le_refl _⟩ ?_
    rintro μ σ' G' O' e2 ⟨o, b, l, u, rfl, rfl, rfl, hpow, hle⟩
    have ho1 : (o : Rs p).1 < p := (o : Rs p).2.2
    have hb1 : (b : Rs p).1 < p := (b : Rs p).2.2
    have hmul : ∀ x y : (Fk.rest p hp).U, (((x : Rs p).1 : Int) * ((y : Rs p).1 : Int)) % (p : Int) = (((x * y : (Fk.rest p hp).U) : Rs p).1 : Int) := fun x y => by
      show _ = (((x : Rs p).1 * (y : Rs p).1 % p : Nat) : Int)
      rw [Int.natCast_emod, Int.natCast_mul]
    walk_at "go"
    walk_at "if"
    · intro hc
      have hl : 0 < l := by omega
      have hdiv : (l : Int) / 2 = ((l / 2 : Nat) : Int) := by omega
      have hmod : (l : Int) % 2 = ((l % 2 : Nat) : Int) := by omega
      walk_at "go"
      refine r_divmod ⟨by omega, PyProof.noPylong_of_log2 (by decide)⟩ fun tp G2 e3 htp => ?_
      refine g_tup htp rfl (g_cons (g_name (g_cons (g_name (g_nil ?_)))))
      rw [hdiv, hmod]
      refine ws_seqI (fun σ G' O' => ∃ o' : (Fk.rest p hp).U, σ = [some (.int ((a : Rs p).1 : Int)), some (.int (e : Int)), some (.int (p : Int)), some (.int ((o' : Rs p).1 : Int)), some (.int ((b : Rs p).1 : Int)), some (.int ((l / 2 : Nat) : Int)), some (.int ((l % 2 : Nat) : Int))] ∧ O' = [] ∧ o' = if l % 2 = 1 then o * b else o) ?_ ?_
      · walk_at "go"
        walk_at "if"
        · intro hc2
          walk_at "go"
          rw [hmul]
          exact ⟨o * b, rfl, rfl, by rw [if_pos (by omega)]⟩
        · intro hc2
          walk_at "go"
          exact ⟨o, rfl, rfl, by rw [if_neg (by omega)]⟩
      · rintro σ G3 O3 e4 ⟨o', rfl, rfl, ho'⟩
        walk_at "go"
        rw [hmul]
        exact ⟨l / 2, by omega, o', b * b, l / 2, _, rfl, rfl, rfl, by rw [ho', ← rs_np_next, hpow], by omega⟩
    · intro hc
      have hl : l = 0 := by omega
      subst hl
      walk_at "go"
      refine ⟨rfl, ?_⟩
      have hpow : o = np a e := by rw [← hpow]; exact (Gp.mo o).symm
      rw [← hpow]
      exact .int _
end
/-! text R4 -/
section
variable {P : Program} {w : World} {K : PySem.W.Frag} {mg : Str → Option Value} {base : Heap}
theorem frac_init_len : ["self"].length = 1 := rfl
theorem sc_RestField_init : FnScope ["self", "prime"] ["self", "prime"] (defScope s_RestField_init) := ⟨rfl, rfl, rfl, by decide +kernel, rfl, by decide +kernel, by decide +kernel⟩
def R_mk_rest : RelM := fun ws _ post => ∃ (p : Nat) (hp : Pr p), ws = [.int (p : Int)] ∧ post = fun fs G' => fs = (Fk.rest p hp).flds (.int 0) (.int 1) (.int ((p : Int) - 1))
theorem mak_RestField (T : Txt K mg) : C8.Mak P w K mg base 3 "RestField" (ga K "RestField") (Fn (SM (ga K "RestField") R_mk_rest)) [] := by
  refine mak_by T.mk_RestField T.g_RestField T.f_RestField_init sc_RestField_init (fun vs G O R h => ?_) (fun cdv A outer s H vs G O R E hr h => ?_)
  · obtain ⟨x, dx, ws, rfl, _, _, ⟨p, hp, rfl, _⟩, _⟩ := h; rfl
  · obtain ⟨x, dx, ws, rfl, rfl, post, ⟨p, hp, rfl, rfl⟩, rfl⟩ := h
    refine ⟨_, (pss_cons (ps_if (pt_not (pt_val (C8.pe_c (cal_is_prime T) hr (by omega) rfl (pa_cons (pv 1) pa_nil))))
      (pss_one ps_never)
      pss_nil)
    (pss_cons (ps_fldK K rfl (pv 0) (pv 1) rfl)
    (pss_cons (ps_fldK K rfl (pv 0) pe_int rfl)
    (pss_cons (ps_fldK K rfl (pv 0) pe_int rfl)
    (pss_one (ps_fldK K rfl (pv 0) (pe_op op_sub (pv 1) pe_int) rfl)))))), ?_⟩
    show WS _ [some (.ref x), some (.int (p : Int))] _ _ _
    walk_at "go"
    refine f_p ⟨p, rfl, hp, rfl⟩ fun v G2 e hv => ?_
    subst hv
    walk_at "go"
    refine ws_fldset 0 T.na_RestField_prime T.cl_RestField ?_
    walk_at "go"
    refine ⟨_, _, _, rfl, rfl, by decide, ?_⟩
    refine ws_seq (ws_fldset 0 T.na_RestField_zero T.cl_RestField ?_)
    walk_at "go"
    refine ⟨_, _, _, rfl, rfl, (by show 1 < 1000; decide), ?_⟩
    refine ws_seq (ws_fldset 0 T.na_RestField_one T.cl_RestField ?_)
    walk_at "go"
    refine ⟨_, _, _, rfl, rfl, (by show 2 < 1000; decide), ?_⟩
    refine ws_fldset 0 T.na_RestField_minus_one T.cl_RestField ?_
    walk_at "go"
    exact ⟨_, _, _, rfl, rfl, (by show 3 < 1000; decide), rfl, _, rfl, rfl⟩
theorem sc_FractionField_init : FnScope ["self"] ["self"] (defScope s_FractionField_init) := ⟨rfl, rfl, rfl, by decide +kernel, rfl, by decide +kernel, by decide +kernel⟩
def R_mk_frac : RelM := fun ws _ post => ws = [] ∧ post = fun fs G' => ∃ vz vo vm, fs = Fk.frac.flds vz vo vm ∧ Da G' [] vz Fk.frac.zero ∧ Nu .frac G' vo 1 ∧ Nu .frac G' vm Fk.frac.minus
theorem mak_FractionField (T : Txt K mg) : C8.Mak P w K mg base 3 "FractionField" (ga K "FractionField") (Fn (SM (ga K "FractionField") R_mk_frac)) [] := by
  refine mak_by T.mk_FractionField T.g_FractionField T.f_FractionField_init sc_FractionField_init (fun vs G O R h => ?_) (fun cdv A outer s H vs G O R E hr h => ?_)
  · obtain ⟨x, dx, ws, rfl, _, _, ⟨rfl, _⟩, _⟩ := h; rfl
  · obtain ⟨x, dx, ws, rfl, rfl, post, ⟨rfl, rfl⟩, rfl⟩ := h
    refine ⟨_, (pss_cons (ps_fldK K rfl (pv 0) (pe_tup (pa_cons pe_int (pa_cons pe_int pa_nil))) rfl)
    (pss_cons (ps_fldK K rfl (pv 0) (pe_tup (pa_cons pe_int (pa_cons pe_int pa_nil))) rfl)
    (pss_one (ps_fldK K rfl (pv 0) (pe_tup (pa_cons (pe_un un_neg pe_int) (pa_cons pe_int pa_nil))) rfl)))), ?_⟩
    show WS _ [some (.ref x)] _ _ _
    refine ws_seq (ws_fldset 0 T.na_FractionField_zero T.cl_FractionField ?_)
    walk_at "go"
    refine ⟨_, by simp, .cons (.int _) (.cons (.int _) .nil), fun vz G1 e1 hvz => ?_⟩
    walk_at "go"
    refine ⟨_, _, _, rfl, rfl, by decide, ?_⟩
    refine ws_seq (ws_fldset 0 T.na_FractionField_one T.cl_FractionField ?_)
    walk_at "go"
    refine ⟨_, by simp, .cons (.int _) (.cons (.int _) .nil), fun vo G2 e2 hvo => ?_⟩
    walk_at "go"
    refine ⟨_, _, _, rfl, rfl, (by show 1 < 1000; decide), ?_⟩
    refine ws_fldset 0 T.na_FractionField_minus_one T.cl_FractionField ?_
    walk_at "go"
    refine ⟨_, by simp, .cons (.int _) (.cons (.int _) .nil), fun vm G3 e3 hvm => ?_⟩
    walk_at "go"
    refine ⟨_, _, _, rfl, rfl, (by show 2 < 1000; decide), rfl, _, rfl, vz, vo, vm, rfl, Da.up (e2.trans e3) hvz, Da.up e3 hvo, hvm⟩
theorem sc_law_made_field : FnScope ["_law_prime_here"] ["_law_prime_here"] (defScope s_law_made_field) := ⟨rfl, rfl, rfl, by decide +kernel, rfl, by decide +kernel, by decide +kernel⟩
def R_law_made_field (K : PySem.W.Frag) : Rel := fun ws _ post => ∃ F : Fk, ws = [.int (F.p : Int)] ∧ post = fun v G' => FldOk K F G' v
theorem cal_law_made_field (T : Txt K mg) : C8.Cal P w K mg base 5 "_law_made_field" (Fn (SP (R_law_made_field K))) [] := by
  refine cal_by T.d_law_made_field sc_law_made_field (fun vs G O R h => ?_) (fun f cdv A outer s H vs G O R E hr h => ?_)
  · obtain ⟨_, _, ⟨_, rfl, _⟩, _⟩ := h; rfl
  · obtain ⟨rfl, post, ⟨F, rfl, rfl⟩, rfl⟩ := h
    obtain ⟨ff, ffd, fps, fds, MF⟩ := (mak_FractionField (P := P) (w := w) (base := base) T).ex
    have MF : _ ∧ _ ∧ _ ∧ _ := ⟨MF.1, MF.2.1, MF.2.2.2.1, MF.2.2.2.2⟩
    refine ⟨_, (pss_cons (ps_if (pt_cmpR op_eq (pv 0) pe_int (nomark _))
      (pss_one (ps_ret (pe_make0 MF.1 MF.2.1 (hr.mono (by omega)) rfl T.g_FractionField MF.2.2.1 MF.2.2.2 pass0)))
      pss_nil)
    (pss_one (ps_ret (C8.pe_mk (mak_RestField T) hr (by omega) rfl (pa_cons (pv 0) pa_nil))))), ?_⟩
    show WS _ [some (.int (F.p : Int))] _ _ _
    walk_at "go"
    walk_at "if"
    · intro hc
      cases F with
      | rest p hp => have : (p : Int) = 0 := hc; have := hp.1; omega
      | frac =>
      walk_at "go"
      refine w_mk (w_nil ⟨_, fun G2 e => ⟨rfl, rfl⟩, fun x dx fs G3 G4 e3 hfs e4 hx => ⟨rfl, ?_⟩⟩)
      obtain ⟨vz, vo, vm, rfl, h1, h2, h3⟩ := hfs
      exact ⟨x, dx, vz, vo, vm, rfl, Da.up e4 h1, Da.up e4 h2, Da.up e4 h3, hx⟩
    · intro hc
      cases F with
      | frac => exact absurd rfl hc
      | rest p hp =>
      walk_at "go"
      refine w_mk (w_cons (w_var rfl (w_nil ⟨_, fun G2 e => ⟨p, hp, rfl, rfl⟩, fun x dx fs G3 G4 e3 hfs e4 hx => ⟨rfl, ?_⟩⟩)))
      obtain rfl := hfs
      exact ⟨x, dx, _, _, _, rfl, .int 0, .int 1, by show Da _ _ _ _; rw [dat_minus_rest]; exact .int _, hx⟩
end
/-! text R5 -/
section
variable {P : Program} {w : World} {K : PySem.W.Frag} {mg : Str → Option Value} {base : Heap}
theorem r_fld {ta : TE} {G : Hp} {O : OL} {σ : L2.St} {R : V → Hp → OL → Prop} {F : Fk} {f : Str} {C : Addr} (hc : Cls K C) (hn : NoAttr K C f) (h : W (ta σ) G O fun x G1 O1 => ∃ a dx fs v, x = .ref a ∧ G1 a = some (.ins C dx fs) ∧ fs.lookup f = some v ∧ R v G1 O1) : W (tFld K ta f σ) G O R :=
  w_fld (a := 0) (C := C) (dx := 0) (fs := []) (w_imp h fun x G1 O1 _ ⟨a, dx, fs, v, e1, e2, e3, r⟩ => ⟨a, C, dx, fs, v, e1, e2, hc, hn, e3, r⟩)
def R_times (K : PySem.W.Frag) (F : Fk) : Rel := fun ws G post => ∃ (vf va vb : V) (a b : F.U), ws = [vf, va, vb] ∧ FldOk K F G vf ∧ Nu F G va a ∧ Nu F G vb b ∧ F.bd 1900 a ∧ F.bd 1900 b ∧ post = fun v G' => Nu F G' v (a * b)
def R_quot (K : PySem.W.Frag) (F : Fk) : Rel := fun ws G post => ∃ (vf va vb : V) (a b : F.U), ws = [vf, va, vb] ∧ FldOk K F G vf ∧ Nu F G va a ∧ Nu F G vb b ∧ F.bd 1900 a ∧ F.bd 1900 b ∧ post = fun v G' => Nu F G' v (a * b⁻¹)
def R_fpow (K : PySem.W.Frag) (F : Fk) : Rel := fun ws G post => ∃ (vf va : V) (a : F.U) (e : Int), ws = [vf, va, .int e] ∧ FldOk K F G vf ∧ Nu F G va a ∧ F.bd 1900 a ∧ e.natAbs ≤ 2 ∧ post = fun v G' => Nu F G' v (zp a e)
theorem sc_RestField_times : FnScope ["self", "one", "other"] ["self", "one", "other"] (defScope s_RestField_times) := ⟨rfl, rfl, rfl, by decide +kernel, rfl, by decide +kernel, by decide +kernel⟩
theorem met_times_r (T : Txt K mg) (p : Nat) (hp : Pr p) : C8.Met P w K mg base 3 (ga K "RestField") "times" (Fn (SP (R_times K (.rest p hp)))) [] := by
  refine met_by (k := 2) T.cl_RestField T.m_RestField_times T.f_RestField_times sc_RestField_times (fun vs G O R h => ?_) (fun cdv A outer s H vs G O R E hr h => ?_)
  · obtain ⟨_, _, ⟨_, _, _, _, _, rfl, _⟩, _⟩ := h; rfl
  · obtain ⟨rfl, post, ⟨vf, va, vb, a, b, rfl, hf, ha, hb, ba, bb, rfl⟩, rfl⟩ := h
    refine ⟨_, (pss_one (ps_ret (pe_op op_mod (pe_callTy cl_int rfl T.b_int PyProof.Rows.boot_int (pa_cons (pe_op op_mulZ (pv 1) (pv 2)) pa_nil)) (pe_fldK K rfl (pv 0) rfl)))), ?_⟩
    obtain ⟨fa, dx, vz, vo, vm, rfl, hz, ho, hm, hG⟩ := hf
    obtain rfl := nu_rest ha
    obtain rfl := nu_rest hb
    show WS _ [some (.ref fa), some (.int ((a : Rs p).1 : Int)), some (.int ((b : Rs p).1 : Int))] _ _ _
    have hp1 := hp.1
    have hp2 := hp.2.1
    have ha1 : (a : Rs p).1 < p := (a : Rs p).2.2
    have hb1 : (b : Rs p).1 < p := (b : Rs p).2.2
    walk_at "go"
    refine r_fld (F := .frac) T.cl_RestField T.na_RestField_prime (w_var rfl ⟨_, _, _, _, rfl, hG, rfl, ?_⟩)
    refine r_I (show (0 : Int) < (p : Int) by omega) ?_
    refine ⟨rfl, ?_⟩
    have : (((a : Rs p).1 : Int) * ((b : Rs p).1 : Int)) % (p : Int) = (((a : Rs p).1 * (b : Rs p).1 % p : Nat) : Int) := by rw [Int.natCast_emod, Int.natCast_mul]
    rw [this]
    exact .int _
theorem sc_FractionField_times : FnScope ["self", "one", "other"] ["self", "one", "other"] (defScope s_FractionField_times) := ⟨rfl, rfl, rfl, by decide +kernel, rfl, by decide +kernel, by decide +kernel⟩
theorem met_times_f (T : Txt K mg) : C8.Met P w K mg base 3 (ga K "FractionField") "times" (Fn (SP (R_times K .frac))) [] := by
  refine met_by T.cl_FractionField T.m_FractionField_times T.f_FractionField_times sc_FractionField_times (fun vs G O R h => ?_) (fun cdv A outer s H vs G O R E hr h => ?_)
  · obtain ⟨_, _, ⟨_, _, _, _, _, rfl, _⟩, _⟩ := h; rfl
  · obtain ⟨rfl, post, ⟨vf, va, vb, a, b, rfl, hf, ha, hb, ba, bb, rfl⟩, rfl⟩ := h
    refine ⟨_, (pss_one (ps_ret (C8.pe_c (cal_lowest_terms T) hr (by omega) rfl (pa_cons (pe_op op_mulZ (pe_ix (ixK K rfl) (pv 1) pe_int (fun _ _ => rfl)) (pe_ix (ixK K rfl) (pv 2) pe_int (fun _ _ => rfl))) (pa_cons (pe_op op_mulZ (pe_ix (ixK K rfl) (pv 1) pe_int (fun _ _ => rfl)) (pe_ix (ixK K rfl) (pv 2) pe_int (fun _ _ => rfl))) pa_nil))))), ?_⟩
    show WS _ [some (vf), some (va), some (vb)] _ _ _
    have ba := bd_frac ba
    have bb := bd_frac bb
    walk_at "go"
    refine r_atD (j := 0) (.inr (nu_frac ha)) rfl rfl fun x hx => ?_
    rw [da_int hx]
    walk_at "go"
    refine r_atD (j := 0) (.inr (nu_frac hb)) rfl rfl fun x hx => ?_
    rw [da_int hx]
    refine r_I (mulZ_w (a := 1901) (b := 1901) (lt_pow_succ ba.1) (lt_pow_succ bb.1) (by decide) (by decide) (by decide)) ?_
    walk_at "go"
    refine r_atD (j := 1) (.inr (nu_frac ha)) rfl rfl fun x hx => ?_
    rw [da_int hx]
    walk_at "go"
    refine r_atD (j := 1) (.inr (nu_frac hb)) rfl rfl fun x hx => ?_
    rw [da_int hx]
    refine r_I (mulZ_w (a := 1901) (b := 1901) (lt_pow_succ (by simpa using ba.2)) (lt_pow_succ (by simpa using bb.2)) (by decide) (by decide) (by decide)) ?_
    walk_at "go"
    refine f_p ⟨_, _, rfl, big_mul ba.1 bb.1 (by decide), big_mul (by simpa using ba.2) (by simpa using bb.2) (by decide), fun z => ?_, rfl⟩ fun v G2 e hv => ⟨rfl, nu_of_dq (fr_mul a b) hv⟩
    rcases Int.mul_eq_zero.mp z with z | z
    · exact fr_den_ne a z
    · exact fr_den_ne b z
theorem met_times (T : Txt K mg) (F : Fk) : C8.Met P w K mg base 3 (fcls K F) "times" (Fn (SP (R_times K F))) [] := by
  cases F with
  | frac => exact met_times_f T
  | rest p hp => exact met_times_r T p hp
theorem zp_mod {p : Nat} {hp : Pr p} (a : (Fk.rest p hp).U) (e : Int) : np a (e % ((p : Int) - 1)).toNat = zp a e := by
  have h2 := hp.1
  have hN : np a (p - 1) = 1 := fermat hp a
  have key : ∀ k : Int, zp a (((p - 1 : Nat) : Int) * k) = 1 := fun k => by
    rcases zp_cases k with ⟨n, rfl⟩ | ⟨n, rfl⟩
    · rw [← Int.natCast_mul, zp_nat, np_mul, hN, np_one]
    · rw [Int.mul_neg, show ((n : Int) + 1) = ((n + 1 : Nat) : Int) by omega, ← Int.natCast_mul, zp_neg, np_inv, np_mul, hN, np_one, inv_one]
  have hc : ((p : Int) - 1) = ((p - 1 : Nat) : Int) := by omega
  have hdec := Int.mul_ediv_add_emod e ((p - 1 : Nat) : Int)
  have hnn := Int.emod_nonneg e (show ((p - 1 : Nat) : Int) ≠ 0 by omega)
  rw [hc]
  conv => rhs; rw [← hdec, zp_add, key, om]
  rw [← zp_nat, Int.toNat_of_nonneg hnn]
theorem sc_RestField_power : FnScope ["self", "number", "exponent"] ["self", "number", "exponent"] (defScope s_RestField_power) := ⟨rfl, rfl, rfl, by decide +kernel, rfl, by decide +kernel, by decide +kernel⟩
theorem met_power_r (T : Txt K mg) (p : Nat) (hp : Pr p) : C8.Met P w K mg base 3 (ga K "RestField") "power" (Fn (SP (R_fpow K (.rest p hp)))) [] := by
  refine met_by (k := 2) T.cl_RestField T.m_RestField_power T.f_RestField_power sc_RestField_power (fun vs G O R h => ?_) (fun cdv A outer s H vs G O R E hr h => ?_)
  · obtain ⟨_, _, ⟨_, _, _, _, rfl, _⟩, _⟩ := h; rfl
  · obtain ⟨rfl, post, ⟨vf, va, a, e, rfl, hf, ha, ba, he, rfl⟩, rfl⟩ := h
    refine ⟨_, (pss_cons (ps_if (pt_cmpR op_eq (pv 1) pe_int (nomark _))
      (pss_cons (ps_if (pt_cmpR op_lt (pv 2) pe_int (nomark _))
        (pss_one ps_never)
        pss_nil)
      (pss_one (ps_ret (pe_ifExp (pt_cmpR op_eq (pv 2) pe_int (nomark _)) pe_int pe_int))))
      pss_nil)
    (pss_one (ps_ret (C8.pe_c (cal_rest_power T) hr (by omega) rfl (pa_cons (pv 1) (pa_cons (pe_op op_mod (pe_callTy cl_int rfl T.b_int PyProof.Rows.boot_int (pa_cons (pv 2) pa_nil)) (pe_op op_sub (pe_fldK K rfl (pv 0) rfl) pe_int)) (pa_cons (pe_fldK K rfl (pv 0) rfl) pa_nil))))))), ?_⟩
    obtain ⟨fa, dx, vz, vo, vm, rfl, hz, ho, hm, hG⟩ := hf
    obtain rfl := nu_rest ha
    show WS _ [some (.ref fa), some (.int ((a : Rs p).1 : Int)), some (.int e)] _ _ _
    have hp1 := hp.1
    have hp2 := hp.2.1
    have ha0 : 0 < (a : Rs p).1 := (a : Rs p).2.1
    walk_at "go"
    refine cj_i (fun h => absurd h (by omega)) fun _ => ?_
    walk_at "go"
    refine r_fld (F := .frac) T.cl_RestField T.na_RestField_prime (w_var rfl ⟨_, _, _, _, rfl, hG, rfl, ?_⟩)
    walk_at "go"
    refine r_fld (F := .frac) T.cl_RestField T.na_RestField_prime (w_var rfl ⟨_, _, _, _, rfl, hG, rfl, ?_⟩)
    walk_at "go"
    have hnn := Int.emod_nonneg e (show (p : Int) - 1 ≠ 0 by omega)
    have hlt := Int.emod_lt_of_pos e (show 0 < (p : Int) - 1 by omega)
    refine f_p ⟨p, hp, _, a, (e % ((p : Int) - 1)).toNat, by rw [Int.toNat_of_nonneg hnn], ha, by omega, rfl⟩ fun v G2 e2 hv => ⟨rfl, ?_⟩
    have hv : Nu _ _ _ _ := hv
    rw [zp_mod] at hv
    exact hv
theorem fr_zp_neg (a : Fr) (e : Int) (h : e < 0) : (zp a e).1 = Rat.divInt ((a.1.den : Int) ^ e.natAbs) (a.1.num ^ e.natAbs) := by
  have hfr := fr_np a e.natAbs
  rw [zp_of_neg a e h, np_inv, fr_inv, hfr.1, hfr.2, Int.natCast_pow]
theorem fr_zp_nn (a : Fr) (e : Int) (h : 0 ≤ e) : dq (zp a e).1 = .tuple [.int (a.1.num ^ e.natAbs), .int ((a.1.den : Int) ^ e.natAbs)] := by
  have hfr := fr_np a e.natAbs
  rw [zp_of_nn a e h, dq, hfr.1, hfr.2, Int.natCast_pow]
theorem sc_FractionField_power : FnScope ["self", "number", "exponent", "top", "bottom"] ["self", "number", "exponent"] (defScope s_FractionField_power) := ⟨rfl, rfl, rfl, by decide +kernel, rfl, by decide +kernel, by decide +kernel⟩
theorem met_power_f (T : Txt K mg) : C8.Met P w K mg base 3 (ga K "FractionField") "power" (Fn (SP (R_fpow K .frac))) [] := by
  refine met_by T.cl_FractionField T.m_FractionField_power T.f_FractionField_power sc_FractionField_power (fun vs G O R h => ?_) (fun cdv A outer s H vs G O R E hr h => ?_)
  · obtain ⟨_, _, ⟨_, _, _, _, rfl, _⟩, _⟩ := h; rfl
  · obtain ⟨rfl, post, ⟨vf, va, a, e, rfl, hf, ha, ba, he, rfl⟩, rfl⟩ := h
    refine ⟨_, (pss_cons (ps_asg (pv 1) (pg_tupK K rfl (n := 2) rfl (pgs_cons (pg_name (i := 3) sc_FractionField_power.nd rfl (Or.inl rfl)) (pgs_cons (pg_name (i := 4) sc_FractionField_power.nd rfl (Or.inl rfl)) pgs_nil))))
    (pss_cons (ps_if (pt_cmpR op_lt (pv 2) pe_int (nomark _))
      (pss_cons (ps_if (pt_cmpR op_eq (pv 3) pe_int (nomark _))
        (pss_one ps_never)
        pss_nil)
      (pss_one (ps_ret (C8.pe_c (cal_lowest_terms T) hr (by omega) rfl (pa_cons (C8.pe_c (cal_power_of T) hr (by omega) rfl (pa_cons (pv 4) (pa_cons (pe_un un_neg (pv 2)) pa_nil))) (pa_cons (C8.pe_c (cal_power_of T) hr (by omega) rfl (pa_cons (pv 3) (pa_cons (pe_un un_neg (pv 2)) pa_nil))) pa_nil))))))
      pss_nil)
    (pss_one (ps_ret (pe_tup (pa_cons (C8.pe_c (cal_power_of T) hr (by omega) rfl (pa_cons (pv 3) (pa_cons (pv 2) pa_nil))) (pa_cons (C8.pe_c (cal_power_of T) hr (by omega) rfl (pa_cons (pv 4) (pa_cons (pv 2) pa_nil))) pa_nil))))))), ?_⟩
    show WS _ [some (vf), some (va), some (.int e), none, none] _ _ _
    have ba := bd_frac ba
    have hb0 : ∀ {x : Nat}, x ≤ 2 ^ (1900 * e.natAbs) → x < 2 ^ 4000 := fun h => Nat.lt_of_le_of_lt h (Nat.pow_lt_pow_right (by decide) (by omega))
    have bd1 := pow_le ba.1 e.natAbs
    have bd2 : ((((a : Fr).1.den : Nat) : Int) ^ e.natAbs).natAbs ≤ _ := pow_le (by simpa using ba.2) e.natAbs
    refine ws_seq (ws_asg (w_var rfl ?_))
    refine g_tupD (nu_frac ha) rfl fun xs hxs => ?_
    obtain ⟨v1, v2, rfl, h1, h2⟩ := da2 hxs
    rw [da_int h1, da_int h2]
    refine g_cons (g_name (g_cons (g_name (g_nil ?_))))
    walk_at "go"
    walk_at "if"
    · intro hc
      have hne : -e = (e.natAbs : Int) := by omega
      walk_at "go"
      refine cj_i (fun h => absurd h (fr_num_ne a)) fun _ => ?_
      walk_at "go"
      rw [hne]
      refine f_p ⟨_, _, 1900, rfl, by simpa using ba.2, by decide, he, rfl⟩ fun v G2 e2 hv => ?_
      subst hv
      walk_at "go"
      rw [hne]
      refine f_p ⟨_, _, 1900, rfl, ba.1, by decide, he, rfl⟩ fun v G3 e3 hv => ?_
      subst hv
      walk_at "go"
      refine f_p ⟨_, _, rfl, hb0 bd2, hb0 bd1, Int.pow_ne_zero (fr_num_ne a), rfl⟩ fun v G4 e4 hv => ⟨rfl, ?_⟩
      exact nu_of_dq (a := zp (a : Fr) e) (fr_zp_neg a e hc) hv
    · intro hc
      have hne : e = (e.natAbs : Int) := by omega
      walk_at "go"
      rw [hne]
      refine f_p ⟨_, _, 1900, rfl, ba.1, by decide, he, rfl⟩ fun v G2 e2 hv => ?_
      subst hv
      walk_at "go"
      refine f_p ⟨_, _, 1900, rfl, by simpa using ba.2, by decide, he, rfl⟩ fun v G3 e3 hv => ?_
      subst hv
      walk_at "go"
      refine ⟨_, by simp, .cons (.int _) (.cons (.int _) .nil), fun x G4 e4 hx => ⟨rfl, ?_⟩⟩
      rw [← fr_zp_nn (a : Fr) e (by omega)] at hx
      rw [← hne]
      exact hx
theorem met_power (T : Txt K mg) (F : Fk) : C8.Met P w K mg base 3 (fcls K F) "power" (Fn (SP (R_fpow K F))) [] := by
  cases F with
  | frac => exact met_power_f T
  | rest p hp => exact met_power_r T p hp
theorem sc_RestField_quotient : FnScope ["self", "one", "other"] ["self", "one", "other"] (defScope s_RestField_quotient) := ⟨rfl, rfl, rfl, by decide +kernel, rfl, by decide +kernel, by decide +kernel⟩
theorem met_quot_r (T : Txt K mg) (p : Nat) (hp : Pr p) : C8.Met P w K mg base 4 (ga K "RestField") "quotient" (Fn (SP (R_quot K (.rest p hp)))) [] := by
  refine met_by T.cl_RestField T.m_RestField_quotient T.f_RestField_quotient sc_RestField_quotient (fun vs G O R h => ?_) (fun cdv A outer s H vs G O R E hr h => ?_)
  · obtain ⟨_, _, ⟨_, _, _, _, _, rfl, _⟩, _⟩ := h; rfl
  · obtain ⟨rfl, post, ⟨vf, va, vb, a, b, rfl, hf, ha, hb, ba, bb, rfl⟩, rfl⟩ := h
    refine ⟨_, (pss_one (ps_ret (pe_op op_mod (pe_callTy cl_int rfl T.b_int PyProof.Rows.boot_int (pa_cons (pe_op op_mulZ (pv 1) (C8.pe_mt (met_power_r T p hp) hr (by omega) (pv 0) (pa_cons (pv 2) (pa_cons (pe_un un_neg pe_int) pa_nil)))) pa_nil)) (pe_fldK K rfl (pv 0) rfl)))), ?_⟩
    have hf0 := hf
    obtain ⟨fa, dx, vz, vo, vm, rfl, hz, ho, hm, hG⟩ := hf
    obtain rfl := nu_rest ha
    obtain rfl := nu_rest hb
    show WS _ [some (.ref fa), some (.int ((a : Rs p).1 : Int)), some (.int ((b : Rs p).1 : Int))] _ _ _
    have hp1 := hp.1
    have hp2 := hp.2.1
    have ha1 : (a : Rs p).1 < p := (a : Rs p).2.2
    walk_at "go"
    refine w_meth0 (w_var rfl ⟨fa, dx, _, rfl, hG, rfl, ?_⟩)
    walk_at "go"
    refine f_p ⟨_, _, b, -1, rfl, hf0, hb, bb, by decide, rfl⟩ fun v G2 e hv => ?_
    have hv : Nu (.rest p hp) G2 v (zp b (-1)) := hv
    have e1 : zp b (-1) = b⁻¹ := om _
    rw [e1] at hv
    obtain rfl := nu_rest hv
    have hc1 : ((b⁻¹ : (Fk.rest p hp).U) : Rs p).1 < p := ((b⁻¹ : (Fk.rest p hp).U) : Rs p).2.2
    walk_at "go"
    refine r_fld (F := .frac) T.cl_RestField T.na_RestField_prime (w_var rfl ⟨_, _, _, _, rfl, e _ _ hG, rfl, ?_⟩)
    refine r_I (show (0 : Int) < (p : Int) by omega) ?_
    refine ⟨rfl, ?_⟩
    have : (((a : Rs p).1 : Int) * (((b⁻¹ : (Fk.rest p hp).U) : Rs p).1 : Int)) % (p : Int) = (((a : Rs p).1 * ((b⁻¹ : (Fk.rest p hp).U) : Rs p).1 % p : Nat) : Int) := by rw [Int.natCast_emod, Int.natCast_mul]
    rw [this]
    exact .int _
theorem sc_FractionField_quotient : FnScope ["self", "one", "other"] ["self", "one", "other"] (defScope s_FractionField_quotient) := ⟨rfl, rfl, rfl, by decide +kernel, rfl, by decide +kernel, by decide +kernel⟩
theorem met_quot_f (T : Txt K mg) : C8.Met P w K mg base 4 (ga K "FractionField") "quotient" (Fn (SP (R_quot K .frac))) [] := by
  refine met_by T.cl_FractionField T.m_FractionField_quotient T.f_FractionField_quotient sc_FractionField_quotient (fun vs G O R h => ?_) (fun cdv A outer s H vs G O R E hr h => ?_)
  · obtain ⟨_, _, ⟨_, _, _, _, _, rfl, _⟩, _⟩ := h; rfl
  · obtain ⟨rfl, post, ⟨vf, va, vb, a, b, rfl, hf, ha, hb, ba, bb, rfl⟩, rfl⟩ := h
    refine ⟨_, (pss_cons (ps_if (pt_cmpR op_eq (pe_ix (ixK K rfl) (pv 2) pe_int (fun _ _ => rfl)) pe_int (nomark _))
      (pss_one ps_never)
      pss_nil)
    (pss_one (ps_ret (C8.pe_c (cal_lowest_terms T) hr (by omega) rfl (pa_cons (pe_op op_mulZ (pe_ix (ixK K rfl) (pv 1) pe_int (fun _ _ => rfl)) (pe_ix (ixK K rfl) (pv 2) pe_int (fun _ _ => rfl))) (pa_cons (pe_op op_mulZ (pe_ix (ixK K rfl) (pv 1) pe_int (fun _ _ => rfl)) (pe_ix (ixK K rfl) (pv 2) pe_int (fun _ _ => rfl))) pa_nil)))))), ?_⟩
    show WS _ [some (vf), some (va), some (vb)] _ _ _
    have ba := bd_frac ba
    have bb := bd_frac bb
    walk_at "go"
    refine r_atD (j := 0) (.inr (nu_frac hb)) rfl rfl fun x hx => ?_
    rw [da_int hx]
    walk_at "go"
    refine cj_i (fun h => absurd h (fr_num_ne b)) fun _ => ?_
    walk_at "go"
    refine r_atD (j := 0) (.inr (nu_frac ha)) rfl rfl fun x hx => ?_
    rw [da_int hx]
    walk_at "go"
    refine r_atD (j := 1) (.inr (nu_frac hb)) rfl rfl fun x hx => ?_
    rw [da_int hx]
    refine r_I (mulZ_w (a := 1901) (b := 1901) (lt_pow_succ ba.1) (lt_pow_succ (by simpa using bb.2)) (by decide) (by decide) (by decide)) ?_
    walk_at "go"
    refine r_atD (j := 1) (.inr (nu_frac ha)) rfl rfl fun x hx => ?_
    rw [da_int hx]
    walk_at "go"
    refine r_atD (j := 0) (.inr (nu_frac hb)) rfl rfl fun x hx => ?_
    rw [da_int hx]
    refine r_I (mulZ_w (a := 1901) (b := 1901) (lt_pow_succ (by simpa using ba.2)) (lt_pow_succ bb.1) (by decide) (by decide) (by decide)) ?_
    walk_at "go"
    refine f_p ⟨_, _, rfl, big_mul ba.1 (by simpa using bb.2) (by decide), big_mul (by simpa using ba.2) bb.1 (by decide), fun z => ?_, rfl⟩ fun v G2 e hv => ⟨rfl, nu_of_dq (fr_quo a b) hv⟩
    rcases Int.mul_eq_zero.mp z with z | z
    · exact fr_den_ne a z
    · exact fr_num_ne b z
theorem met_quot (T : Txt K mg) (F : Fk) : C8.Met P w K mg base 4 (fcls K F) "quotient" (Fn (SP (R_quot K F))) [] := by
  cases F with
  | frac => exact met_quot_f T
  | rest p hp => exact met_quot_r T p hp
end
/-! text R6 -/
/-- the program's picture -/
def PicOk (K : PySem.W.Frag) (n m : Nat) (ps : List (Nat × Nat)) (G : Hp) (v : V) : Prop := PW n m ps ∧ ∃ a dx vp, v = .ref a ∧ G a = some (.ins (ga K "Picture") dx [("points", .int (n : Int)), ("walls", .int (m : Int)), ("pairs", vp)]) ∧ Da G [] vp (.tuple (ps.map dpair))
instance {K : PySem.W.Frag} {n m : Nat} {ps : List (Nat × Nat)} {v : V} : Mono (fun G => PicOk K n m ps G v) := ⟨fun e ⟨h0, a, dx, vp, h1, h2, h3⟩ => ⟨h0, a, dx, vp, h1, e _ _ h2, Da.up e h3⟩⟩
theorem pic_up {K : PySem.W.Frag} {n m : Nat} {ps : List (Nat × Nat)} {v : V} {G G' : Hp} (e : Ex G G') (h : PicOk K n m ps G v) : PicOk K n m ps G' v := mlift (R := fun G => PicOk K n m ps G v) e h
section
variable {P : Program} {w : World} {K : PySem.W.Frag} {mg : Str → Option Value} {base : Heap} {n m : Nat} {ps : List (Nat × Nat)}
theorem r_picP (T : Txt K mg) {ta : TE} {G : Hp} {O : OL} {σ : L2.St} {R : V → Hp → OL → Prop} (h : W (ta σ) G O fun x G1 O1 => PicOk K n m ps G1 x ∧ R (.int (n : Int)) G1 O1) : W (tFld K ta "points" σ) G O R :=
  r_fld (F := .frac) T.cl_Picture T.na_Picture_points (w_imp h fun x G1 O1 _ ⟨⟨_, a, dx, vp, e1, e2, e3⟩, r⟩ => ⟨a, dx, _, _, e1, e2, rfl, r⟩)
theorem r_picW (T : Txt K mg) {ta : TE} {G : Hp} {O : OL} {σ : L2.St} {R : V → Hp → OL → Prop} (h : W (ta σ) G O fun x G1 O1 => PicOk K n m ps G1 x ∧ R (.int (m : Int)) G1 O1) : W (tFld K ta "walls" σ) G O R :=
  r_fld (F := .frac) T.cl_Picture T.na_Picture_walls (w_imp h fun x G1 O1 _ ⟨⟨_, a, dx, vp, e1, e2, e3⟩, r⟩ => ⟨a, dx, _, _, e1, e2, rfl, r⟩)
theorem r_picL (T : Txt K mg) {ta : TE} {G : Hp} {O : OL} {σ : L2.St} {R : V → Hp → OL → Prop} (h : W (ta σ) G O fun x G1 O1 => PicOk K n m ps G1 x ∧ ∀ vp, Da G1 [] vp (.tuple (ps.map dpair)) → R vp G1 O1) : W (tFld K ta "pairs" σ) G O R :=
  r_fld (F := .frac) T.cl_Picture T.na_Picture_pairs (w_imp h fun x G1 O1 _ ⟨⟨_, a, dx, vp, e1, e2, e3⟩, r⟩ => ⟨a, dx, _, _, e1, e2, rfl, r vp e3⟩)
theorem sc_tree_places : FnScope ["picture", "marks", "told", "place", "point", "wall", "one", "other", "mark"] ["picture"] (defScope s_tree_places) := ⟨rfl, rfl, rfl, by decide +kernel, rfl, by decide +kernel, by decide +kernel⟩
def R_tree_places (K : PySem.W.Frag) : Rel := fun ws G post => ∃ (n m : Nat) (ps : List (Nat × Nat)) (v0 : V), ws = [v0] ∧ PicOk K n m ps G v0 ∧ post = fun v G' => Da G' [] v (.tuple (dnats (tree n m ps)))
theorem cal_tree_places (T : Txt K mg) : C8.Cal P w K mg base 1 "tree_places" (Fn (SP (R_tree_places K))) [] := by
  refine cal_by T.d_tree_places sc_tree_places (fun vs G O R h => ?_) (fun f cdv A outer s H vs G O R E hr h => ?_)
  · obtain ⟨_, _, ⟨_, _, _, _, rfl, _⟩, _⟩ := h; rfl
  · obtain ⟨rfl, post, ⟨n, m, ps, v0, rfl, hv0, rfl⟩, rfl⟩ := h
    refine ⟨_, (pss_cons (ps_setLc (i := 1) (own := [("place", 3)]) rfl sc_tree_places.nd rfl rfl (sw_true rfl rfl rfl (by decide +kernel)) (pi_range1 rfl T.b_range (pa_cons (pe_op op_add (pe_fldK K rfl (pv 0) rfl) (pe_fldK K rfl (pv 0) rfl)) pa_nil)) (blkOk_by (N := ["picture", "marks", "told", "place", "point", "wall", "one", "other", "mark"]) (sc := defScope s_tree_places) (by decide +kernel)) (fun _ _ _ _ _ => (pg_name (i := 3) sc_tree_places.nd rfl (Or.inl rfl))) (fun _ _ _ _ _ => pts_nil) (fun _ _ _ _ _ => (pv 3)))
    (pss_cons (ps_set (i := 2) sc_tree_places.nd rfl (Or.inl rfl) (pe_lst pa_nil))
    (pss_cons (ps_for PassesOwn.never rfl (pi_enumTK K rfl rfl T.b_enumerate (pa_cons (pe_fldK K rfl (pv 0) rfl) pa_nil)) (pg_tupK K rfl (n := 2) rfl (pgs_cons (pg_name (i := 3) sc_tree_places.nd rfl (Or.inl rfl)) (pgs_cons (pg_tupK K rfl (n := 2) rfl (pgs_cons (pg_name (i := 4) sc_tree_places.nd rfl (Or.inl rfl)) (pgs_cons (pg_name (i := 5) sc_tree_places.nd rfl (Or.inl rfl)) pgs_nil))) pgs_nil)))
      (pss_cons (ps_asg (pe_tup (pa_cons (pe_ix (ixK K rfl) (pv 1) (pv 4) (fun _ _ => rfl)) (pa_cons (pe_ix (ixK K rfl) (pv 1) (pe_op op_add (pe_fldK K rfl (pv 0) rfl) (pv 5)) (fun _ _ => rfl)) pa_nil))) (pg_tupK K rfl (n := 2) rfl (pgs_cons (pg_name (i := 6) sc_tree_places.nd rfl (Or.inr rfl)) (pgs_cons (pg_name (i := 7) sc_tree_places.nd rfl (Or.inr rfl)) pgs_nil))))
      (pss_one (ps_if (pt_cmpR op_ne (pv 6) (pv 7) (nomark _))
        (pss_cons (ps_expr (pe_bm PySem.F.plainAttrs_list PySem.F.slot_list_append PySem.F.type_list_append mt_append (pv 2) (pa_cons (pv 3) pa_nil)))
        (pss_one (ps_setLc (i := 1) (own := [("mark", 8)]) rfl sc_tree_places.nd rfl rfl (sw_true rfl rfl rfl (by decide +kernel)) (pi_listK K rfl (pv 1)) (blkOk_by (N := ["picture", "marks", "told", "place", "point", "wall", "one", "other", "mark"]) (sc := defScope s_tree_places) (by decide +kernel)) (fun _ _ _ _ _ => (pg_name (i := 8) sc_tree_places.nd rfl (Or.inl rfl))) (fun _ _ _ _ _ => pts_nil) (fun _ _ _ _ _ => (pe_ifExp (pt_cmpR op_eq (pv 8) (pv 7) (nomark _)) (pv 6) (pv 8))))))
        pss_nil))))
    (pss_one (ps_ret (pe_callTy (tupleK K rfl) rfl T.b_tuple PyProof.Rows.boot_tuple (pa_cons (pv 2) pa_nil))))))), ?_⟩
    show WS _ [some (v0), none, none, none, none, none, none, none, none] _ _ _
    have pw := hv0.1
    have n5 := pw.n5
    have m5 := pw.m5
    have l25 := pw.len
    refine ws_seq (ws_set (w_lcRm ?_))
    refine w_cons (w_op (r_picP T (w_var rfl ⟨hv0, r_picW T (w_var rfl ⟨hv0, ?_⟩)⟩)))
    walk_at "go"
    refine ⟨n + m, by rw [Int.natCast_add], by omega, fun i => .int (i : Int), fun i G1 hi e1 => ⟨rfl, ?_⟩, fun mp G1 e1 hmp => ?_⟩
    · walk_at "go"
      exact ⟨rfl, .int _⟩
    refine ws_seq (ws_set (w_lst ?_))
    walk_at "go"
    refine ⟨by decide, fun tp htp => ?_⟩
    dsimp only [List.nil_append]
    refine ws_seq ?_
    refine ws_for (i_enumT ?_)
    refine w_cons (r_picL T (w_var rfl ⟨pic_up e1 hv0, fun vp hvp => w_nil ?_⟩))
    obtain ⟨pa', xs, rfl, hpa, hxs⟩ := da_tup hvp
    have hlx := daAll_len hxs
    rw [List.length_map] at hlx
    refine ⟨pa', xs, rfl, hpa, _, _, wk_enumT hpa, fun i σ G' O' => ∃ (vm : V) (u1 u2 u3 u4 u5 u6 : Option V), σ = [some v0, some vm, some (.ref tp), u1, u2, u3, u4, u5, u6] ∧ O' = [(tp, .lst ((tr pfst n m ps i).2.map fun x : Nat => V.int (x : Int)))] ∧ Da G' [] vm (.list (dnats (tr pfst n m ps i).1)),
      ⟨_, _, _, _, _, _, _, rfl, rfl, hmp⟩, ?_, ?_⟩
    · rintro i x σ' G' O' hi e2 ⟨vm, u1, u2, u3, u4, u5, u6, rfl, rfl, hvm⟩ G2 e3 ⟨Tp, y, rfl, hy, hT⟩
      have hi : i < ps.length := by omega
      obtain ⟨d, hd, hyd⟩ := daAll_of (DaAll.up (e2.trans e3) hxs) hy
      rw [pa_get hi] at hd
      cases hd
      have hvm := Da.up e3 hvm
      have hin := pa_in pw hi
      refine g_tup hT rfl (g_cons (g_name (g_cons ?_)))
      refine g_tupD hyd rfl fun zs hzs => ?_
      obtain ⟨v1, v2, rfl, h1, h2⟩ := da2 hzs
      rw [da_int h1, da_int h2]
      refine g_cons (g_name (g_cons (g_name (g_nil (g_nil ?_)))))
      have hs := tr_succ pfst n m ps i
      have hv0' := pic_up ((e1.trans e2).trans e3) hv0
      refine ws_seq (ws_asg (w_tupD ?_))
      walk_at "go"
      refine r_atD (j := (pa ps i).1) (.inl hvm) (dn_get (by rw [tr_len]; omega)) rfl fun y hy => ?_
      rw [da_int hy]
      refine w_cons (w_op (w_var rfl (w_op (r_picP T (w_var rfl ⟨hv0', ?_⟩)))))
      walk_at "go"
      refine r_atD (j := n + (pa ps i).2) (.inl hvm) (dn_get (by rw [tr_len]; omega)) (by rw [Int.natCast_add]) fun y hy => ?_
      rw [da_int hy]
      walk_at "go"
      refine ⟨_, by simp, .cons (.int _) (.cons (.int _) .nil), fun x G4 e4 hx => ?_⟩
      refine g_tupD hx rfl fun zs hzs => ?_
      obtain ⟨v1, v2, rfl, h1, h2⟩ := da2 hzs
      rw [da_int h1, da_int h2]
      refine g_cons (g_name (g_cons (g_name (g_nil ?_))))
      have hvm4 := Da.up e4 hvm
      walk_at "go"
      refine cj_ni (fun hc => ?_) (fun hc => ?_)
      · have hc : (tr pfst n m ps i).1.getD (pa ps i).1 0 ≠ (tr pfst n m ps i).1.getD (n + (pa ps i).2) 0 := by omega
        have hs2 : tr pfst n m ps (i + 1) = ((tr pfst n m ps i).1.map (fun x => if x = (tr pfst n m ps i).1.getD (pa ps i).1 0 ∨ x = (tr pfst n m ps i).1.getD (n + (pa ps i).2) 0 then pfst ((tr pfst n m ps i).1.getD (pa ps i).1 0) ((tr pfst n m ps i).1.getD (n + (pa ps i).2) 0) else x), (tr pfst n m ps i).2 ++ [i]) := by rw [hs, tstep]; exact if_neg hc
        refine ws_seq (ws_drop (w_append ?_))
        walk_at "go"
        refine ⟨0, tp, _, rfl, rfl, ?_⟩
        walk_at "go"
        refine ⟨rfl, ?_, ?_⟩
        · rw [List.length_map]
          have := tr2_len (pick := pfst) (n := n) (m := m) (ps := ps) i
          omega
        · refine ws_set (w_lcLm ?_)
          walk_at "go"
          refine ⟨_, by rw [dn_len, tr_len]; omega, hvm4, fun j => PyData.int ((if (tr pfst n m ps i).1.getD j 0 = (tr pfst n m ps i).1.getD (pa ps i).1 0 ∨ (tr pfst n m ps i).1.getD j 0 = (tr pfst n m ps i).1.getD (n + (pa ps i).2) 0 then pfst ((tr pfst n m ps i).1.getD (pa ps i).1 0) ((tr pfst n m ps i).1.getD (n + (pa ps i).2) 0) else (tr pfst n m ps i).1.getD j 0 : Nat) : Int), ?_, ?_⟩
          · intro j y d G3 hd e4 hy
            obtain ⟨hj, rfl⟩ := dn_of hd hy
            refine ⟨rfl, ?_⟩
            walk_at "go"
            refine cj_i (fun hc2 => ?_) (fun hc2 => ?_)
            · walk_at "go"
              refine ⟨rfl, ?_⟩
              have hcond : (tr pfst n m ps i).1.getD j 0 = (tr pfst n m ps i).1.getD (pa ps i).1 0 ∨ (tr pfst n m ps i).1.getD j 0 = (tr pfst n m ps i).1.getD (n + (pa ps i).2) 0 := by omega
              rw [if_pos hcond]
              exact .int _
            · walk_at "go"
              refine ⟨rfl, ?_⟩
              by_cases hc3 : (tr pfst n m ps i).1.getD j 0 = (tr pfst n m ps i).1.getD (pa ps i).1 0
              · rw [if_pos (.inl hc3), pfst, ← hc3]; exact .int _
              · rw [if_neg (by omega)]; exact .int _
          · intro p G3 e4 hp
            refine ⟨_, _, _, _, _, _, _, rfl, ?_, ?_⟩
            · rw [hs2, List.map_append]; rfl
            · rw [hs2]
              rw [dn_len] at hp
              rw [dnats_map (fun x => if x = (tr pfst n m ps i).1.getD (pa ps i).1 0 ∨ x = (tr pfst n m ps i).1.getD (n + (pa ps i).2) 0 then pfst ((tr pfst n m ps i).1.getD (pa ps i).1 0) ((tr pfst n m ps i).1.getD (n + (pa ps i).2) 0) else x)] at hp
              exact hp
      · have hc : (tr pfst n m ps i).1.getD (pa ps i).1 0 = (tr pfst n m ps i).1.getD (n + (pa ps i).2) 0 := by omega
        have hs2 : tr pfst n m ps (i + 1) = tr pfst n m ps i := by rw [hs, tstep]; exact if_pos hc
        walk_at "go"
        exact ⟨_, _, _, _, _, _, _, rfl, by rw [hs2], by rw [hs2]; exact hvm4⟩
    · rintro σ' G' O' e2 ⟨vm, u1, u2, u3, u4, u5, u6, rfl, rfl, hvm⟩
      rw [hlx]
      refine ws_frzD 0 rfl (daAll_nats _ _) fun G3 e3 htp => ?_
      walk_at "go"
      exact r_tupleD (.inl htp) fun x G4 e4 hx => ⟨rfl, hx⟩
end
/-! text R7 -/
def dend (s x : Nat) : PyData := .tuple [.int (s : Int), .int (x : Int)]
section
variable {P : Program} {w : World} {K : PySem.W.Frag} {mg : Str → Option Value} {base : Heap} {n m : Nat} {ps : List (Nat × Nat)}
theorem sc_other_places : FnScope ["picture", "tree", "place"] ["picture"] (defScope s_other_places) := ⟨rfl, rfl, rfl, by decide +kernel, rfl, by decide +kernel, by decide +kernel⟩
def R_other_places (K : PySem.W.Frag) : Rel := fun ws G post => ∃ (n m : Nat) (ps : List (Nat × Nat)) (v0 : V), ws = [v0] ∧ PicOk K n m ps G v0 ∧ post = fun v G' => Da G' [] v (.tuple (dnats (oth n m ps)))
theorem cal_other_places (T : Txt K mg) : C8.Cal P w K mg base 2 "other_places" (Fn (SP (R_other_places K))) [] := by
  refine cal_by T.d_other_places sc_other_places (fun vs G O R h => ?_) (fun f cdv A outer s H vs G O R E hr h => ?_)
  · obtain ⟨_, _, ⟨_, _, _, _, rfl, _⟩, _⟩ := h; rfl
  · obtain ⟨rfl, post, ⟨n, m, ps, v0, rfl, hv0, rfl⟩, rfl⟩ := h
    refine ⟨_, (pss_cons (ps_set (i := 1) sc_other_places.nd rfl (Or.inr rfl) (C8.pe_c (cal_tree_places T) hr (by omega) rfl (pa_cons (pv 0) pa_nil)))
    (pss_one (ps_ret (pe_callTy (tupleK K rfl) rfl T.b_tuple PyProof.Rows.boot_tuple (pa_cons (pe_lc (own := [("place", 2)]) rfl sc_other_places.nd (pi_range1 rfl T.b_range (pa_cons (pe_callB (lenK K rfl) rfl T.b_len PySem.boot_len (pa_cons (pe_fldK K rfl (pv 0) rfl) pa_nil)) pa_nil)) (blkOk_by (N := ["picture", "tree", "place"]) (sc := defScope s_other_places) (by decide +kernel)) (fun _ _ _ _ _ => (pg_name (i := 2) sc_other_places.nd rfl (Or.inl rfl))) (fun _ _ _ _ _ => (pts_one (pt_cmpR (ninK K rfl) (pv 2) (pv 1) (by with_unfolding_all rfl)))) (fun _ _ _ _ _ => (pv 2))) pa_nil))))), ?_⟩
    show WS _ [some (v0), none, none] _ _ _
    have l25 := hv0.1.len
    walk_at "go"
    refine f_p ⟨n, m, ps, _, rfl, hv0, rfl⟩ fun v G1 e1 hv => ?_
    obtain ⟨a, rfl, ha⟩ := da_natsT hv
    walk_at "go"
    refine w_lcR ?_
    refine w_cons (w_cb (w_cons (r_picL T (w_var rfl ⟨pic_up e1 hv0, fun vp hvp => w_nil ?_⟩))))
    refine r_lenD (.inr hvp) ?_
    rw [List.length_map]
    walk_at "go"
    refine ⟨_, rfl, by omega, fun k => decide (k ∉ tree n m ps), fun k => .int (k : Int), fun i G2 hi e2 => ⟨rfl, ?_⟩, fun p G2 e2 hp => ?_⟩
    · walk_at "go"
      refine r_in (.inl (e2 _ _ ha)) rfl (flat_ints _) ?_
      rw [inV_nats]
      walk_at "go"
      refine ⟨rfl, by simp, fun _ => ?_⟩
      walk_at "go"
      exact ⟨rfl, .int _⟩
    · walk_at "go"
      exact r_tupleD (.inl hp) fun x G3 e3 hx => ⟨rfl, hx⟩
theorem sc_meets_end : FnScope ["pair", "end"] ["pair", "end"] (defScope s_meets_end) := ⟨rfl, rfl, rfl, by decide +kernel, rfl, by decide +kernel, by decide +kernel⟩
def R_meets_end : Rel := fun ws G post => ∃ (p : Nat × Nat) (s x : Nat) (vp ve : V), ws = [vp, ve] ∧ Da G [] vp (dpair p) ∧ Da G [] ve (dend s x) ∧ s < 2 ∧ post = fun v G' => v = .bl (decide (sd s p = x))
theorem cal_meets_end (T : Txt K mg) : C8.Cal P w K mg base 1 "meets_end" (Fn (SP R_meets_end)) [] := by
  refine cal_by T.d_meets_end sc_meets_end (fun vs G O R h => ?_) (fun f cdv A outer s H vs G O R E hr h => ?_)
  · obtain ⟨_, _, ⟨_, _, _, _, _, rfl, _⟩, _⟩ := h; rfl
  · obtain ⟨rfl, post, ⟨p, sd', x, vp, ve, rfl, hp, he, hs, rfl⟩, rfl⟩ := h
    refine ⟨_, (pss_one (ps_ret (pe_cmpR op_eq (pe_ix (ixK K rfl) (pv 0) (pe_ix (ixK K rfl) (pv 1) pe_int (fun _ _ => rfl)) (fun _ _ => rfl)) (pe_ix (ixK K rfl) (pv 1) pe_int (fun _ _ => rfl)) (nomark _)))), ?_⟩
    show WS _ [some (vp), some (ve)] _ _ _
    walk_at "go"
    refine r_atD (j := 0) (.inr he) rfl rfl fun y hy => ?_
    rw [da_int hy]
    refine r_atD (j := sd') (.inr hp) (sd_get hs) rfl fun y hy => ?_
    rw [da_int hy]
    walk_at "go"
    refine r_atD (j := 1) (.inr he) rfl rfl fun y hy => ?_
    rw [da_int hy]
    walk_at "go"
    refine ⟨rfl, ?_⟩
    congr 1
    rw [Bool.eq_iff_iff, decide_eq_true_eq, decide_eq_true_eq, V.int.injEq]; omega
theorem sc_loose_ends : FnScope ["picture", "left", "place", "told", "side", "end", "other"] ["picture", "left", "place"] (defScope s_loose_ends) := ⟨rfl, rfl, rfl, by decide +kernel, rfl, by decide +kernel, by decide +kernel⟩
def dends (ps : List (Nat × Nat)) (k : Nat) (l : List Nat) : List PyData := l.map fun s => dend s (sd s (pa ps k))
def R_loose_ends (K : PySem.W.Frag) : Rel := fun ws G post => ∃ (n m : Nat) (ps : List (Nat × Nat)) (v0 vl : V) (left : List Nat) (k : Nat), ws = [v0, vl, .int (k : Int)] ∧ PicOk K n m ps G v0 ∧ Da G [] vl (.list (dnats left)) ∧ (∀ j ∈ left, j < ps.length) ∧ left.length ≤ 25 ∧ k < ps.length ∧ post = fun v G' => Da G' [] v (.list (dends ps k (ends ps left k)))
theorem any_good {ps : List (Nat × Nat)} {left : List Nat} {k s : Nat} : ((left.filter fun j => decide (j ≠ k)).map fun j => decide (sd s (pa ps j) = sd s (pa ps k))).any id = !good ps left k s := by
  rw [good, List.any_map, List.any_filter, Bool.eq_iff_iff]
  rw [Bool.not_eq_true', ← Bool.not_eq_true, List.all_eq_true, List.any_eq_true]
  constructor
  · rintro ⟨j, hj, hc⟩ hall
    have := hall j hj
    by_cases e : j = k <;> simp_all
  · intro h
    apply Classical.byContradiction
    intro hn
    refine h fun j hj => ?_
    apply Classical.byContradiction
    intro hc
    refine hn ⟨j, hj, ?_⟩
    by_cases e : j = k <;> simp_all
theorem cal_loose_ends (T : Txt K mg) : C8.Cal P w K mg base 2 "loose_ends" (Fn (SP (R_loose_ends K))) [] := by
  refine cal_by T.d_loose_ends sc_loose_ends (fun vs G O R h => ?_) (fun f cdv A outer s H vs G O R E hr h => ?_)
  · obtain ⟨_, _, ⟨_, _, _, _, _, _, _, rfl, _⟩, _⟩ := h; rfl
  · obtain ⟨rfl, post, ⟨n, m, ps, v0, vl, left, k, rfl, hv0, hvl, hin, h25, hk, rfl⟩, rfl⟩ := h
    refine ⟨_, (pss_cons (ps_set (i := 3) sc_loose_ends.nd rfl (Or.inl rfl) (pe_lst pa_nil))
    (pss_cons (ps_for PassesOwn.never rfl (pi_range1 rfl T.b_range (pa_cons pe_int pa_nil)) (pg_name (i := 4) sc_loose_ends.nd rfl (Or.inl rfl))
      (pss_cons (ps_set (i := 5) sc_loose_ends.nd rfl (Or.inr rfl) (pe_tup (pa_cons (pv 4) (pa_cons (pe_ix (ixK K rfl) (pe_ix (ixK K rfl) (pe_fldK K rfl (pv 0) rfl) (pv 2) (fun _ _ => rfl)) (pv 4) (fun _ _ => rfl)) pa_nil))))
      (pss_one (ps_if (pt_not (pt_val (pe_callB (anyK K rfl rfl) rfl T.b_any (by decide +kernel) (pa_cons (pe_lc (own := [("other", 6)]) rfl sc_loose_ends.nd (pi_listK K rfl (pv 1)) (blkOk_by (N := ["picture", "left", "place", "told", "side", "end", "other"]) (sc := defScope s_loose_ends) (by decide +kernel)) (fun _ _ _ _ _ => (pg_name (i := 6) sc_loose_ends.nd rfl (Or.inl rfl))) (fun _ _ _ _ _ => (pts_one (pt_cmpR op_ne (pv 6) (pv 2) (nomark _)))) (fun _ _ _ _ _ => (C8.pe_c (cal_meets_end T) hr (by omega) rfl (pa_cons (pe_ix (ixK K rfl) (pe_fldK K rfl (pv 0) rfl) (pv 6) (fun _ _ => rfl)) (pa_cons (pv 5) pa_nil))))) pa_nil))))
        (pss_one (ps_expr (pe_bm PySem.F.plainAttrs_list PySem.F.slot_list_append PySem.F.type_list_append mt_append (pv 3) (pa_cons (pv 5) pa_nil))))
        pss_nil))))
    (pss_one (ps_ret (pv 3))))), ?_⟩
    show WS _ [some (v0), some (vl), some (.int (k : Int)), none, none, none, none] _ _ _
    refine ws_seq (ws_set (w_lst ?_))
    walk_at "go"
    refine ⟨by decide, fun tp htp => ?_⟩
    dsimp only [List.nil_append]
    refine ws_seq ?_
    refine ws_for (i_range1 ?_)
    walk_at "go"
    refine ⟨by decide, by decide, _, _, wk_range0, fun i σ G' O' => ∃ (u1 u2 u3 : Option V) (xs : List V), σ = [some v0, some vl, some (.int (k : Int)), some (.ref tp), u1, u2, u3] ∧ O' = [(tp, .lst xs)] ∧ DaAll G' [] xs (dends ps k ((List.range i).filter (good ps left k))), ⟨_, _, _, [], rfl, rfl, .nil⟩, ?_, ?_⟩
    · rintro i x σ' G' O' hi e1 ⟨u1, u2, u3, xs, rfl, rfl, hxs⟩ G2 e2 rfl
      have hi : i < 2 := hi
      have hv0 := pic_up (e1.trans e2) hv0
      have hvl := Da.up (e1.trans e2) hvl
      have hxs := DaAll.up e2 hxs
      refine g_name ?_
      refine ws_seq (ws_set (w_tupD ?_))
      refine w_cons (w_var rfl (w_cons (w_op (w_op (r_picL T (w_var rfl ⟨hv0, fun vp hvp => ?_⟩))))))
      walk_at "go"
      refine r_atD (j := k) (.inr hvp) (pa_get hk) rfl fun y hy => ?_
      walk_at "go"
      refine r_atD (j := i) (.inr hy) (sd_get hi) rfl fun y hy => ?_
      rw [da_int hy]
      walk_at "go"
      refine ⟨_, by simp, .cons (.int _) (.cons (.int _) .nil), fun ve G3 e3 hve => ?_⟩
      have step : dends ps k ((List.range (i + 1)).filter (good ps left k)) = dends ps k ((List.range i).filter (good ps left k)) ++ (if good ps left k i = true then [dend i (sd i (pa ps k))] else []) := by
        rw [dends, List.range_succ, List.filter_append, List.map_append]
        congr 1
        by_cases h : good ps left k i = true <;> simp [List.filter_cons, h]
      have hlx := daAll_len hxs
      have hll : (dends ps k ((List.range i).filter (good ps left k))).length ≤ 2 := by
        rw [dends, List.length_map]
        exact Nat.le_trans (List.length_filter_le _ _) (by simp; omega)
      walk_at "go"
      refine w_lcL ?_
      walk_at "go"
      refine ⟨_, by rw [dn_len]; omega, Da.up e3 hvl, fun j => decide (left.getD j 0 ≠ k), fun j => .bool (decide (sd i (pa ps (left.getD j 0)) = sd i (pa ps k))), ?_, ?_⟩
      · intro j y d G4 hd e4 hy
        obtain ⟨hj, rfl⟩ := dn_of hd hy
        have hjm : left.getD j 0 ∈ left := by rw [List.getD_eq_getElem?_getD, List.getElem?_eq_getElem hj]; exact List.getElem_mem hj
        refine ⟨rfl, ?_⟩
        walk_at "go"
        refine ⟨rfl, ?_, fun _ => ?_⟩
        · rw [Bool.eq_iff_iff, decide_eq_true_eq, Bool.not_eq_true', decide_eq_false_iff_not, V.int.injEq]; omega
        · walk_at "go"
          refine r_picL T (w_var rfl ⟨pic_up (e3.trans e4) hv0, fun vp hvp => ?_⟩)
          walk_at "go"
          refine r_atD (j := left.getD j 0) (.inr hvp) (pa_get (hin _ hjm)) rfl fun z hz => ?_
          walk_at "go"
          refine f_p ⟨_, i, sd i (pa ps k), _, _, rfl, hz, Da.up e4 hve, hi, rfl⟩ fun v G5 e5 hv => ?_
          subst hv
          exact ⟨rfl, .bl _⟩
      · intro p G4 e4 hp
        rw [dn_len, filt_range left 0 (fun x => decide (x ≠ k)) (fun x : Nat => PyData.bool (decide (sd i (pa ps x) = sd i (pa ps k))))] at hp
        have ep : (left.filter fun x => decide (x ≠ k)).map (fun x : Nat => PyData.bool (decide (sd i (pa ps x) = sd i (pa ps k)))) = ((left.filter fun x => decide (x ≠ k)).map fun x => decide (sd i (pa ps x) = sd i (pa ps k))).map PyData.bool := by rw [List.map_map]; rfl
        rw [ep] at hp
        obtain ⟨p', xs', hpe, hG, hxs'⟩ := da_lst hp
        cases hpe
        rw [daAll_bls' hxs'] at hG
        walk_at "go"
        refine r_any (.inl hG) ?_
        rw [any_good]
        walk_at "go"
        cases hg : good ps left k i with
        | true =>
          refine ⟨fun _ => ?_, fun z => (by cases z)⟩
          refine ws_drop (w_append ?_)
          walk_at "go"
          refine ⟨0, tp, _, rfl, rfl, ?_⟩
          walk_at "go"
          refine ⟨rfl, by omega, _, _, _, _, rfl, rfl, ?_⟩
          rw [step, hg, if_pos rfl]
          exact daAll_snoc (DaAll.up (e3.trans e4) hxs) (Da.up e4 hve)
        | false =>
          refine ⟨fun z => (by cases z), fun _ => ?_⟩
          walk_at "go"
          refine ⟨_, _, _, _, rfl, rfl, ?_⟩
          rw [step, hg, if_neg (by decide), List.append_nil]
          exact DaAll.up (e3.trans e4) hxs
    · rintro σ' G' O' e1 ⟨u1, u2, u3, xs, rfl, rfl, hxs⟩
      refine ws_frzD 0 rfl hxs fun G3 e3 htp => ?_
      walk_at "go"
      exact ⟨rfl, htp⟩
end
/-! text R8 -/
section
variable {P : Program} {w : World} {K : PySem.W.Frag} {mg : Str → Option Value} {base : Heap} {n m : Nat} {ps : List (Nat × Nat)}
theorem sc_completed_tour : FnScope ["picture", "tree", "numbers", "told", "left", "done", "place", "ends", "end", "other", "pair", "number"] ["picture", "tree", "numbers"] (defScope s_completed_tour) := ⟨rfl, rfl, rfl, by decide +kernel, rfl, by decide +kernel, by decide +kernel⟩
/-- what the scan over left has found so far -/
def dn? (ps : List (Nat × Nat)) (G : Hp) (v : V) : Option (Nat × Nat) → Prop
  | none => v = .non
  | some (k, s) => Da G [] v (.tuple [.int (k : Int), dend s (sd s (pa ps k))])
theorem dn_up {ps : List (Nat × Nat)} {G G' : Hp} {v : V} {o : Option (Nat × Nat)} (e : Ex G G') (h : dn? ps G v o) : dn? ps G' v o := by
  cases o with
  | none => exact h
  | some p => exact Da.up e h
theorem esum0 {ps : List (Nat × Nat)} {out : List Int} {k s : Nat} (hl : out.length = ps.length) (hk : k < ps.length) :
    (((List.range ps.length).filter fun j => decide (sd s (pa ps j) = sd s (pa ps k))).map fun j => (out.set k 0).getD j 0).sum = esum ps out k s := by
  rw [esum, sm_filter, sm_filter]
  refine sm_congr fun j hj => ?_
  rw [getD_set _ _ _ _ _ (by omega)]
  by_cases e : j = k
  · subst e; simp
  · by_cases c : sd s (pa ps j) = sd s (pa ps k) <;> simp [e, c]
def R_completed_tour (K : PySem.W.Frag) : Rel := fun ws G post => ∃ (n m : Nat) (ps : List (Nat × Nat)) (v0 vt vn : V) (nums : List Int), ws = [v0, vt, vn] ∧ PicOk K n m ps G v0 ∧ Da G [] vt (.tuple (dnats (tree n m ps))) ∧ Da G [] vn (.list (dints nums)) ∧ nums.length = ps.length ∧ post = fun v G' => Da G' [] v (.tuple (dints (tl ps (tree n m ps).length (tree n m ps) nums)))
theorem cal_completed_tour (T : Txt K mg) : C8.Cal P w K mg base 3 "completed_tour" (Fn (SP (R_completed_tour K))) [] := by
  refine cal_by T.d_completed_tour sc_completed_tour (fun vs G O R h => ?_) (fun f cdv A outer s H vs G O R E hr h => ?_)
  · obtain ⟨_, _, ⟨_, _, _, _, _, _, _, rfl, _⟩, _⟩ := h; rfl
  · obtain ⟨rfl, post, ⟨n, m, ps, v0, vt, vn, nums, rfl, hv0, hvt, hvn, hnl, rfl⟩, rfl⟩ := h
    refine ⟨_, (pss_cons (ps_set (i := 3) sc_completed_tour.nd rfl (Or.inl rfl) (pe_callTy (listK K rfl) rfl T.b_list PyProof.Rows.boot_list (pa_cons (pv 2) pa_nil)))
    (pss_cons (ps_set (i := 4) sc_completed_tour.nd rfl (Or.inl rfl) (pe_callTy (listK K rfl) rfl T.b_list PyProof.Rows.boot_list (pa_cons (pv 1) pa_nil)))
    (pss_cons (ps_while PassesOwn.never (pt_truK K rfl (pv 4) (by intro _; rfl))
      (pss_cons (ps_set (i := 5) sc_completed_tour.nd rfl (Or.inl rfl) pe_non)
      (pss_cons (ps_for PassesOwn.never rfl (pi_listK K rfl (pv 4)) (pg_name (i := 6) sc_completed_tour.nd rfl (Or.inr rfl))
        (pss_cons (ps_set (i := 7) sc_completed_tour.nd rfl (Or.inl rfl) (C8.pe_c (cal_loose_ends T) hr (by omega) rfl (pa_cons (pv 0) (pa_cons (pv 4) (pa_cons (pv 6) pa_nil)))))
        (pss_one (ps_if (PW.pt (pw_and (pt_truK K rfl (pv 7) (by intro _; rfl)) (pw_and1 (pt_cmpR op_isNone (pv 5) pe_non (nomark _)))))
          (pss_one (ps_set (i := 5) sc_completed_tour.nd rfl (Or.inl rfl) (pe_tup (pa_cons (pv 6) (pa_cons (pe_ix (ixK K rfl) (pv 7) pe_int (fun _ _ => rfl)) pa_nil)))))
          pss_nil))))
      (pss_cons (ps_asg (pv 5) (pg_tupK K rfl (n := 2) rfl (pgs_cons (pg_name (i := 6) sc_completed_tour.nd rfl (Or.inr rfl)) (pgs_cons (pg_name (i := 8) sc_completed_tour.nd rfl (Or.inr rfl)) pgs_nil))))
      (pss_cons (ps_setLc (i := 4) (own := [("other", 9)]) rfl sc_completed_tour.nd rfl rfl (sw_true rfl rfl rfl (by decide +kernel)) (pi_listK K rfl (pv 4)) (blkOk_by (N := ["picture", "tree", "numbers", "told", "left", "done", "place", "ends", "end", "other", "pair", "number"]) (sc := defScope s_completed_tour) (by decide +kernel)) (fun _ _ _ _ _ => (pg_name (i := 9) sc_completed_tour.nd rfl (Or.inl rfl))) (fun _ _ _ _ _ => (pts_one (pt_cmpR op_ne (pv 9) (pv 6) (nomark _)))) (fun _ _ _ _ _ => (pv 9)))
      (pss_cons (ps_asg pe_int (pg_sub (pv 3) (pv 6) set_list))
      (pss_one (ps_asg (pe_op op_sub pe_int (pe_callB (sumK K rfl rfl) rfl T.b_sum (by decide +kernel) (pa_cons (pe_lc (own := [("pair", 10), ("number", 11)]) rfl sc_completed_tour.nd (pi_zipM K rfl rfl T.b_zip (pa_cons (pe_fldK K rfl (pv 0) rfl) (pa_cons (pv 3) pa_nil))) (blkOk_by (N := ["picture", "tree", "numbers", "told", "left", "done", "place", "ends", "end", "other", "pair", "number"]) (sc := defScope s_completed_tour) (by decide +kernel)) (fun _ _ _ _ _ => (pg_tupK K rfl (n := 2) rfl (pgs_cons (pg_name (i := 10) sc_completed_tour.nd rfl (Or.inl rfl)) (pgs_cons (pg_name (i := 11) sc_completed_tour.nd rfl (Or.inl rfl)) pgs_nil)))) (fun _ _ _ _ _ => (pts_one (pt_val (C8.pe_c (cal_meets_end T) hr (by omega) rfl (pa_cons (pv 10) (pa_cons (pv 8) pa_nil)))))) (fun _ _ _ _ _ => (pv 11))) pa_nil))) (pg_sub (pv 3) (pv 6) set_list)))))))))
    (pss_one (ps_ret (pe_callTy (tupleK K rfl) rfl T.b_tuple PyProof.Rows.boot_tuple (pa_cons (pv 3) pa_nil))))))), ?_⟩
    show WS _ [some (v0), some (vt), some (vn), none, none, none, none, none, none, none, none, none] _ _ _
    have pw := hv0.1
    have l25 := pw.len
    have htl : (tree n m ps).length ≤ ps.length := tr2_len ps.length
    obtain ⟨na, rfl, hna⟩ := da_ints hvn
    walk_at "go"
    refine r_list (.inr (.inl hna)) fun tp htp => ?_
    dsimp only [List.nil_append]
    walk_at "go"
    refine r_listDG (.inr hvt) fun vl G1 e1 hvl => ?_
    refine ws_seq ?_
    refine ws_while (fun μ σ G' O' => ∃ (left : List Nat) (out : List Int) (vl : V) (u1 u2 u3 u4 u5 u6 u7 : Option V), left.length = μ ∧ σ = [some v0, some vt, some (.ref na), some (.ref tp), some vl, u1, u2, u3, u4, u5, u6, u7] ∧ O' = [(tp, .lst (out.map V.int))] ∧ Da G' [] vl (.list (dnats left)) ∧
        left.Nodup ∧ (∀ k ∈ left, k ∈ tree n m ps) ∧ out.length = ps.length ∧ left.length ≤ 25 ∧ tl ps left.length left out = tl ps (tree n m ps).length (tree n m ps) nums) (tree n m ps).length
        ⟨_, _, _, _, _, _, _, _, _, _, rfl, rfl, rfl, hvl, tree_nd, fun _ h => h, hnl, by omega, rfl⟩ ?_
    rintro μ σ' G2 O' e2 ⟨left, out, vl, u1, u2, u3, u4, u5, u6, u7, rfl, rfl, rfl, hvl, nd, hsub, hol, h25, htour⟩
    have hv0 := pic_up (e1.trans e2) hv0
    have hin : ∀ k ∈ left, k < ps.length := fun k hk => tree_lt (hsub k hk)
    refine t_tru (w_var rfl (.inr ?_))
    obtain ⟨la, rfl, hla⟩ := da_nats hvl
    refine ⟨la, _, rfl, .inr (.inl hla), ?_⟩
    cases left with
    | nil =>
      refine ⟨fun z => (by cases z), fun _ => ?_⟩
      refine ws_frzD 0 rfl (daAll_ints _) fun G3 e3 htp => ?_
      walk_at "go"
      refine r_tupleD (.inl htp) fun x G4 e4 hx => ⟨rfl, ?_⟩
      rw [← htour]
      exact hx
    | cons l0 lr =>
    refine ⟨fun _ => ?_, fun z => (by cases z)⟩
    generalize hL : l0 :: lr = left at *
    have hlen : left.length = lr.length + 1 := by rw [← hL]; rfl
    obtain ⟨k, s, hlf, hk, hs, hg⟩ := lf_some pw hin ((tree_fo pw).sub hsub) (fun z => by rw [z] at hlen; cases hlen)
    have hkl := hin k hk
    have hleft := filt_len nd hk hlen
    refine ws_seq (ws_set (w_c ?_))
    refine ws_seqI (fun σ G' O' => ∃ (vd : V) (u2 u3 u4 u5 u6 u7 : Option V), σ = [some v0, some vt, some (.ref na), some (.ref tp), some (.ref la), some vd, u2, u3, u4, u5, u6, u7] ∧ O' = [(tp, .lst (out.map V.int))] ∧ Da G' [] vd (.tuple [.int (k : Int), dend s (sd s (pa ps k))])) ?_ ?_
    · refine ws_for (i_list (w_var rfl ?_))
      have hN : ∀ i, i < left.length → left[i]? = some (left.getD i 0) := fun i hi => by rw [List.getD_eq_getElem?_getD, List.getElem?_eq_getElem hi]; rfl
      refine ⟨la, _, rfl, .inl hla, _, _, wk_list hla, fun i σ G' O' => ∃ (vd : V) (u2 u3 u4 u5 u6 u7 : Option V), σ = [some v0, some vt, some (.ref na), some (.ref tp), some (.ref la), some vd, u2, u3, u4, u5, u6, u7] ∧ O' = [(tp, .lst (out.map V.int))] ∧ dn? ps G' vd ((left.take i).findSome? fun k => (ends ps left k).head?.map fun s => (k, s)), ⟨_, _, _, _, _, _, _, rfl, rfl, rfl⟩, ?_, ?_⟩
      · rintro i x σ' G3 O' hi e3 ⟨vd, u2, u3, u4, u5, u6, u7, rfl, rfl, hvd⟩ G4 e4 hx
        have hi : i < left.length := by simpa using hi
        rw [List.getElem?_map, hN i hi] at hx
        have hx : V.int ((left.getD i 0 : Nat) : Int) = x := Option.some.inj hx
        subst hx
        have hmem : left.getD i 0 ∈ left := List.mem_of_getElem? (hN i hi)
        have hla4 := (e3.trans e4) _ _ hla
        have hvd := dn_up e4 hvd
        have htk : left.take (i + 1) = left.take i ++ [left.getD i 0] := by
          rw [List.take_add_one, hN i hi]; rfl
        generalize left.getD i 0 = q at *
        refine g_name ?_
        walk_at "go"
        refine f_p ⟨n, m, ps, _, _, left, q, rfl, pic_up (e3.trans e4) hv0, .lst (.inl hla4) (daAll_nats _ _), hin, h25, hin q hmem, rfl⟩ fun ve G5 e5 hve => ?_
        have hvd := dn_up e5 hvd
        refine ws_if (t_and (t_tru (w_var rfl (.inr ?_))))
        obtain ⟨ea, exs, rfl, hea, hexs⟩ := da_lst hve
        refine ⟨ea, exs, rfl, .inr (.inl hea), ?_⟩
        have hel := daAll_len hexs
        rw [dends, List.length_map] at hel
        cases hcase : ends ps left q with
        | nil =>
          rw [hcase] at hel
          rw [List.length_eq_zero_iff.mp hel]
          refine ⟨fun z => (by cases z), fun _ => ?_⟩
          walk_at "go"
          refine ⟨vd, _, _, _, _, _, _, rfl, rfl, ?_⟩
          rw [htk, List.findSome?_append, List.findSome?_cons, hcase]
          cases hfs : (left.take i).findSome? fun k => (ends ps left k).head?.map fun s => (k, s) with
          | none => rw [hfs] at hvd; exact hvd
          | some p => rw [hfs] at hvd; exact hvd
        | cons s0 sr =>
          rw [hcase] at hexs
          cases hexs with
          | cons hh ht =>
          refine ⟨fun _ => ?_, fun z => (by cases z)⟩
          cases hfs : (left.take i).findSome? fun k => (ends ps left k).head?.map fun s => (k, s) with
          | none =>
            rw [hfs] at hvd
            obtain rfl : vd = .non := hvd
            walk_at "go"
            refine ⟨fun _ => ?_, fun z => by simp at z⟩
            refine ws_set (w_tupD ?_)
            walk_at "go"
            refine r_atS (i := ((0 : Nat) : Int)) (.inr (.inl hea)) (atI_nat rfl) ?_
            walk_at "go"
            refine ⟨_, by simp, .cons (.int _) (.cons hh .nil), fun x G6 e6 hx => ?_⟩
            refine ⟨x, _, _, _, _, _, _, rfl, rfl, ?_⟩
            rw [htk, List.findSome?_append, hfs, List.findSome?_cons, hcase]
            exact hx
          | some p =>
            rw [hfs] at hvd
            obtain ⟨pk, psd⟩ := p
            obtain ⟨da', dxs, rfl, _, _⟩ := da_tup hvd
            walk_at "go"
            refine ⟨fun z => by simp at z, fun _ => ?_⟩
            walk_at "go"
            refine ⟨_, _, _, _, _, _, _, rfl, rfl, ?_⟩
            rw [htk, List.findSome?_append, hfs]
            exact hvd
      · rintro σ' G3 O' e3 ⟨vd, u2, u3, u4, u5, u6, u7, rfl, rfl, hvd⟩
        rw [List.length_map, List.take_length] at hvd
        have hvd : dn? ps G3 vd (lf ps left) := hvd
        rw [hlf] at hvd
        exact ⟨vd, _, _, _, _, _, _, rfl, rfl, hvd⟩
    rintro σ G3 O3 e3 ⟨vd, u2, u3, u4, u5, u6, u7, rfl, rfl, hvd⟩
    have hv0 := pic_up e3 hv0
    refine ws_seq (ws_asg (w_var rfl ?_))
    refine g_tupD hvd rfl fun zs hzs => ?_
    obtain ⟨v1, v2, rfl, h1, h2⟩ := da2 hzs
    rw [da_int h1]
    refine g_cons (g_name (g_cons (g_name (g_nil ?_))))
    refine ws_seq (ws_set (w_lcL ?_))
    walk_at "go"
    refine ⟨dnats left, by rw [dn_len]; omega, .lst (.inl (e3 _ _ hla)) (daAll_nats _ _), fun j => decide (left.getD j 0 ≠ k), fun j => .int (left.getD j 0 : Nat), ?_, ?_⟩
    · intro j y d G4 hd e4 hy
      obtain ⟨hj, rfl⟩ := dn_of hd hy
      refine ⟨rfl, ?_⟩
      walk_at "go"
      refine ⟨rfl, ?_, fun _ => ?_⟩
      · rw [Bool.eq_iff_iff, decide_eq_true_eq, Bool.not_eq_true', decide_eq_false_iff_not, V.int.injEq]; omega
      · walk_at "go"
        exact ⟨rfl, .int _⟩
    intro lp G4 e4 hlp
    rw [dn_len, filt_range left 0 (fun x => decide (x ≠ k)) (fun x : Nat => PyData.int (x : Int))] at hlp
    refine ws_seq (ws_asg (w_c ?_))
    refine g_sub 0 ?_
    walk_at "go"
    refine ⟨_, _, _, _, rfl, rfl, rfl, ixN_nat (by rw [List.length_map]; omega), ?_⟩
    show WS _ _ _ [(tp, HO.lst ((out.map V.int).set k (V.int 0)))] _
    rw [set_ints]
    refine ws_asg (w_op (w_c (w_cb (w_cons (w_lcGW (i_zipM (w_cons (r_picL T (w_var rfl ⟨pic_up e4 hv0, fun vp hvp => ?_⟩))))))))) 
    obtain ⟨pa', xs, rfl, hpa, hxs⟩ := da_tup hvp
    have hlx := daAll_len hxs
    rw [List.length_map] at hlx
    walk_at "go"
    refine ⟨pa', tp, xs, (out.set k 0).map V.int, rfl, hpa, .inr (List.mem_cons_self ..), xs.length, _, [(tp, .lst ((out.set k 0).map V.int))], by omega, wk_zipMO (ys := (out.set k 0).map V.int) hpa (List.mem_cons_self ..) (by rw [List.length_map, List.length_set]; omega),
      fun i acc G' O' => O' = [(tp, .lst ((out.set k 0).map V.int))] ∧ DaAll G' [] acc ((((List.range i).filter fun j => decide (sd s (pa ps j) = sd s (pa ps k))).map fun j => (out.set k 0).getD j 0).map PyData.int), fun _ _ _ _ hp p hp2 => (by rw [hp.1]; exact hp2), ⟨rfl, .nil⟩, ?_, ?_⟩
    · rintro i x acc G' O' hi e5 ⟨rfl, hacc⟩ G5 e6 ⟨Tp, y, z, rfl, hy, hz, hT⟩
      have hi : i < ps.length := by omega
      obtain ⟨d, hd, hyd⟩ := daAll_of (DaAll.up (e5.trans e6) hxs) hy
      rw [pa_get hi] at hd
      cases hd
      rw [ints_at (by rw [List.length_set]; omega)] at hz
      cases hz
      refine g_tup hT rfl (g_cons (g_name (g_cons (g_name (g_nil ⟨rfl, ?_⟩)))))
      have step : (((List.range (i + 1)).filter fun j => decide (sd s (pa ps j) = sd s (pa ps k))).map fun j => (out.set k 0).getD j 0).map PyData.int = (((List.range i).filter fun j => decide (sd s (pa ps j) = sd s (pa ps k))).map fun j => (out.set k 0).getD j 0).map PyData.int ++ (if sd s (pa ps i) = sd s (pa ps k) then [PyData.int ((out.set k 0).getD i 0)] else []) := by
        rw [List.range_succ, List.filter_append, List.map_append, List.map_append]
        congr 1
        by_cases h : sd s (pa ps i) = sd s (pa ps k) <;> simp [List.filter_cons, h]
      have hacc := DaAll.up e6 hacc
      walk_at "go"
      refine f_p ⟨pa ps i, s, sd s (pa ps k), _, _, rfl, hyd, Da.up ((e4.trans e5).trans e6) h2, hs, rfl⟩ fun v G6 e7 hv => ?_
      subst hv
      refine ⟨_, rfl, cj_d (fun hc => ?_) (fun hc => ?_)⟩
      · walk_at "go"
        refine ⟨rfl, ?_⟩
        rw [step, if_pos hc]
        exact daAll_snoc (DaAll.up e7 hacc) (.int _)
      · refine ⟨rfl, ?_⟩
        rw [step, if_neg hc, List.append_nil]
        exact DaAll.up e7 hacc
    · rintro acc p G' O' hl e5 ⟨rfl, hacc⟩ G5 e6 hp
      rw [hlx] at hacc
      rw [daAll_ints' hacc] at hp
      walk_at "go"
      refine r_sum (.inl hp) ?_
      rw [esum0 hol hkl]
      walk_at "go"
      refine ⟨_, _, _, _, rfl, rfl, rfl, ixN_nat (by rw [List.length_map, List.length_set]; omega), ?_⟩
      refine ⟨lr.length, by omega, left.filter fun j => decide (j ≠ k), out.set k (0 - esum ps out k s), _, _, _, _, _, _, _, _, hleft, rfl, ?_, Da.up (e5.trans e6) hlp, nd.sublist List.filter_sublist, fun j hj => hsub j (List.mem_filter.mp hj).1, by rw [List.length_set, hol], by omega, ?_⟩
      · rw [set_ints, List.set_set]
      · rw [hleft, ← htour, hlen, tl, hlf]
end
/-! text R9 -/
section
variable {P : Program} {w : World} {K : PySem.W.Frag} {mg : Str → Option Value} {base : Heap} {n m : Nat} {ps : List (Nat × Nat)}
theorem sc_tour_of : FnScope ["picture", "row", "places", "numbers", "place", "number"] ["picture", "row"] (defScope s_tour_of) := ⟨rfl, rfl, rfl, by decide +kernel, rfl, by decide +kernel, by decide +kernel⟩
def R_tour_of (K : PySem.W.Frag) : Rel := fun ws G post => ∃ (n m : Nat) (ps : List (Nat × Nat)) (v0 vr : V) (row : List Int), ws = [v0, vr] ∧ PicOk K n m ps G v0 ∧ Da G [] vr (.list (dints row)) ∧ row.length = (oth n m ps).length ∧ post = fun v G' => Da G' [] v (.tuple (dints (tour n m ps row)))
theorem cal_tour_of (T : Txt K mg) : C8.Cal P w K mg base 4 "tour_of" (Fn (SP (R_tour_of K))) [] := by
  refine cal_by T.d_tour_of sc_tour_of (fun vs G O R h => ?_) (fun f cdv A outer s H vs G O R E hr h => ?_)
  · obtain ⟨_, _, ⟨_, _, _, _, _, _, rfl, _⟩, _⟩ := h; rfl
  · obtain ⟨rfl, post, ⟨n, m, ps, v0, vr, row, rfl, hv0, hvr, hrl, rfl⟩, rfl⟩ := h
    refine ⟨_, (pss_cons (ps_set (i := 2) sc_tour_of.nd rfl (Or.inl rfl) (C8.pe_c (cal_other_places T) hr (by omega) rfl (pa_cons (pv 0) pa_nil)))
    (pss_cons (ps_if (PW.pt (pw_or (pt_not (pt_val (pe_callB (isiTK K rfl) rfl T.b_isinstance PyProof.Rows.boot_isinstance (pa_cons (pv 1) (pa_cons (pe_tup (pa_cons (pe_bltn (v := .ty "list") rfl T.b_list PyProof.Rows.boot_list rfl) (pa_cons (pe_bltn (v := .ty "tuple") rfl T.b_tuple PyProof.Rows.boot_tuple rfl) pa_nil))) pa_nil))))) (pw_or1 (pt_cmpR op_ne (pe_callB (lenK K rfl) rfl T.b_len PySem.boot_len (pa_cons (pv 1) pa_nil)) (pe_callB (lenK K rfl) rfl T.b_len PySem.boot_len (pa_cons (pv 2) pa_nil)) (nomark _)))))
      (pss_one ps_never)
      pss_nil)
    (pss_cons (ps_if (pt_not (pt_val (pe_callB (allK K rfl rfl) rfl T.b_all (by decide +kernel) (pa_cons (pe_lc (own := [("number", 5)]) rfl sc_tour_of.nd (pi_listK K rfl (pv 1)) (blkOk_by (N := ["picture", "row", "places", "numbers", "place", "number"]) (sc := defScope s_tour_of) (by decide +kernel)) (fun _ _ _ _ _ => (pg_name (i := 5) sc_tour_of.nd rfl (Or.inl rfl))) (fun _ _ _ _ _ => pts_nil) (fun _ _ _ _ _ => (C8.pe_c (cal_is_whole1 T) hr (by omega) rfl (pa_cons (pv 5) pa_nil)))) pa_nil))))
      (pss_one ps_never)
      pss_nil)
    (pss_cons (ps_set (i := 3) sc_tour_of.nd rfl (Or.inl rfl) (pe_op op_rep (pe_lst (pa_cons pe_int pa_nil)) (pe_callB (lenK K rfl) rfl T.b_len PySem.boot_len (pa_cons (pe_fldK K rfl (pv 0) rfl) pa_nil))))
    (pss_cons (ps_for PassesOwn.never rfl (pi_zipM K rfl rfl T.b_zip (pa_cons (pv 2) (pa_cons (pv 1) pa_nil))) (pg_tupK K rfl (n := 2) rfl (pgs_cons (pg_name (i := 4) sc_tour_of.nd rfl (Or.inl rfl)) (pgs_cons (pg_name (i := 5) sc_tour_of.nd rfl (Or.inl rfl)) pgs_nil)))
      (pss_one (ps_asg (pv 5) (pg_sub (pv 3) (pv 4) set_list))))
    (pss_one (ps_ret (C8.pe_c (cal_completed_tour T) hr (by omega) rfl (pa_cons (pv 0) (pa_cons (C8.pe_c (cal_tree_places T) hr (by omega) rfl (pa_cons (pv 0) pa_nil)) (pa_cons (pv 3) pa_nil))))))))))), ?_⟩
    show WS _ [some (v0), some (vr), none, none, none, none] _ _ _
    have l25 := hv0.1.len
    have ol := oth_len (n := n) (m := m) (ps := ps)
    walk_at "go"
    refine f_p ⟨n, m, ps, _, rfl, hv0, rfl⟩ fun vo G1 e1 hvo => ?_
    have hvr1 := Da.up e1 hvr
    obtain ⟨ra, rfl, hra⟩ := da_ints hvr1
    walk_at "go"
    rintro tv G2 e2 htv
    walk_at "go"
    refine r_isLT (.inl (Da.up e2 hvr1)) htv ?_
    walk_at "go"
    refine r_len (.inr (.inl (e2 _ _ hra))) ?_
    walk_at "go"
    refine r_lenD (.inr (Da.up e2 hvo)) ?_
    rw [dn_len, List.length_map, hrl]
    walk_at "go"
    refine cj_ni (fun hc => absurd rfl hc) fun _ => ?_
    walk_at "go"
    have hrl25 : row.length ≤ 25 := by omega
    refine w_lcLm ?_
    walk_at "go"
    refine ⟨dints row, by rw [dints, List.length_map]; omega, Da.up e2 hvr1, fun _ => .bool true, ?_, fun p G3 e3 hp => ?_⟩
    · intro j y d G3 hd e3 hy
      have hj : j < row.length := by
        obtain ⟨h1, _⟩ := List.getElem?_eq_some_iff.mp hd
        simpa [dints] using h1
      rw [di_get hj] at hd
      cases hd
      rw [da_int hy]
      refine ⟨rfl, ?_⟩
      walk_at "go"
      refine f_p ⟨_, _, _, rfl, .inl ⟨_, none, none, rfl, rfl, rfl, rfl⟩⟩ fun v G4 e4 hv => ?_
      subst hv
      exact ⟨rfl, .bl _⟩
    have ep : (List.range (dints row).length).map (fun _ => PyData.bool true) = (List.replicate (dints row).length true).map PyData.bool := by
      rw [List.map_replicate]
      generalize (dints row).length = N
      induction N with
      | zero => rfl
      | succ N ih => rw [List.range_succ, List.map_append, ih, List.replicate_succ']; rfl
    rw [ep] at hp
    obtain ⟨p', xs', hpe, hG, hxs'⟩ := da_lst hp
    cases hpe
    rw [daAll_bls' hxs'] at hG
    walk_at "go"
    refine r_all (.inl hG) ?_
    have ea : (List.replicate (dints row).length true).all id = true := by
      rw [List.all_eq_true]; intro x hx; rw [(List.mem_replicate.mp hx).2]; rfl
    rw [ea]
    walk_at "go"
    refine w_lstG ?_
    walk_at "go"
    refine ⟨by decide, fun zp G4 e4 hzp => ?_⟩
    refine w_cb (w_cons (r_picL T (w_var rfl ⟨pic_up ((e1.trans e2).trans (e3.trans e4)) hv0, fun vp hvp => w_nil ?_⟩)))
    refine r_lenD (.inr hvp) ?_
    rw [List.length_map]
    refine r_rep (.inl hzp) (by omega) (by omega) (by have := sizeLine_eq; simp only [List.length_cons, List.length_nil]; omega) fun op hop => ?_
    rw [Int.toNat_natCast, flat_rep]
    dsimp only [List.nil_append]
    have hvo4 := Da.up ((e2.trans e3).trans e4) hvo
    have hra4 := ((e2.trans e3).trans e4) _ _ hra
    have hv04 := pic_up ((e1.trans e2).trans (e3.trans e4)) hv0
    obtain ⟨oa, rfl, hoa⟩ := da_natsT hvo4
    refine ws_seq ?_
    refine ws_for (i_zipM ?_)
    walk_at "go"
    refine ⟨oa, ra, _, _, rfl, hoa, .inl hra4, _, _, wk_zipM hoa hra4 (by rw [List.length_map, List.length_map, hrl]), fun i σ G' O' => ∃ (u3 u4 u5 : Option V), σ = [some v0, some (.ref ra), some (.ref oa), some (.ref op), u3, u4] ∧ O' = [(op, .lst ((put (oth n m ps) row ps.length i).map V.int))], ⟨_, _, none, rfl, ?_⟩, ?_, ?_⟩
    · show [(op, HO.lst (List.replicate ps.length (V.int 0)))] = [(op, HO.lst ((List.replicate ps.length (0 : Int)).map V.int))]
      rw [List.map_replicate]
    · rintro i x σ' G' O' hi e5 ⟨u3, u4, u5, rfl, rfl⟩ G6 e6 ⟨Tp, y, z, rfl, hy, hz, hT⟩
      have hi : i < (oth n m ps).length := by simpa using hi
      rw [List.getElem?_map, List.getElem?_eq_getElem hi] at hy
      obtain rfl := Option.some.inj hy
      rw [ints_at (by omega)] at hz
      cases hz
      have hm := (oth_mem.mp (oth_getm hi)).1
      have eg : (oth n m ps)[i] = (oth n m ps).getD i 0 := by rw [List.getD_eq_getElem?_getD, List.getElem?_eq_getElem hi]; rfl
      refine g_tup hT rfl (g_cons (g_name (g_cons (g_name (g_nil ?_)))))
      rw [eg]
      walk_at "go"
      refine ⟨_, _, _, _, rfl, rfl, rfl, ixN_nat (by rw [List.length_map, put_len]; exact hm), ?_⟩
      refine ⟨_, _, none, rfl, ?_⟩
      rw [put_succ, ← set_ints]
    · rintro σ' G' O' e5 ⟨u3, u4, u5, rfl, rfl⟩
      rw [List.length_map]
      refine ws_frzD 0 rfl (daAll_ints _) fun G6 e6 hl => ?_
      walk_at "go"
      refine f_p ⟨n, m, ps, _, rfl, pic_up (e5.trans e6) hv04, rfl⟩ fun vt G7 e7 hvt => ?_
      walk_at "go"
      exact f_p ⟨n, m, ps, _, _, _, _, rfl, pic_up ((e5.trans e6).trans e7) hv04, hvt, Da.up e7 hl, put_len .., rfl⟩ fun v G8 e8 hv => ⟨rfl, hv⟩
theorem sc_basis_tours : FnScope ["picture", "places", "place", "other"] ["picture"] (defScope s_basis_tours) := ⟨rfl, rfl, rfl, by decide +kernel, rfl, by decide +kernel, by decide +kernel⟩
def R_basis_tours (K : PySem.W.Frag) : Rel := fun ws G post => ∃ (n m : Nat) (ps : List (Nat × Nat)) (v0 : V), ws = [v0] ∧ PicOk K n m ps G v0 ∧ post = fun v G' => Da G' [] v (.tuple (dtours (basis n m ps)))
theorem cal_basis_tours (T : Txt K mg) : C8.Cal P w K mg base 5 "basis_tours" (Fn (SP (R_basis_tours K))) [] := by
  refine cal_by T.d_basis_tours sc_basis_tours (fun vs G O R h => ?_) (fun f cdv A outer s H vs G O R E hr h => ?_)
  · obtain ⟨_, _, ⟨_, _, _, _, rfl, _⟩, _⟩ := h; rfl
  · obtain ⟨rfl, post, ⟨n, m, ps, v0, rfl, hv0, rfl⟩, rfl⟩ := h
    refine ⟨_, (pss_cons (ps_set (i := 1) sc_basis_tours.nd rfl (Or.inr rfl) (C8.pe_c (cal_other_places T) hr (by omega) rfl (pa_cons (pv 0) pa_nil)))
    (pss_one (ps_ret (pe_callTy (tupleK K rfl) rfl T.b_tuple PyProof.Rows.boot_tuple (pa_cons (pe_lc (own := [("place", 2)]) rfl sc_basis_tours.nd (pi_tupK K rfl (pv 1)) (blkOk_by (N := ["picture", "places", "place", "other"]) (sc := defScope s_basis_tours) (by decide +kernel)) (fun _ _ _ _ _ => (pg_name (i := 2) sc_basis_tours.nd rfl (Or.inr rfl))) (fun _ _ _ _ _ => pts_nil) (fun _ _ _ _ _ => (C8.pe_c (cal_tour_of T) hr (by omega) rfl (pa_cons (pv 0) (pa_cons (pe_lc (own := [("other", 3)]) rfl sc_basis_tours.nd (pi_tupK K rfl (pv 1)) (blkOk_by (by kernel_rfl)) (fun _ _ _ _ _ => (pg_name (i := 3) sc_basis_tours.nd rfl (Or.inl rfl))) (fun _ _ _ _ _ => pts_nil) (fun _ _ _ _ _ => (pe_ifExp (pt_cmpR op_eq (pv 3) (pv 2) (nomark _)) pe_int pe_int))) pa_nil))))) pa_nil))))), ?_⟩
    show WS _ [some (v0), none, none, none] _ _ _
    have l25 := hv0.1.len
    have ol := oth_len (n := n) (m := m) (ps := ps)
    walk_at "go"
    refine f_p ⟨n, m, ps, _, rfl, hv0, rfl⟩ fun vo G1 e1 hvo => ?_
    walk_at "go"
    refine w_lcTm ?_
    walk_at "go"
    refine ⟨_, by rw [dn_len]; omega, hvo, fun i => .tuple (dints (btour n m ps i)), ?_, fun p G2 e2 hp => ?_⟩
    · intro i y d G2 hd e2 hy
      obtain ⟨hi, rfl⟩ := dn_of hd hy
      refine ⟨rfl, ?_⟩
      walk_at "go"
      refine w_lcTm ?_
      walk_at "go"
      refine ⟨_, by rw [dn_len]; omega, Da.up e2 hvo, fun k => .int (if k = i then 1 else 0), ?_, fun p G3 e3 hp => ?_⟩
      · intro k y d G3 hd e3 hy
        obtain ⟨hk, rfl⟩ := dn_of hd hy
        refine ⟨rfl, ?_⟩
        walk_at "go"
        have hiff : (oth n m ps).getD k 0 = (oth n m ps).getD i 0 ↔ k = i := ⟨fun h => oth_inj hk hi h, fun h => by rw [h]⟩
        refine cj_i (fun hc => ?_) (fun hc => ?_)
        · walk_at "go"
          rw [if_pos (hiff.mp (by omega))]
          exact ⟨rfl, .int 1⟩
        · walk_at "go"
          rw [if_neg fun h => hc (by rw [hiff.mpr h])]
          exact ⟨rfl, .int 0⟩
      · walk_at "go"
        rw [dn_len] at hp
        have ep : (List.range (oth n m ps).length).map (fun k => PyData.int (if k = i then 1 else 0)) = dints (unit (oth n m ps).length i) := by rw [dints, unit, List.map_map]; rfl
        rw [ep] at hp
        exact f_p ⟨n, m, ps, _, _, _, rfl, pic_up ((e1.trans e2).trans e3) hv0, hp, by simp [unit], rfl⟩ fun v G4 e4 hv => ⟨rfl, hv⟩
    · walk_at "go"
      rw [dn_len] at hp
      have ep : (List.range (oth n m ps).length).map (fun i => PyData.tuple (dints (btour n m ps i))) = dtours (basis n m ps) := by rw [dtours, basis, List.map_map]; rfl
      rw [ep] at hp
      exact r_tupleD (.inl hp) fun x G3 e3 hx => ⟨rfl, hx⟩
end
/-! text X4 -/
/-! X4: try statements as words of their own; raising; data and their types. -/
def tTryAs (K : PySem.W.Frag) (c : Value) (i : Nat) (tb : L2.WX → TS) (ts : Addr → Value → Option Addr → TS) (Wo : L2.WX) : TS := fun D σ H => tb (wAs K c i ts Wo D) D σ H
def tTryOnly (K : PySem.W.Frag) (c : Value) (tb : L2.WX → TS) (ts : Addr → Value → Option Addr → TS) (Wo : L2.WX) : TS := fun D σ H => tb (wOnly K c ts Wo D) D σ H
section
variable {X : Cx} {x n : Str} {c : Value} {i : Nat} {body suite : List Stmt} {b₀ : Stmt} {np pos pos' : Pos} {tb : L2.WX → TS} {ts : Addr → Value → Option Addr → TS} {Wout : L2.WX}
theorem ps_tryAsK (K : PySem.W.Frag) (h : X.K = K) (hs : X.stack = X.env :: X.outer) (hf : X.env.frame = some X.env.locals) (hN : X.N.Nodup) (hi : X.N[i]? = some n) (hln : X.env.kindOf n = some .local) (hc : Names X x c) (tk : Takes X Wout)
    (hb : ∀ (W : L2.WX) (pn : List (Addr × Obj)) (xe : Value → Shared → Prop), Takes (X.tr pn xe) W → PassesOwn (model X.prog X.w) X.A X.env xe → PSs (X.tr pn xe) body (tb W))
    (hsu : ∀ (a : Addr) (oe : Obj) (cls : Value) (d : Option Addr) (pn : List (Addr × Obj)), Zc cls d oe → (∃ vs, oe.data = .fields vs) → PSs (X.suite a ((a, oe) :: pn)) (b₀ :: suite) (ts a cls d)) :
    PS X (.Try body [.ExceptHandler (some (.Name x np)) (some n) (b₀ :: suite) pos'] [] [] pos) (tTryAs K c i tb ts Wout) := by subst h; exact ps_try_as hs hf hN hi hln hc tk hb hsu
theorem ps_tryOnlyK (K : PySem.W.Frag) (h : X.K = K) (hs : X.stack = X.env :: X.outer) (hf : X.env.frame = some X.env.locals) (hc : Names X x c) (tk : Takes X Wout)
    (hb : ∀ (W : L2.WX) (pn : List (Addr × Obj)) (xe : Value → Shared → Prop), Takes (X.tr pn xe) W → PassesOwn (model X.prog X.w) X.A X.env xe → PSs (X.tr pn xe) body (tb W))
    (hsu : ∀ (a : Addr) (oe : Obj) (cls : Value) (d : Option Addr) (pn : List (Addr × Obj)), Zc cls d oe → (∃ vs, oe.data = .fields vs) → PSs (X.suite a ((a, oe) :: pn)) (b₀ :: suite) (ts a cls d)) :
    PS X (.Try body [.ExceptHandler (some (.Name x np)) none (b₀ :: suite) pos'] [] [] pos) (tTryOnly K c tb ts Wout) := by subst h; exact ps_try_only hs hf hc tk hb hsu
end
section
variable {P : Program} {w : World} {K : PySem.W.Frag} {mg : Str → Option Value} {base : Heap}
theorem ps_raiseF {N : List Str} {qual : Str} {sc : Scope} {f : Addr} {cdv : Value} {A : Around} {outer : List Env} {s : Shared} {H : Hp} {E : XK} {j : Nat} {e e2 : Expr} {p pos pos2 : Pos} {t : TA} (T : Txt K mg) (hr : Room j (A.deeper (envOfC qual sc s.heap.objs.size f cdv))) (hj : 2 ≤ j)
    (hg : Gl (cxOf (L2.CX P w) P w K mg base N qual sc f cdv A outer s H E) "BadFactors") (ha : PA (cxOf (L2.CX P w) P w K mg base N qual sc f cdv A outer s H E) [e, e2] t)
    (he : starEach [e, e2] (cxOf (L2.CX P w) P w K mg base N qual sc f cdv A outer s H E).env = (false, eval e (cxOf (L2.CX P w) P w K mg base N qual sc f cdv A outer s H E).env) :: starEach [e2] (cxOf (L2.CX P w) P w K mg base N qual sc f cdv A outer s H E).env := by rfl)
    (hpl : (backTo pos (starEach [e2] (cxOf (L2.CX P w) P w K mg base N qual sc f cdv A outer s H E).env)).any (·.1) = false := by rfl) :
    PS (cxOf (L2.CX P w) P w K mg base N qual sc f cdv A outer s H E) (.Raise (some (.Call (.Name "BadFactors" p) [e, e2] [] pos)) none pos2)
      (fun _ σ H => tMkO (ga K "BadFactors") (Fn (SE (ga K "BadFactors") rel_BadFactors)) [] t σ H fun cls d H' => (fun c d (_ : L2.St) H => E c d H) cls d σ H') := by
  obtain ⟨fd, F, b⟩ := T.f_BadFactors_init
  exact ps_raise rfl (takes_of rfl rfl rfl rfl) (pmk_oex T.ox_BadFactors T.ii_BadFactors T.it_BadFactors (fn_BadFactors T F) (hr.mono hj) b .nil pass0 hg T.g_BadFactors ha (by decide) he hpl)
theorem ps_raiseN {N : List Str} {qual : Str} {sc : Scope} {f : Addr} {cdv : Value} {A : Around} {outer : List Env} {s : Shared} {H : Hp} {E : XK} {j : Nat} {p pos pos2 : Pos} (T : Txt K mg) (hr : Room j (A.deeper (envOfC qual sc s.heap.objs.size f cdv))) (hj : 2 ≤ j)
    (hg : Gl (cxOf (L2.CX P w) P w K mg base N qual sc f cdv A outer s H E) "BadNumber") :
    PS (cxOf (L2.CX P w) P w K mg base N qual sc f cdv A outer s H E) (.Raise (some (.Call (.Name "BadNumber" p) [] [] pos)) none pos2)
      (fun _ σ H => tMkN (ga K "BadNumber") (Fn (SN (ga K "BadNumber"))) σ H fun cls d H' => (fun c d (_ : L2.St) H => E c d H) cls d σ H') := by
  obtain ⟨fd, F, b⟩ := T.f_BadNumber_init
  exact ps_raise rfl (takes_of rfl rfl rfl rfl) (pmk_oexN T.ox_BadNumber T.ii_BadNumber T.it_BadNumber (fn_BadNumber T F) (hr.mono hj) b pass0 hg T.g_BadNumber (by decide))
end
section
variable {RX : RXt} {G : Hp} {O : OL} {σ : L2.St} {D : En} {K : PySem.W.Frag} {tb : L2.WX → TS} {tsu : Addr → Value → Option Addr → TS} {c : Value} {Wo : L2.WX} {i : Nat}
theorem ws_tryOnlyB (hb : ∀ (Wq : L2.WX), WSx (fun cl d H => ∀ σ', Wq cl d σ' H) RX (tb Wq) σ G O D)
    (hc : ∀ cl d G' O', Ex G G' → RX cl d G' O' → PySem.W.exmOne K cl c = some true ∧ ∀ a σ', WS (tsu a cl d) σ' G' O' D) : WS (tTryOnly K c tb tsu Wo) σ G O D := ws_tryOnlyA hb hc
theorem ws_tryAsB (hb : ∀ (Wq : L2.WX), WSx (fun cl d H => Wq cl d σ H) RX (tb Wq) σ G O D)
    (hc : ∀ cl d G' O', Ex G G' → RX cl d G' O' → PySem.W.exmOne K cl c = some true ∧ ∀ a, WS (tsu a cl d) (σ.set i (some (.ref a))) G' O' { nx := fun σ' G' O' => D.nx (σ'.set i none) G' O', rt := D.rt, bk := fun σ' G' O' => D.bk (σ'.set i none) G' O', ct := fun σ' G' O' => D.ct (σ'.set i none) G' O' }) :
    WS (tTryAs K c i tb tsu Wo) σ G O D := ws_tryAs hb hc
end
/-! ### data and their types -/
def dty : PyData → String
  | .none => "NoneType"
  | .bool _ => "bool"
  | .int _ => "int"
  | .str _ => "str"
  | .list _ => "list"
  | .tuple _ => "tuple"
  | .dict _ => "dict"
theorem da_ty {K : PySem.W.Frag} {G : Hp} {O : OL} {v : V} {d : PyData} (h : Da G O v d) : TyK K G O v (.type (dty d)) := by
  cases h with
  | non => exact .non
  | bl b => exact .bl b
  | int i => exact .int i
  | str x => exact .str x
  | lst h _ => exact .lst h
  | tup h _ => exact .tup h
theorem da_nodict {G : Hp} {O : OL} {v : V} {kvs : List (PyData × PyData)} (h : Da G O v (.dict kvs)) : False := by cases h
theorem da_now {K : PySem.W.Frag} {G : Hp} {v : V} {d : PyData} (h : Da G [] v d) (hn : ∀ i, d ≠ .int i) : NoW K G v := by
  cases d with
  | none => exact .inr ⟨_, da_ty h, rfl⟩
  | bool b => exact .inl ⟨b, da_bl h⟩
  | int i => exact absurd rfl (hn i)
  | str x => exact .inr ⟨_, da_ty h, rfl⟩
  | list l => exact .inr ⟨_, da_ty h, rfl⟩
  | tuple l => exact .inr ⟨_, da_ty h, rfl⟩
  | dict l => exact (da_nodict h).elim
/-- what check_number lets pass -/
def okD : Fk → PyData → Prop
  | .rest p _, d => ∃ i : Int, d = .int i ∧ 0 ≤ i ∧ i < p
  | .frac, d => ∃ a b : Int, d = .tuple [.int a, .int b] ∧ 1 ≤ b ∧ Int.gcd a b = 1
theorem okD_dat {F : Fk} (u : F.U) : okD F (F.dat u) := by
  cases F with
  | rest p hp => exact ⟨_, rfl, Int.natCast_nonneg _, Int.ofNat_lt.mpr (u : Rs p).2.2⟩
  | frac =>
    refine ⟨_, _, rfl, ?_, (u : Fr).1.reduced⟩
    have := (u : Fr).1.den_pos
    show (1 : Int) ≤ ((u : Fr).1.den : Int)
    omega
theorem okD_zero {F : Fk} : okD F F.zero := by
  cases F with
  | rest p hp => exact ⟨0, rfl, Int.le_refl _, by have := hp.1; omega⟩
  | frac => exact ⟨0, 1, rfl, Int.le_refl _, rfl⟩
/-! text S1 -/
section
variable {P : Program} {w : World} {K : PySem.W.Frag} {mg : Str → Option Value} {base : Heap}
/-- check_number(self, number): its number again, or a BadNumber -/
def S_check (K : PySem.W.Frag) (F : Fk) : SgX := fun vs G O R RX => O = [] ∧ ∃ vf v d, vs = [vf, v] ∧ FldOk K F G vf ∧ Da G [] v d ∧
  ((okD F d ∧ R = fun v' _ O' => O' = []) ∨ (¬ okD F d ∧ R = fun _ _ _ => False)) ∧ RX = fun c dd _ O' => ¬ okD F d ∧ O' = [] ∧ c = .ref (ga K "BadNumber") ∧ dd = none
theorem sc_RestField_check_number : FnScope ["self", "number"] ["self", "number"] (defScope s_RestField_check_number) := ⟨rfl, rfl, rfl, by decide +kernel, rfl, by decide +kernel, by decide +kernel⟩
theorem metX_check_r (T : Txt K mg) (p : Nat) (hp : Pr p) : MetX P w K mg base 3 (ga K "RestField") "check_number" (FnX (S_check K (.rest p hp))) := by
  refine metX_by T.cl_RestField T.m_RestField_check_number T.f_RestField_check_number sc_RestField_check_number (fun vs G O R RX h => ?_) (fun cdv A outer s H vs G O R RX E hr h => ?_)
  · obtain ⟨_, _, _, _, rfl, _⟩ := h; rfl
  · obtain ⟨rfl, vf, v, d, rfl, hf, hd, hcase, rfl⟩ := h
    refine ⟨_, (pss_cons (ps_if (pt_not (pt_val (C8.pe_c (cal_is_whole3 T) hr (by omega) rfl (pa_cons (pv 1) (pa_cons pe_int (pa_cons (pe_op op_sub (pe_fldK K rfl (pv 0) rfl) pe_int) pa_nil))))))
      (pss_one (ps_raiseN T hr (by omega) rfl))
      pss_nil)
    (pss_one (ps_ret (pv 1)))), ?_⟩
    obtain ⟨fa, dx, vz, vo, vm, rfl, hz, ho, hm, hG⟩ := hf
    show WSx _ _ _ [some (.ref fa), some (v)] _ _ _
    have hp1 := hp.1
    refine wsx_seq (wsx_if ?_)
    walk_at "go"
    refine r_fld (F := .frac) T.cl_RestField T.na_RestField_prime (w_var rfl ⟨_, _, _, _, rfl, hG, rfl, ?_⟩)
    walk_at "go"
    by_cases hi : ∃ i, d = .int i
    · obtain ⟨i, rfl⟩ := hi
      obtain rfl := da_int hd
      refine f_p ⟨_, _, _, rfl, .inl ⟨_, some 0, some ((p : Int) - 1), rfl, rfl, rfl, rfl⟩⟩ fun v G2 e hv => ?_
      subst hv
      by_cases hok : okD (.rest p hp) (.int i)
      · obtain ⟨j, hj, h0, h1⟩ := id hok
        cases hj
        rw [show (geO (some 0) i && leO (some ((p : Int) - 1)) i) = true by simp [geO, leO]; omega]
        walk_at "go"
        refine wsx_nx ?_
        rcases hcase with ⟨_, rfl⟩ | ⟨h, _⟩
        · exact wsx_of (by walk_at "go")
        · exact absurd hok h
      · have : (geO (some 0) i && leO (some ((p : Int) - 1)) i) = false := by
          simp [geO, leO]
          intro h0
          apply Classical.byContradiction
          intro h1
          exact hok ⟨i, rfl, h0, by omega⟩
        rw [this]
        walk_at "go"
        exact wsx_raiseN ⟨hok, rfl, rfl, rfl⟩
    · refine f_p ⟨_, _, _, rfl, .inr ⟨da_now hd fun i h => hi ⟨i, h⟩, rfl⟩⟩ fun v G2 e hv => ?_
      subst hv
      walk_at "go"
      exact wsx_raiseN ⟨fun ⟨i, h, _⟩ => hi ⟨i, h⟩, rfl, rfl, rfl⟩
theorem sc_FractionField_check_number : FnScope ["self", "number"] ["self", "number"] (defScope s_FractionField_check_number) := ⟨rfl, rfl, rfl, by decide +kernel, rfl, by decide +kernel, by decide +kernel⟩
theorem metX_check_f (T : Txt K mg) : MetX P w K mg base 3 (ga K "FractionField") "check_number" (FnX (S_check K .frac)) := by
  refine metX_by T.cl_FractionField T.m_FractionField_check_number T.f_FractionField_check_number sc_FractionField_check_number (fun vs G O R RX h => ?_) (fun cdv A outer s H vs G O R RX E hr h => ?_)
  · obtain ⟨_, _, _, _, rfl, _⟩ := h; rfl
  · obtain ⟨rfl, vf, v, d, rfl, hf, hd, hcase, rfl⟩ := h
    refine ⟨_, (pss_cons (ps_if (PW.pt (pw_or (pt_not (pt_val (pe_callB (isiK K rfl) rfl T.b_isinstance PyProof.Rows.boot_isinstance (pa_cons (pv 1) (pa_cons (pe_bltn (v := .ty "tuple") rfl T.b_tuple PyProof.Rows.boot_tuple rfl) pa_nil))))) (pw_or1 (pt_cmpR op_ne (pe_callB (lenK K rfl) rfl T.b_len PySem.boot_len (pa_cons (pv 1) pa_nil)) pe_int (nomark _)))))
      (pss_one (ps_raiseN T hr (by omega) rfl))
      pss_nil)
    (pss_cons (ps_if (PW.pt (pw_or (pt_not (pt_val (C8.pe_c (cal_is_whole1 T) hr (by omega) rfl (pa_cons (pe_ix (ixK K rfl) (pv 1) pe_int (fun _ _ => rfl)) pa_nil)))) (pw_or1 (pt_not (pt_val (C8.pe_c (cal_is_whole2 T) hr (by omega) rfl (pa_cons (pe_ix (ixK K rfl) (pv 1) pe_int (fun _ _ => rfl)) (pa_cons pe_int pa_nil))))))))
      (pss_one (ps_raiseN T hr (by omega) rfl))
      pss_nil)
    (pss_cons (ps_if (pt_cmpR op_ne (C8.pe_c (cal_common_divisor T) hr (by omega) rfl (pa_cons (pe_ix (ixK K rfl) (pv 1) pe_int (fun _ _ => rfl)) (pa_cons (pe_ix (ixK K rfl) (pv 1) pe_int (fun _ _ => rfl)) pa_nil))) pe_int (nomark _))
      (pss_one (ps_raiseN T hr (by omega) rfl))
      pss_nil)
    (pss_one (ps_ret (pv 1)))))), ?_⟩
    show WSx _ _ _ [some (vf), some (v)] _ _ _
    have hty := da_ty (K := K) hd
    by_cases htup : ∃ ds, d = .tuple ds
    rotate_left
    · -- no tuple
      have hk : kitB (dty d) "tuple" = some false := by
        cases d with
        | tuple ds => exact absurd ⟨ds, rfl⟩ htup
        | dict _ => exact (da_nodict hd).elim
        | _ => rfl
      refine wsx_seq (wsx_if ?_)
      walk_at "go"
      refine r_isiTy hty hk ?_
      walk_at "go"
      exact wsx_raiseN ⟨fun ⟨a, b, h, _⟩ => htup ⟨_, h⟩, rfl, rfl, rfl⟩
    obtain ⟨ds, rfl⟩ := htup
    by_cases hlen : ds.length = 2
    rotate_left
    · refine wsx_seq (wsx_if ?_)
      walk_at "go"
      refine r_isiTy hty rfl ?_
      walk_at "go"
      refine r_lenD (.inr hd) ?_
      walk_at "go"
      refine cj_ni (fun _ => ?_) (fun h => absurd (by omega) hlen)
      exact wsx_raiseN ⟨fun ⟨a, b, h, _⟩ => hlen (by cases h; rfl), rfl, rfl, rfl⟩
    obtain ⟨d0, d1, rfl⟩ : ∃ d0 d1, ds = [d0, d1] := by
      match ds, hlen with
      | [a, b], _ => exact ⟨a, b, rfl⟩
    refine wsx_seq (wsx_if ?_)
    walk_at "go"
    refine r_isiTy hty rfl ?_
    walk_at "go"
    refine r_lenD (.inr hd) ?_
    walk_at "go"
    refine cj_ni (fun h => absurd rfl h) fun _ => wsx_nx ?_
    refine wsx_seq (wsx_if ?_)
    walk_at "go"
    refine r_atD (j := 0) (.inr hd) rfl rfl fun x0 hx0 => ?_
    walk_at "go"
    by_cases h0 : ∃ i, d0 = .int i
    rotate_left
    · refine f_p ⟨_, _, _, rfl, .inr ⟨da_now hx0 fun i h => h0 ⟨i, h⟩, rfl⟩⟩ fun v G2 e hv => ?_
      subst hv
      walk_at "go"
      exact wsx_raiseN ⟨fun ⟨a, b, h, _⟩ => h0 ⟨a, by cases h; rfl⟩, rfl, rfl, rfl⟩
    obtain ⟨i, rfl⟩ := h0
    rw [da_int hx0]
    refine f_p ⟨_, _, _, rfl, .inl ⟨_, none, none, rfl, rfl, rfl, rfl⟩⟩ fun v G2 e2 hv => ?_
    subst hv
    rw [show (geO none i && leO none i) = true from rfl]
    have hd2 := Da.up e2 hd
    walk_at "go"
    refine r_atD (j := 1) (.inr hd2) rfl rfl fun x1 hx1 => ?_
    walk_at "go"
    by_cases h1 : ∃ i, d1 = .int i
    rotate_left
    · refine f_p ⟨_, _, _, rfl, .inr ⟨da_now hx1 fun i h => h1 ⟨i, h⟩, rfl⟩⟩ fun v G3 e hv => ?_
      subst hv
      walk_at "go"
      exact wsx_raiseN ⟨fun ⟨a, b, h, _⟩ => h1 ⟨b, by cases h; rfl⟩, rfl, rfl, rfl⟩
    obtain ⟨j, rfl⟩ := h1
    rw [da_int hx1]
    refine f_p ⟨_, _, _, rfl, .inl ⟨_, some 1, none, rfl, rfl, rfl, rfl⟩⟩ fun v G3 e3 hv => ?_
    subst hv
    have hd3 := Da.up e3 hd2
    by_cases hj : 1 ≤ j
    rotate_left
    · rw [show (geO (some 1) j && leO none j) = false by simp [geO, leO]; omega]
      walk_at "go"
      exact wsx_raiseN ⟨fun ⟨a, b, h, hb, _⟩ => hj (by cases h; exact hb), rfl, rfl, rfl⟩
    rw [show (geO (some 1) j && leO none j) = true by simp [geO, leO]; omega]
    walk_at "go"
    refine wsx_nx ?_
    refine wsx_seq (wsx_if ?_)
    walk_at "go"
    refine r_atD (j := 0) (.inr hd3) rfl rfl fun y0 hy0 => ?_
    rw [da_int hy0]
    walk_at "go"
    refine r_atD (j := 1) (.inr hd3) rfl rfl fun y1 hy1 => ?_
    rw [da_int hy1]
    walk_at "go"
    refine f_p ⟨i, j, rfl, rfl⟩ fun v G4 e4 hv => ?_
    subst hv
    walk_at "go"
    refine cj_ni (fun hg => ?_) (fun hg => ?_)
    · exact wsx_raiseN ⟨fun ⟨a, b, h, _, hb⟩ => hg (by cases h; rw [hb]; rfl), rfl, rfl, rfl⟩
    · refine wsx_nx ?_
      rcases hcase with ⟨_, rfl⟩ | ⟨h, _⟩
      · exact wsx_of (by walk_at "go")
      · exact absurd ⟨i, j, rfl, hj, by omega⟩ h
theorem metX_check (T : Txt K mg) (F : Fk) : MetX P w K mg base 3 (fcls K F) "check_number" (FnX (S_check K F)) := by
  cases F with
  | frac => exact metX_check_f T
  | rest p hp => exact metX_check_r T p hp
end
/-! text S2 -/
noncomputable instance {F : Fk} {d : PyData} : Decidable (∃ u, d = F.dat u) := Classical.propDecidable _
noncomputable instance {F : Fk} {d : PyData} : Decidable (okD F d) := Classical.propDecidable _
noncomputable def isF (F : Fk) (d : PyData) : Bool := decide (∃ u, d = F.dat u)
theorem isF_dat {F : Fk} (u : F.U) : isF F (F.dat u) = true := decide_eq_true ⟨u, rfl⟩
theorem isF_of {F : Fk} {d : PyData} (h : isF F d = true) : ∃ u, d = F.dat u := of_decide_eq_true h
theorem zero_ne {F : Fk} (u : F.U) : F.dat u ≠ F.zero := fun e => by
  have h := Fk.eqv_zero u
  rw [e] at h
  cases F with
  | frac => simp [Fk.zero, PyData.eqv, PyData.eqvAll] at h
  | rest p hp => simp [Fk.zero, PyData.eqv] at h
theorem isF_zero {F : Fk} : isF F F.zero = false := decide_eq_false fun ⟨u, h⟩ => zero_ne u h.symm
theorem isF_bad {F : Fk} {d : PyData} (h : ¬ okD F d) : isF F d = false := decide_eq_false fun ⟨u, e⟩ => h (by rw [e]; exact okD_dat u)
theorem okD_cases {F : Fk} {d : PyData} (h : okD F d) : (∃ u, d = F.dat u) ∨ d = F.zero := by
  cases F with
  | rest p hp =>
    obtain ⟨i, rfl, h0, h1⟩ := h
    by_cases e : i = 0
    · subst e; exact .inr rfl
    · refine .inl ⟨(⟨i.toNat, by omega, by omega⟩ : Rs p), ?_⟩
      show PyData.int i = .int ((i.toNat : Nat) : Int)
      rw [Int.toNat_of_nonneg h0]
  | frac =>
    obtain ⟨a, b, rfl, h0, h1⟩ := h
    by_cases e : a = 0
    · subst e
      have : b = 1 := by
        rw [Int.gcd_zero_left] at h1
        omega
      subst this; exact .inr rfl
    · refine .inl ⟨(⟨⟨a, b.toNat, by omega, ?_⟩, ?_⟩ : Fr), ?_⟩
      · show Nat.gcd a.natAbs b.toNat = 1
        rw [← h1, Int.gcd, show b.toNat = b.natAbs by omega]
      · intro z
        have := congrArg Rat.num z
        exact e this
      · show PyData.tuple [.int a, .int b] = .tuple [.int a, .int ((b.toNat : Nat) : Int)]
        rw [Int.toNat_of_nonneg (by omega)]
theorem eqv_zz {F : Fk} : PyData.eqv F.zero F.zero = true := by
  cases F with
  | frac => simp [Fk.zero, PyData.eqv, PyData.eqvAll]
  | rest p hp => simp [Fk.zero, PyData.eqv]
section
variable {P : Program} {w : World} {K : PySem.W.Frag} {mg : Str → Option Value} {base : Heap}
theorem cls_F (T : Txt K mg) (F : Fk) : Cls K (fcls K F) := by
  cases F with
  | frac => exact T.cl_FractionField
  | rest p hp => exact T.cl_RestField
theorem na_zero (T : Txt K mg) (F : Fk) : NoAttr K (fcls K F) "zero" := by
  cases F with
  | frac => exact T.na_FractionField_zero
  | rest p hp => exact T.na_RestField_zero
theorem na_one (T : Txt K mg) (F : Fk) : NoAttr K (fcls K F) "one" := by
  cases F with
  | frac => exact T.na_FractionField_one
  | rest p hp => exact T.na_RestField_one
theorem r_zero (T : Txt K mg) {F : Fk} {ta : TE} {G : Hp} {O : OL} {σ : L2.St} {R : V → Hp → OL → Prop} (h : W (ta σ) G O fun x G1 O1 => FldOk K F G1 x ∧ ∀ vz, Da G1 [] vz F.zero → R vz G1 O1) : W (tFld K ta "zero" σ) G O R :=
  r_fld (F := .frac) (cls_F T F) (na_zero T F) (w_imp h fun x G1 O1 _ ⟨⟨a, dx, vz, vo, vm, e1, hz, ho, hm, e2⟩, r⟩ => ⟨a, dx, _, vz, e1, e2, by cases F <;> rfl, r vz hz⟩)
theorem r_one (T : Txt K mg) {F : Fk} {ta : TE} {G : Hp} {O : OL} {σ : L2.St} {R : V → Hp → OL → Prop} (h : W (ta σ) G O fun x G1 O1 => FldOk K F G1 x ∧ ∀ vo, Nu F G1 vo 1 → R vo G1 O1) : W (tFld K ta "one" σ) G O R :=
  r_fld (F := .frac) (cls_F T F) (na_one T F) (w_imp h fun x G1 O1 _ ⟨⟨a, dx, vz, vo, vm, e1, hz, ho, hm, e2⟩, r⟩ => ⟨a, dx, _, vo, e1, e2, by cases F <;> rfl, r vo ho⟩)
/-- the methods of a field are its class's -/
theorem fld_meth {F : Fk} {G : Hp} {x : V} (h : FldOk K F G x) : ∃ a dx fs, x = .ref a ∧ G a = some (.ins (fcls K F) dx fs) ∧ fs.lookup ("check_number" : Str) = none ∧ fs.lookup ("times" : Str) = none ∧ fs.lookup ("quotient" : Str) = none ∧ fs.lookup ("power" : Str) = none := by
  obtain ⟨a, dx, vz, vo, vm, e1, hz, ho, hm, e2⟩ := h
  exact ⟨a, dx, _, e1, e2, by cases F <;> rfl, by cases F <;> rfl, by cases F <;> rfl, by cases F <;> rfl⟩
theorem sc_is_factor : FnScope ["field", "thing"] ["field", "thing"] (defScope s_is_factor) := ⟨rfl, rfl, rfl, by decide +kernel, rfl, by decide +kernel, by decide +kernel⟩
def R_is_factor (K : PySem.W.Frag) (F : Fk) : Rel := fun ws G post => ∃ vf v d, ws = [vf, v] ∧ FldOk K F G vf ∧ Da G [] v d ∧ post = fun v' _ => v' = .bl (isF F d)
theorem cal_is_factor (T : Txt K mg) (F : Fk) : C8.Cal P w K mg base 4 "is_factor" (Fn (SP (R_is_factor K F))) [] := by
  refine cal_by T.d_is_factor sc_is_factor (fun vs G O R h => ?_) (fun f cdv A outer s H vs G O R E hr h => ?_)
  · obtain ⟨_, _, ⟨_, _, _, rfl, _⟩, _⟩ := h; rfl
  · obtain ⟨rfl, post, ⟨vf, v, d, rfl, hf, hd, rfl⟩, rfl⟩ := h
    refine ⟨_, (pss_cons (ps_tryOnlyK K rfl (Wout := fun _ _ _ _ => False) rfl rfl ⟨rfl, by decide, Or.inl T.g_BadNumber⟩ takes0
      (fun W pn xe tk _ => (pss_one (ps_expr (pe_mX (E := fun cls d H => ∀ σ, W cls d σ H) (metX_check T F) hr (by omega) (passes_call tk fun cls d σ H h => h σ) (pv 0) (pa_cons (pv 1) pa_nil)))))
      (fun a oe cls d pn hz hf => (pss_one (ps_ret pe_bl))))
    (pss_one (ps_ret (pe_cmpR (neDK K rfl hr.units) (pv 1) (pe_fldK K rfl (pv 0) rfl) (nomark _))))), ?_⟩
    show WS _ [some (vf), some (v)] _ _ _
    obtain ⟨fa, fdx, ffs, rfl, hfa, hl1, hl2, hl3, hl4⟩ := fld_meth hf
    refine ws_seq (ws_tryOnlyB (RX := fun c dd G' O' => ¬ okD F d ∧ O' = [] ∧ c = .ref (ga K "BadNumber")) (fun Wq => ?_) (fun cl dd G' O' e rx => ?_))
    · refine wsx_drop (wx_methX rfl (w_var rfl ⟨fa, fdx, ffs, rfl, hfa, hl1, ?_⟩))
      walk_at "go"
      by_cases hok : okD F d
      · refine ⟨_, _, ⟨rfl, _, _, d, rfl, hf, hd, .inl ⟨hok, rfl⟩, rfl⟩, fun v3 G3 A3 e3 r1 => ?_, fun c dd G3 A3 e3 ⟨h1, h2, h3, h4⟩ => ⟨h1, by rw [h2]; rfl, h3⟩⟩
        obtain rfl : A3 = [] := r1
        refine ws_ret ?_
        refine w_op (w_var rfl (r_zero T (w_var rfl ⟨fld_up e3 hf, fun vz hvz => ?_⟩)))
        rcases okD_cases hok with ⟨u, rfl⟩ | rfl
        · refine r_neZ (Da.up e3 hd) hvz ⟨rfl, ?_⟩
          rw [isF_dat]
        · refine r_neD (da_wk _ (Da.up e3 hd)) (da_wk _ hvz) shp_zero shp_zero ⟨rfl, ?_⟩
          rw [eqv_zz, isF_zero]; rfl
      · exact ⟨_, _, ⟨rfl, _, _, d, rfl, hf, hd, .inr ⟨hok, rfl⟩, rfl⟩, fun v3 G3 A3 e3 r1 => r1.elim, fun c dd G3 A3 e3 ⟨h1, h2, h3, h4⟩ => ⟨h1, by rw [h2]; rfl, h3⟩⟩
    · obtain ⟨h1, h2, h3⟩ := rx
      subst h2 h3
      refine ⟨T.xm_BadNumber, fun a σ' => ?_⟩
      refine ws_ret (w_c ⟨rfl, ?_⟩)
      rw [isF_bad h1]
end
/-! text S3 -/
def seqD : PyData → Option (List PyData)
  | .list l => some l
  | .tuple l => some l
  | _ => none
noncomputable def firstBad (F : Fk) (ds : List PyData) (n : Nat) : Option Nat := (List.range n).find? fun i => !isF F (ds.getD i .none)
noncomputable def fpl (F : Fk) (d : PyData) (many : Nat) : Option Int := match seqD d with
  | none => some (-1)
  | some ds => if ds.length = many then (firstBad F ds many).map fun n => (n : Int) else some (-1)
theorem fb_some {F : Fk} {ds : List PyData} {n i : Nat} (hi : i < n) (h : isF F (ds.getD i .none) = false) (hb : ∀ j, j < i → isF F (ds.getD j .none) = true) : firstBad F ds n = some i := by
  rw [firstBad, List.find?_range_eq_some]
  exact ⟨by rw [h]; rfl, List.mem_range.mpr hi, fun j hj => by rw [hb j hj]; rfl⟩
theorem fb_none {F : Fk} {ds : List PyData} {n : Nat} (hb : ∀ j, j < n → isF F (ds.getD j .none) = true) : firstBad F ds n = none := by
  rw [firstBad, List.find?_range_eq_none]
  intro j hj
  rw [hb j hj]; rfl
theorem fpl_seq {F : Fk} {d : PyData} {ds : List PyData} {many : Nat} (h : seqD d = some ds) (hl : ds.length = many) : fpl F d many = (firstBad F ds many).map fun n => (n : Int) := by
  unfold fpl; rw [h]; exact if_pos hl
theorem fpl_ix {F : Fk} {d : PyData} {many : Nat} {i : Int} (hm : many ≤ 25) (h : fpl F d many = some i) : smallIx i := by
  unfold fpl at h
  split at h
  · cases h; exact ⟨by decide, by decide⟩
  · split at h
    · cases hb : firstBad F _ many with
      | none => rw [hb] at h; cases h
      | some n =>
        rw [hb] at h
        cases h
        have := List.mem_range.mp (List.mem_of_find?_eq_some hb)
        show smallIx (n : Int)
        exact ⟨by omega, by omega⟩
    · cases h; exact ⟨by decide, by decide⟩
def rowD (F : Fk) (d : PyData) (us : List F.U) : Prop := seqD d = some (us.map F.dat)
theorem fpl_row {F : Fk} {d : PyData} {us : List F.U} {many : Nat} (h : rowD F d us) (hl : us.length = many) : fpl F d many = none := by
  rw [fpl_seq h (by rw [List.length_map, hl]), fb_none]
  · rfl
  · intro j hj
    rw [List.getD_eq_getElem?_getD, ro_get (by omega)]
    exact isF_dat _
theorem row_fpl {F : Fk} {d : PyData} {many : Nat} (h : fpl F d many = none) : ∃ us : List F.U, rowD F d us ∧ us.length = many := by
  unfold fpl at h
  split at h
  · cases h
  · next ds hds =>
    split at h
    · next hl =>
      have hb : firstBad F ds many = none := by
        cases hb : firstBad F ds many with
        | none => rfl
        | some n => rw [hb] at h; cases h
      rw [firstBad, List.find?_range_eq_none] at hb
      have key : ∀ (l : List PyData), (∀ x ∈ l, isF F x = true) → ∃ us : List F.U, l = us.map F.dat := by
        intro l
        induction l with
        | nil => exact fun _ => ⟨[], rfl⟩
        | cons a l ih =>
          intro hl
          obtain ⟨us, rfl⟩ := ih fun x hx => hl x (by simp [hx])
          obtain ⟨u, rfl⟩ := isF_of (hl _ (List.mem_cons_self ..))
          exact ⟨u :: us, rfl⟩
      obtain ⟨us, e⟩ := key ds fun x hx => by
        obtain ⟨j, hj, ej⟩ := List.getElem_of_mem hx
        have := hb j (by omega)
        rw [List.getD_eq_getElem?_getD, List.getElem?_eq_getElem hj] at this
        have this : (!(!isF F ds[j])) = true := this
        rw [ej] at this
        simpa using this
      exact ⟨us, by rw [rowD, hds, e], by rw [← hl, e, List.length_map]⟩
    · cases h
theorem map_dat_inj {F : Fk} {us vs : List F.U} (h : us.map F.dat = vs.map F.dat) : us = vs := by
  induction us generalizing vs with
  | nil => cases vs with
    | nil => rfl
    | cons b vs => cases h
  | cons a us ih => cases vs with
    | nil => cases h
    | cons b vs =>
      rw [List.map_cons, List.map_cons] at h
      injection h with h1 h2
      rw [Fk.dat_inj h1, ih h2]
theorem row_inj {F : Fk} {d : PyData} {us vs : List F.U} (h1 : rowD F d us) (h2 : rowD F d vs) : us = vs := by
  unfold rowD at h1 h2
  rw [h1] at h2
  exact map_dat_inj (Option.some.inj h2)
theorem ro_row {F : Fk} {G : Hp} {v : V} {us : List F.U} (h : Ro F G v us) : ∃ d, Da G [] v d ∧ rowD F d us := h.elim (fun z => ⟨_, z, rfl⟩) fun z => ⟨_, z, rfl⟩
theorem sq_seq {G : Hp} {v : V} {d : PyData} {ds : List PyData} (h : Da G [] v d) (hs : seqD d = some ds) : Sq G v ds := by
  cases d with
  | list l => cases hs; exact .inl h
  | tuple l => cases hs; exact .inr h
  | _ => cases hs
section
variable {P : Program} {w : World} {K : PySem.W.Frag} {mg : Str → Option Value} {base : Heap}
theorem sc_factors_place : FnScope ["field", "things", "many", "index"] ["field", "things", "many"] (defScope s_factors_place) := ⟨rfl, rfl, rfl, by decide +kernel, rfl, by decide +kernel, by decide +kernel⟩
def R_fplace (K : PySem.W.Frag) (F : Fk) : Rel := fun ws G post => ∃ (vf v : V) (d : PyData) (many : Nat), ws = [vf, v, .int (many : Int)] ∧ FldOk K F G vf ∧ Da G [] v d ∧ many ≤ 25 ∧ post = fun v' _ => v' = opV (fpl F d many)
theorem cal_factors_place (T : Txt K mg) (F : Fk) : C8.Cal P w K mg base 5 "factors_place" (Fn (SP (R_fplace K F))) [] := by
  refine cal_by T.d_factors_place sc_factors_place (fun vs G O R h => ?_) (fun f cdv A outer s H vs G O R E hr h => ?_)
  · obtain ⟨_, _, ⟨_, _, _, _, rfl, _⟩, _⟩ := h; rfl
  · obtain ⟨rfl, post, ⟨vf, v, d, many, rfl, hf, hd, hm, rfl⟩, rfl⟩ := h
    refine ⟨_, (pss_cons (ps_if (PW.pt (pw_or (pt_not (pt_val (pe_callB (isiTK K rfl) rfl T.b_isinstance PyProof.Rows.boot_isinstance (pa_cons (pv 1) (pa_cons (pe_tup (pa_cons (pe_bltn (v := .ty "list") rfl T.b_list PyProof.Rows.boot_list rfl) (pa_cons (pe_bltn (v := .ty "tuple") rfl T.b_tuple PyProof.Rows.boot_tuple rfl) pa_nil))) pa_nil))))) (pw_or1 (pt_cmpR op_ne (pe_callB (lenK K rfl) rfl T.b_len PySem.boot_len (pa_cons (pv 1) pa_nil)) (pv 2) (nomark _)))))
      (pss_one (ps_ret (pe_un un_neg pe_int)))
      pss_nil)
    (pss_cons (ps_for PassesOwn.never rfl (pi_range1 rfl T.b_range (pa_cons (pv 2) pa_nil)) (pg_name (i := 3) sc_factors_place.nd rfl (Or.inl rfl))
      (pss_one (ps_if (pt_not (pt_val (C8.pe_c (cal_is_factor T F) hr (by omega) rfl (pa_cons (pv 0) (pa_cons (pe_ix (ixK K rfl) (pv 1) (pv 3) (fun _ _ => rfl)) pa_nil)))))
        (pss_one (ps_ret (pv 3)))
        pss_nil)))
    (pss_one (ps_ret pe_non)))), ?_⟩
    show WS _ [some (vf), some (v), some (.int (many : Int)), none] _ _ _
    walk_at "go"
    rintro tv G2 e2 htv
    have hd := Da.up e2 hd
    have hf := fld_up e2 hf
    walk_at "go"
    cases hs : seqD d with
    | none =>
      have k1 : kitB (dty d) "list" = some false ∧ kitB (dty d) "tuple" = some false := by
        cases d with
        | list l => cases hs
        | tuple l => cases hs
        | dict l => exact (da_nodict hd).elim
        | _ => exact ⟨rfl, rfl⟩
      refine r_isLTf (da_ty hd) k1.1 k1.2 htv ?_
      walk_at "go"
      refine ⟨rfl, ?_⟩
      unfold fpl; rw [hs]; rfl
    | some ds =>
      have hsq := sq_seq hd hs
      refine r_isLT hsq htv ?_
      walk_at "go"
      refine r_lenD hsq ?_
      walk_at "go"
      refine cj_ni (fun hc => ?_) (fun hc => ?_)
      · walk_at "go"
        refine ⟨rfl, ?_⟩
        unfold fpl; rw [hs]
        show _ = opV (if ds.length = many then _ else _)
        rw [if_neg (by omega)]; rfl
      have hl : ds.length = many := by omega
      walk_at "go"
      rw [fpl_seq hs hl]
      refine ws_for (i_range1 ?_)
      walk_at "go"
      refine ⟨by omega, by omega, _, _, wk_range0, fun i σ G' O' => ∃ u : Option V, σ = [some vf, some v, some (.int (many : Int)), u] ∧ O' = [] ∧ ∀ j, j < i → isF F (ds.getD j .none) = true, ⟨_, rfl, rfl, by omega⟩, ?_, ?_⟩
      · rintro i x σ' G' O' hi e3 ⟨u, rfl, rfl, hall⟩ G3 e4 rfl
        have hi : i < many := by omega
        walk_at "go"
        refine r_atD (j := i) (sq_up (e3.trans e4) hsq) (d := ds.getD i .none) (by rw [List.getD_eq_getElem?_getD, List.getElem?_eq_getElem (by omega)]; rfl) rfl fun y hy => ?_
        walk_at "go"
        refine f_p ⟨vf, y, _, rfl, fld_up (e3.trans e4) hf, hy, rfl⟩ fun v2 G4 e5 hv2 => ?_
        subst hv2
        walk_at "go"
        cases hb : isF F (ds.getD i .none) with
        | true =>
          refine ⟨fun z => (by cases z), fun _ => ?_⟩
          walk_at "go"
          refine ⟨_, rfl, rfl, fun j hj => ?_⟩
          by_cases ej : j = i
          · subst ej; exact hb
          · exact hall j (by omega)
        | false =>
          refine ⟨fun _ => ?_, fun z => (by cases z)⟩
          walk_at "go"
          refine ⟨rfl, ?_⟩
          rw [fb_some hi hb hall]; rfl
      · rintro σ' G' O' e3 ⟨u, rfl, rfl, hall⟩
        rw [Int.toNat_natCast] at hall
        walk_at "go"
        refine ⟨rfl, ?_⟩
        rw [fb_none hall]; rfl
theorem sc_check_table : FnScope ["field", "picture", "table", "index"] ["field", "picture", "table"] (defScope s_check_table) := ⟨rfl, rfl, rfl, by decide +kernel, rfl, by decide +kernel, by decide +kernel⟩
/-- a BadTable of an index -/
def RXT (K : PySem.W.Frag) (o : Option Int) : RXt := fun c dd G' O' => O' = [] ∧ ∃ i a, o = some i ∧ smallIx i ∧ c = .ref (ga K "BadTable") ∧ dd = some a ∧ G' a = some (.xd [("index", .int i)])
def S_check_table (K : PySem.W.Frag) (F : Fk) : SgX := fun vs G O R RX => O = [] ∧ ∃ (n m : Nat) (ps : List (Nat × Nat)) (vf vp vt : V) (d : PyData), vs = [vf, vp, vt] ∧ FldOk K F G vf ∧ PicOk K n m ps G vp ∧ Da G [] vt d ∧
  R = (fun v G' O' => O' = [] ∧ ∃ us : List F.U, rowD F d us ∧ us.length = ps.length ∧ Da G' [] v (.tuple (us.map F.dat))) ∧ RX = RXT K (fpl F d ps.length)
theorem calX_check_table (T : Txt K mg) (F : Fk) : CalX P w K mg base 6 "check_table" (FnX (S_check_table K F)) := by
  refine calX_by T.d_check_table sc_check_table (fun vs G O R RX h => ?_) (fun f cdv A outer s H vs G O R RX E hr h => ?_)
  · obtain ⟨_, _, _, _, _, _, _, _, rfl, _⟩ := h; rfl
  · obtain ⟨rfl, n, m, ps, vf, vp, vt, d, rfl, hf, hp, hd, rfl, rfl⟩ := h
    refine ⟨_, (pss_cons (ps_set (i := 3) sc_check_table.nd rfl (Or.inl rfl) (C8.pe_c (cal_factors_place T F) hr (by omega) rfl (pa_cons (pv 0) (pa_cons (pv 2) (pa_cons (pe_callB (lenK K rfl) rfl T.b_len PySem.boot_len (pa_cons (pe_fldK K rfl (pv 1) rfl) pa_nil)) pa_nil)))))
    (pss_cons (ps_if (pt_cmpR op_notNone (pv 3) pe_non (nomark _))
      (pss_one (ps_raiseT T hr (by omega) rfl (pa_cons (pv 3) pa_nil)))
      pss_nil)
    (pss_one (ps_ret (pe_callTy (tupleK K rfl) rfl T.b_tuple PyProof.Rows.boot_tuple (pa_cons (pv 2) pa_nil)))))), ?_⟩
    show WSx _ _ _ [some (vf), some (vp), some (vt), none] _ _ _
    have l25 := hp.1.len
    refine wsx_seq (wsx_set (wx_of ?_))
    refine w_call0 (w_cons (w_var rfl (w_cons (w_var rfl (w_cons (w_cb (w_cons (r_picL T (w_var rfl ⟨hp, fun vl hvl => w_nil ?_⟩)))))))))
    refine r_lenD (.inr hvl) ?_
    rw [List.length_map]
    walk_at "go"
    refine f_p ⟨vf, vt, d, ps.length, rfl, hf, hd, l25, rfl⟩ fun v G2 e2 hv => ?_
    subst hv
    cases hfp : fpl F d ps.length with
    | some i =>
      refine wsx_seq (wsx_if ?_)
      show W _ _ _ _
      walk_at "go"
      refine ⟨fun _ => ?_, fun z => by simp [opV] at z⟩
      refine wsx_raiseO ?_
      refine w_cons (w_var rfl (w_nil ⟨by simp, _, ⟨i, rfl, fpl_ix l25 hfp, rfl⟩, fun dd G3 e3 hdd => ⟨rfl, i, dd, rfl, fpl_ix l25 hfp, rfl, rfl, hdd⟩⟩))
    | none =>
      obtain ⟨us, hrow, hul⟩ := row_fpl hfp
      refine wsx_seq (wsx_if ?_)
      walk_at "go"
      refine ⟨fun z => by simp [opV] at z, fun _ => wsx_nx (wsx_of ?_)⟩
      walk_at "go"
      refine r_tupleD (sq_seq (Da.up e2 hd) hrow) fun x G3 e3 hx => ⟨rfl, us, hrow, hul, hx⟩
end
/-! text S4 -/
section
variable {P : Program} {w : World} {K : PySem.W.Frag} {mg : Str → Option Value} {base : Heap}
theorem w_times {F : Fk} {ta : TE} {t : TA} {G : Hp} {O : OL} {σ : L2.St} {R : V → Hp → OL → Prop} {E0 : XK} (h : W (ta σ) G O fun x G1 O1 => FldOk K F G1 x ∧ W (t σ) G1 O1 fun vs G2 O2 => W (fun H Q => Fn (SP (R_times K F)) (x :: vs) H Q E0) G2 O2 R) : W (tMeth (fcls K F) "times" (Fn (SP (R_times K F))) [] E0 ta t σ) G O R :=
  w_meth0 (w_imp h fun x G1 O1 _ ⟨hf, z⟩ => by obtain ⟨a, dx, fs, e, ha, h1, h2, h3, h4⟩ := fld_meth hf; exact ⟨a, dx, fs, e, ha, h2, z⟩)
theorem w_quot {F : Fk} {ta : TE} {t : TA} {G : Hp} {O : OL} {σ : L2.St} {R : V → Hp → OL → Prop} {E0 : XK} (h : W (ta σ) G O fun x G1 O1 => FldOk K F G1 x ∧ W (t σ) G1 O1 fun vs G2 O2 => W (fun H Q => Fn (SP (R_quot K F)) (x :: vs) H Q E0) G2 O2 R) : W (tMeth (fcls K F) "quotient" (Fn (SP (R_quot K F))) [] E0 ta t σ) G O R :=
  w_meth0 (w_imp h fun x G1 O1 _ ⟨hf, z⟩ => by obtain ⟨a, dx, fs, e, ha, h1, h2, h3, h4⟩ := fld_meth hf; exact ⟨a, dx, fs, e, ha, h3, z⟩)
theorem w_fpow {F : Fk} {ta : TE} {t : TA} {G : Hp} {O : OL} {σ : L2.St} {R : V → Hp → OL → Prop} {E0 : XK} (h : W (ta σ) G O fun x G1 O1 => FldOk K F G1 x ∧ W (t σ) G1 O1 fun vs G2 O2 => W (fun H Q => Fn (SP (R_fpow K F)) (x :: vs) H Q E0) G2 O2 R) : W (tMeth (fcls K F) "power" (Fn (SP (R_fpow K F))) [] E0 ta t σ) G O R :=
  w_meth0 (w_imp h fun x G1 O1 _ ⟨hf, z⟩ => by obtain ⟨a, dx, fs, e, ha, h1, h2, h3, h4⟩ := fld_meth hf; exact ⟨a, dx, fs, e, ha, h4, z⟩)
theorem sc_plain_worth : FnScope ["field", "table", "tour", "out", "place"] ["field", "table", "tour"] (defScope s_plain_worth) := ⟨rfl, rfl, rfl, by decide +kernel, rfl, by decide +kernel, by decide +kernel⟩
def R_plain_worth (K : PySem.W.Frag) (F : Fk) : Rel := fun ws G post => ∃ (us : List F.U) (T : List Int) (vf vt vT : V), ws = [vf, vt, vT] ∧ FldOk K F G vf ∧ Ro F G vt us ∧ Da G [] vT (.tuple (dints T)) ∧ T.length = us.length ∧ us.length ≤ 25 ∧ (∀ j, (T.getD j 0).natAbs ≤ 2) ∧ allBd F 16 us ∧ post = fun v G' => Nu F G' v (worth us.length us T)
theorem cal_plain_worth (T : Txt K mg) (F : Fk) : C8.Cal P w K mg base 4 "plain_worth" (Fn (SP (R_plain_worth K F))) [] := by
  refine cal_by T.d_plain_worth sc_plain_worth (fun vs G O R h => ?_) (fun f cdv A outer s H vs G O R E hr h => ?_)
  · obtain ⟨_, _, ⟨_, _, _, _, _, rfl, _⟩, _⟩ := h; rfl
  · obtain ⟨rfl, post, ⟨us, Tt, vf, vt, vT, rfl, hf, hvt, hvT, hl, h25, hT, hb, rfl⟩, rfl⟩ := h
    refine ⟨_, (pss_cons (ps_set (i := 3) sc_plain_worth.nd rfl (Or.inl rfl) (pe_fldK K rfl (pv 0) rfl))
    (pss_cons (ps_for PassesOwn.never rfl (pi_range1 rfl T.b_range (pa_cons (pe_callB (lenK K rfl) rfl T.b_len PySem.boot_len (pa_cons (pv 1) pa_nil)) pa_nil)) (pg_name (i := 4) sc_plain_worth.nd rfl (Or.inl rfl))
      (pss_one (ps_if (pt_cmpR op_ne (pe_ix (ixK K rfl) (pv 2) (pv 4) (fun _ _ => rfl)) pe_int (nomark _))
        (pss_one (ps_set (i := 3) sc_plain_worth.nd rfl (Or.inl rfl) (C8.pe_mt (met_times T F) hr (by omega) (pv 0) (pa_cons (pv 3) (pa_cons (C8.pe_mt (met_power T F) hr (by omega) (pv 0) (pa_cons (pe_ix (ixK K rfl) (pv 1) (pv 4) (fun _ _ => rfl)) (pa_cons (pe_ix (ixK K rfl) (pv 2) (pv 4) (fun _ _ => rfl)) pa_nil))) pa_nil)))))
        pss_nil)))
    (pss_one (ps_ret (pv 3))))), ?_⟩
    show WS _ [some (vf), some (vt), some (vT), none, none] _ _ _
    refine ws_seq (ws_set (r_one T (w_var rfl ⟨hf, fun vo hvo => ?_⟩)))
    refine ws_seq ?_
    refine ws_for (i_range1 ?_)
    walk_at "go"
    refine r_lenD hvt ?_
    rw [List.length_map]
    walk_at "go"
    refine ⟨by omega, by omega, _, _, wk_range0, fun i σ G' O' => ∃ (vo : V) (u : Option V), σ = [some vf, some vt, some vT, some vo, u] ∧ O' = [] ∧ Nu F G' vo (worth i us Tt), ⟨_, _, rfl, rfl, hvo⟩, ?_, ?_⟩
    · rintro i x σ' G' O' hi e2 ⟨vo, u, rfl, rfl, hvo⟩ G2 e3 rfl
      have hi : i < us.length := by omega
      have hf := fld_up (e2.trans e3) hf
      have hvt := ro_up (e2.trans e3) hvt
      have hvT := Da.up (e2.trans e3) hvT
      have hvo := nu_up e3 hvo
      have bw := bd_worth (N := i) hb hT
      have hTi := hT i
      walk_at "go"
      refine r_atD (j := i) (.inr hvT) (di_get (by omega)) rfl fun y hy => ?_
      rw [da_int hy]
      walk_at "go"
      walk_at "if"
      · intro hc
        refine ws_set (w_times (w_var rfl ⟨hf, w_cons (w_var rfl (w_cons (w_fpow (w_var rfl ⟨hf, ?_⟩))))⟩))
        walk_at "go"
        refine r_atD (j := i) hvt (ro_get hi) rfl fun y hy => ?_
        walk_at "go"
        refine r_atD (j := i) (.inr hvT) (di_get (by omega)) rfl fun z hz => ?_
        rw [da_int hz]
        walk_at "go"
        refine f_p ⟨_, _, us.getD i 1, _, rfl, hf, hy, Fk.bd_mono (hb.get i) (by decide), hTi, rfl⟩ fun v2 G3 e4 hv2 => ?_
        walk_at "go"
        exact f_p ⟨_, _, _, _, _, rfl, fld_up e4 hf, nu_up e4 hvo, hv2, Fk.bd_mono bw (by have : 2 * 16 * i ≤ 2 * 16 * 25 := Nat.mul_le_mul_left _ (by omega); omega), Fk.bd_mono (Fk.bd_zp (hb.get i) _) (by omega), rfl⟩ fun v3 G4 e5 hv3 => ⟨_, _, rfl, rfl, hv3⟩
      · intro hc
        walk_at "go"
        refine ⟨_, _, rfl, rfl, ?_⟩
        show Nu F G2 vo (worth i us Tt * zp (us.getD i 1) (Tt.getD i 0))
        rw [hc, zp_zero, Gp.mo]
        exact hvo
    · rintro σ' G' O' e2 ⟨vo, u, rfl, rfl, hvo⟩
      walk_at "go"
      rw [Int.toNat_natCast] at hvo
      exact ⟨rfl, hvo⟩
theorem sc_basis_worths : FnScope ["field", "picture", "table", "numbers", "tour"] ["field", "picture", "table"] (defScope s_basis_worths) := ⟨rfl, rfl, rfl, by decide +kernel, rfl, by decide +kernel, by decide +kernel⟩
def S_basis_worths (K : PySem.W.Frag) (F : Fk) : SgX := fun vs G O R RX => O = [] ∧ ∃ (n m : Nat) (ps : List (Nat × Nat)) (vf vp vt : V) (d : PyData), vs = [vf, vp, vt] ∧ FldOk K F G vf ∧ PicOk K n m ps G vp ∧ Da G [] vt d ∧ (∀ us, rowD F d us → allBd F 16 us) ∧
  R = (fun v G' O' => O' = [] ∧ ∃ us : List F.U, rowD F d us ∧ us.length = ps.length ∧ Da G' [] v (.tuple ((worths n m ps us).map F.dat))) ∧ RX = RXT K (fpl F d ps.length)
theorem calX_basis_worths (T : Txt K mg) (F : Fk) : CalX P w K mg base 7 "basis_worths" (FnX (S_basis_worths K F)) := by
  refine calX_by T.d_basis_worths sc_basis_worths (fun vs G O R RX h => ?_) (fun f cdv A outer s H vs G O R RX E hr h => ?_)
  · obtain ⟨_, _, _, _, _, _, _, _, rfl, _⟩ := h; rfl
  · obtain ⟨rfl, n, m, ps, vf, vp, vt, d, rfl, hf, hp, hd, hbd, rfl, rfl⟩ := h
    refine ⟨_, (pss_cons (ps_set (i := 3) sc_basis_worths.nd rfl (Or.inr rfl) (pe_cX (calX_check_table T F) hr (by omega) rfl (takes_of rfl rfl rfl rfl) (pa_cons (pv 0) (pa_cons (pv 1) (pa_cons (pv 2) pa_nil)))))
    (pss_one (ps_ret (pe_callTy (tupleK K rfl) rfl T.b_tuple PyProof.Rows.boot_tuple (pa_cons (pe_lc (own := [("tour", 4)]) rfl sc_basis_worths.nd (pi_tupK K rfl (C8.pe_c (cal_basis_tours T) hr (by omega) rfl (pa_cons (pv 1) pa_nil))) (blkOk_by (N := ["field", "picture", "table", "numbers", "tour"]) (sc := defScope s_basis_worths) (by decide +kernel)) (fun _ _ _ _ _ => (pg_name (i := 4) sc_basis_worths.nd rfl (Or.inl rfl))) (fun _ _ _ _ _ => pts_nil) (fun _ _ _ _ _ => (C8.pe_c (cal_plain_worth T F) hr (by omega) rfl (pa_cons (pv 0) (pa_cons (pv 3) (pa_cons (pv 4) pa_nil)))))) pa_nil))))), ?_⟩
    show WSx _ _ _ [some (vf), some (vp), some (vt), none, none] _ _ _
    have l25 := hp.1.len
    have ol := oth_len (n := n) (m := m) (ps := ps)
    refine wsx_seq (wsx_set (wx_callX rfl (wx_of ?_)))
    walk_at "go"
    refine ⟨_, _, ⟨rfl, n, m, ps, vf, vp, vt, d, rfl, hf, hp, hd, rfl, rfl⟩, fun v G2 A2 e2 ⟨hA, us, hrow, hul, hv⟩ => ?_, fun c dd G2 A2 e2 ⟨hA, z⟩ => ⟨by rw [hA]; rfl, z⟩⟩
    subst hA
    refine wsx_of (ws_ret (w_cb (w_cons (w_lcTm ?_))))
    walk_at "go"
    refine f_p ⟨n, m, ps, _, rfl, pic_up e2 hp, rfl⟩ fun vb G3 e3 hvb => ?_
    have bl : (dtours (basis n m ps)).length = (oth n m ps).length := by simp [dtours, basis]
    refine ⟨_, by rw [bl]; omega, hvb, fun i => F.dat (worth us.length us (btour n m ps i)), ?_, fun p G4 e4 hq => ?_⟩
    · intro i y d' G4 hd' e4 hy
      have hi : i < (oth n m ps).length := by
        obtain ⟨h1, _⟩ := List.getElem?_eq_some_iff.mp hd'
        rwa [bl] at h1
      rw [basis_get hi] at hd'
      cases hd'
      refine ⟨rfl, ?_⟩
      walk_at "go"
      exact f_p ⟨us, _, _, _, _, rfl, fld_up ((e2.trans e3).trans e4) hf, .inr (Da.up (e3.trans e4) hv), hy, by rw [btour_len, hul], by omega, btour_small hp.1 hi, hbd us hrow, rfl⟩ fun v5 G5 e5 hv5 => ⟨rfl, hv5⟩
    · walk_at "go"
      rw [bl] at hq
      have ep : (List.range (oth n m ps).length).map (fun i => F.dat (worth us.length us (btour n m ps i))) = (worths n m ps us).map F.dat := by rw [worths, List.map_map]; rfl
      rw [ep] at hq
      exact r_tupleD (.inl hq) fun x G5 e5 hx => ⟨rfl, us, hrow, hul, hx⟩
theorem sc_table_of : FnScope ["field", "picture", "numbers", "places", "index", "out", "k", "pair"] ["field", "picture", "numbers"] (defScope s_table_of) := ⟨rfl, rfl, rfl, by decide +kernel, rfl, by decide +kernel, by decide +kernel⟩
def R_table_of (K : PySem.W.Frag) (F : Fk) : Rel := fun ws G post => ∃ (n m : Nat) (ps : List (Nat × Nat)) (vf vp vn : V) (us : List F.U), ws = [vf, vp, vn] ∧ FldOk K F G vf ∧ PicOk K n m ps G vp ∧ Da G [] vn (.tuple (us.map F.dat)) ∧ us.length = (oth n m ps).length ∧ post = fun v G' => Da G' [] v (.tuple ((putU (oth n m ps) us ps.length (oth n m ps).length).map F.dat))
theorem cal_table_of (T : Txt K mg) (F : Fk) : C8.Cal P w K mg base 6 "table_of" (Fn (SP (R_table_of K F))) [] := by
  refine cal_by T.d_table_of sc_table_of (fun vs G O R h => ?_) (fun f cdv A outer s H vs G O R E hr h => ?_)
  · obtain ⟨_, _, ⟨_, _, _, _, _, _, _, rfl, _⟩, _⟩ := h; rfl
  · obtain ⟨rfl, post, ⟨n, m, ps, vf, vp, vn, us, rfl, hf, hp, hvn, hul, rfl⟩, rfl⟩ := h
    refine ⟨_, (pss_cons (ps_set (i := 3) sc_table_of.nd rfl (Or.inl rfl) (C8.pe_c (cal_other_places T) hr (by omega) rfl (pa_cons (pv 1) pa_nil)))
    (pss_cons (ps_set (i := 4) sc_table_of.nd rfl (Or.inl rfl) (C8.pe_c (cal_factors_place T F) hr (by omega) rfl (pa_cons (pv 0) (pa_cons (pv 2) (pa_cons (pe_callB (lenK K rfl) rfl T.b_len PySem.boot_len (pa_cons (pv 3) pa_nil)) pa_nil)))))
    (pss_cons (ps_if (pt_cmpR op_notNone (pv 4) pe_non (nomark _))
      (pss_one ps_never)
      pss_nil)
    (pss_cons (ps_setLc (i := 5) (own := [("pair", 7)]) rfl sc_table_of.nd rfl rfl (sw_true rfl rfl rfl (by decide +kernel)) (pi_tupK K rfl (pe_fldK K rfl (pv 1) rfl)) (blkOk_by (N := ["field", "picture", "numbers", "places", "index", "out", "k", "pair"]) (sc := defScope s_table_of) (by decide +kernel)) (fun _ _ _ _ _ => (pg_name (i := 7) sc_table_of.nd rfl (Or.inl rfl))) (fun _ _ _ _ _ => pts_nil) (fun _ _ _ _ _ => (pe_fldK K rfl (pv 0) rfl)))
    (pss_cons (ps_for PassesOwn.never rfl (pi_range1 rfl T.b_range (pa_cons (pe_callB (lenK K rfl) rfl T.b_len PySem.boot_len (pa_cons (pv 3) pa_nil)) pa_nil)) (pg_name (i := 6) sc_table_of.nd rfl (Or.inl rfl))
      (pss_one (ps_asg (pe_ix (ixK K rfl) (pv 2) (pv 6) (fun _ _ => rfl)) (pg_sub (pv 5) (pe_ix (ixK K rfl) (pv 3) (pv 6) (fun _ _ => rfl)) set_list))))
    (pss_one (ps_ret (pe_callTy (tupleK K rfl) rfl T.b_tuple PyProof.Rows.boot_tuple (pa_cons (pv 5) pa_nil))))))))), ?_⟩
    show WS _ [some (vf), some (vp), some (vn), none, none, none, none, none] _ _ _
    have l25 := hp.1.len
    have ol := oth_len (n := n) (m := m) (ps := ps)
    walk_at "go"
    refine f_p ⟨n, m, ps, _, rfl, hp, rfl⟩ fun vo G1 e1 hvo => ?_
    walk_at "go"
    refine r_lenD (.inr hvo) ?_
    rw [dn_len]
    walk_at "go"
    have hvn1 := Da.up e1 hvn
    have hf1 := fld_up e1 hf
    have hp1 := pic_up e1 hp
    refine f_p ⟨vf, vn, _, (oth n m ps).length, rfl, hf1, hvn1, by omega, rfl⟩ fun v G2 e2 hv => ?_
    rw [fpl_row (d := .tuple (us.map F.dat)) (us := us) rfl hul] at hv
    subst hv
    refine ws_seq (ws_if ?_)
    walk_at "go"
    refine ⟨fun z => by simp [opV] at z, fun _ => ws_nx ?_⟩
    refine ws_seq (ws_set (w_lc (i_tup (r_picL T (w_var rfl ⟨pic_up e2 hp1, fun vl hvl => ?_⟩)))))
    obtain ⟨pa', xs, rfl, hpa, hxs⟩ := da_tup hvl
    have hlx := daAll_len hxs
    rw [List.length_map] at hlx
    refine ⟨pa', xs, rfl, hpa, _, _, by omega, wk_tup hpa, fun i acc G' O' => O' = [] ∧ DaAll G' [] acc ((List.replicate i (1 : F.U)).map F.dat), ⟨rfl, .nil⟩, ?_, ?_⟩
    · rintro i x acc G' O' hi e3 ⟨rfl, hacc⟩ G3 e4 hx
      refine g_name ⟨rfl, t_yes ⟨fun _ => ?_, fun z => by cases z⟩⟩
      refine r_one T (w_var rfl ⟨fld_up ((e2.trans e3).trans e4) hf1, fun v1 hv1 => ⟨rfl, ?_⟩⟩)
      rw [List.replicate_succ']
      exact ro_snoc (DaAll.up e4 hacc) hv1
    rintro acc op G3 O3 hal e3 ⟨rfl, hacc⟩
    rw [hlx] at hacc
    dsimp only [List.nil_append]
    have hvo3 := Da.up (e2.trans e3) hvo
    have hvn3 := Da.up (e2.trans e3) hvn1
    refine ws_seq ?_
    refine ws_for (i_range1 ?_)
    walk_at "go"
    refine r_lenD (.inr hvo3) ?_
    rw [dn_len]
    walk_at "go"
    refine ⟨by omega, by omega, _, _, wk_range0, fun i σ G' O' => ∃ (u1 u2 : Option V) (xs : List V), σ = [some vf, some vp, some vn, some vo, some V.non, some (.ref op), u1, u2] ∧ O' = [(op, .lst xs)] ∧ DaAll G' [] xs ((putU (oth n m ps) us ps.length i).map F.dat), ⟨_, _, _, rfl, rfl, hacc⟩, ?_, ?_⟩
    · rintro i x σ' G' O' hi e5 ⟨u1, u2, ys, rfl, rfl, hys⟩ G6 e6 rfl
      have hi : i < (oth n m ps).length := by omega
      have hys := DaAll.up e6 hys
      have hly := daAll_len hys
      rw [List.length_map, putU_len] at hly
      have hm := (oth_mem.mp (oth_getm hi)).1
      walk_at "go"
      refine r_atD (j := i) (.inr (Da.up (e5.trans e6) hvn3)) (ro_get (by omega)) rfl fun y hy => ?_
      walk_at "go"
      refine r_atD (j := i) (.inr (Da.up (e5.trans e6) hvo3)) (dn_get hi) rfl fun z hz => ?_
      rw [da_int hz]
      refine ⟨_, _, _, _, rfl, rfl, rfl, ixN_nat (by omega), ?_⟩
      refine ⟨_, _, _, rfl, rfl, ?_⟩
      rw [putU_succ, List.map_set]
      exact daAll_set hys hy
    · rintro σ' G' O' e5 ⟨u1, u2, ys, rfl, rfl, hys⟩
      rw [Int.toNat_natCast] at hys
      refine ws_frzD 0 rfl hys fun G6 e6 hl => ?_
      walk_at "go"
      exact r_tupleD (.inl hl) fun x G7 e7 hx => ⟨rfl, hx⟩
theorem sc_plain_form : FnScope ["field", "picture", "table"] ["field", "picture", "table"] (defScope s_plain_form) := ⟨rfl, rfl, rfl, by decide +kernel, rfl, by decide +kernel, by decide +kernel⟩
def S_plain_form (K : PySem.W.Frag) (F : Fk) : SgX := fun vs G O R RX => O = [] ∧ ∃ (n m : Nat) (ps : List (Nat × Nat)) (vf vp vt : V) (d : PyData), vs = [vf, vp, vt] ∧ FldOk K F G vf ∧ PicOk K n m ps G vp ∧ Da G [] vt d ∧ (∀ us, rowD F d us → allBd F 16 us) ∧
  R = (fun v G' O' => O' = [] ∧ ∃ us : List F.U, rowD F d us ∧ us.length = ps.length ∧ Da G' [] v (.tuple ((plain n m ps us).map F.dat))) ∧ RX = RXT K (fpl F d ps.length)
theorem calX_plain_form (T : Txt K mg) (F : Fk) : CalX P w K mg base 8 "plain_form" (FnX (S_plain_form K F)) := by
  refine calX_by T.d_plain_form sc_plain_form (fun vs G O R RX h => ?_) (fun f cdv A outer s H vs G O R RX E hr h => ?_)
  · obtain ⟨_, _, _, _, _, _, _, _, rfl, _⟩ := h; rfl
  · obtain ⟨rfl, n, m, ps, vf, vp, vt, d, rfl, hf, hp, hd, hbd, rfl, rfl⟩ := h
    refine ⟨_, (pss_one (ps_ret (C8.pe_c (cal_table_of T F) hr (by omega) rfl (pa_cons (pv 0) (pa_cons (pv 1) (pa_cons (pe_cX (calX_basis_worths T F) hr (by omega) rfl (takes_of rfl rfl rfl rfl) (pa_cons (pv 0) (pa_cons (pv 1) (pa_cons (pv 2) pa_nil)))) pa_nil)))))), ?_⟩
    show WSx _ _ _ [some (vf), some (vp), some (vt)] _ _ _
    refine wsx_ret (wx_call0 (wx_cons (wx_of (w_var rfl (wx_cons (wx_of (w_var rfl (wx_cons (wx_callX rfl (wx_of ?_))))))))))
    walk_at "go"
    refine ⟨_, _, ⟨rfl, n, m, ps, vf, vp, vt, d, rfl, hf, hp, hd, hbd, rfl, rfl⟩, fun v G2 A2 e2 ⟨hA, us, hrow, hul, hv⟩ => ?_, fun c dd G2 A2 e2 ⟨hA, z⟩ => ⟨by rw [hA]; rfl, z⟩⟩
    subst hA
    refine wx_nil ?_
    exact f_p ⟨n, m, ps, _, _, _, worths n m ps us, rfl, fld_up e2 hf, pic_up e2 hp, hv, by simp [worths], rfl⟩ fun v3 G3 e3 hv3 => ⟨rfl, us, hrow, hul, hv3⟩
end
/-! text S5 -/
/-- a number or None -/
def OD (F : Fk) (G : Hp) (x : V) : Option F.U → Prop
  | none => x = .non
  | some u => Nu F G x u
theorem od_up {F : Fk} {G G' : Hp} {x : V} {o : Option F.U} (e : Ex G G') (h : OD F G x o) : OD F G' x o := by
  cases o with
  | none => exact h
  | some u => exact nu_up e h
theorem nu_ne {F : Fk} {G : Hp} {x : V} {u : F.U} (h : Nu F G x u) : x ≠ .non := fun e => by
  subst e
  cases F with
  | frac => cases nu_frac h
  | rest p hp => have := nu_rest h; cases this
theorem od_iff {F : Fk} {G : Hp} {x : V} {o : Option F.U} (h : OD F G x o) : x = .non ↔ o = none := by
  cases o with
  | none => exact ⟨fun _ => rfl, fun _ => h⟩
  | some u => exact ⟨fun e => absurd e (nu_ne h), fun e => by cases e⟩
/-- the items of a list, from off on -/
def PtL (F : Fk) (G : Hp) (n off : Nat) (A : Nat → Option F.U) (xs : List V) : Prop := xs.length = n ∧ ∀ i, i < n → ∃ x, xs[i]? = some x ∧ OD F G x (A (off + i))
theorem ptl_up {F : Fk} {G G' : Hp} {n off : Nat} {A : Nat → Option F.U} {xs : List V} (e : Ex G G') (h : PtL F G n off A xs) : PtL F G' n off A xs := ⟨h.1, fun i hi => by obtain ⟨x, h1, h2⟩ := h.2 i hi; exact ⟨x, h1, od_up e h2⟩⟩
theorem ptl_set {F : Fk} {G : Hp} {n off : Nat} {A : Nat → Option F.U} {xs : List V} {v : V} {u : F.U} {i : Nat} (h : PtL F G n off A xs) (hi : i < n) (hu : Nu F G v u) : PtL F G n off (ua A (off + i) u) (xs.set i v) := by
  refine ⟨by rw [List.length_set, h.1], fun j hj => ?_⟩
  by_cases e : j = i
  · subst e
    exact ⟨v, by rw [List.getElem?_set_self (by rw [h.1]; exact hj)], by rw [ua, if_pos rfl]; exact hu⟩
  · obtain ⟨x, h1, h2⟩ := h.2 j hj
    exact ⟨x, by rw [List.getElem?_set_ne (Ne.symm e)]; exact h1, by rw [ua, if_neg (by omega)]; exact h2⟩
theorem ptl_other {F : Fk} {G : Hp} {n off : Nat} {A : Nat → Option F.U} {xs : List V} {u : F.U} {v : Nat} (h : PtL F G n off A xs) (hv : ∀ i, i < n → off + i ≠ v) : PtL F G n off (ua A v u) xs :=
  ⟨h.1, fun i hi => by obtain ⟨x, h1, h2⟩ := h.2 i hi; exact ⟨x, h1, by rw [ua, if_neg (hv i hi)]; exact h2⟩⟩
section
variable {P : Program} {w : World} {K : PySem.W.Frag} {mg : Str → Option Value} {base : Heap}
theorem sc_spread_factors : FnScope ["field", "picture", "quotients", "points", "walls", "changed", "place", "point", "wall"] ["field", "picture", "quotients", "points", "walls"] (defScope s_spread_factors) := ⟨rfl, rfl, rfl, by decide +kernel, rfl, by decide +kernel, by decide +kernel⟩
def S_spread (K : PySem.W.Frag) (F : Fk) : Sg := fun vs G O R => ∃ (n m : Nat) (ps : List (Nat × Nat)) (vf vp vq : V) (pad wad : Addr) (xs ys : List V) (qs : List F.U) (g : Nat → F.U) (mu : Nat → Nat) (i1 : Nat) (D : Nat → Prop) (h0 : F.U) (A : Nat → Option F.U),
  vs = [vf, vp, vq, .ref pad, .ref wad] ∧ O = [(pad, .lst xs), (wad, .lst ys)] ∧ FldOk K F G vf ∧ PicOk K n m ps G vp ∧ Ro F G vq qs ∧ qs.length = ps.length ∧ (∀ k, k < ps.length → qs.getD k 1 = g (vt n ps k 0) * g (vt n ps k 1)) ∧ allBd F 32 qs ∧ (∀ k, k < ps.length → mu (vt n ps k 0) = mu (vt n ps k 1)) ∧
  SI F n m ps (fun k => qs.getD k 1) g mu i1 D h0 A ∧ PtL F G n 0 A xs ∧ PtL F G m n A ys ∧
  R = fun _ G' O' => ∃ (xs' ys' : List V) (A' : Nat → Option F.U), O' = [(pad, .lst xs'), (wad, .lst ys')] ∧ PtL F G' n 0 A' xs' ∧ PtL F G' m n A' ys' ∧ SI F n m ps (fun k => qs.getD k 1) g mu i1 D h0 A' ∧ ∀ k, k < ps.length → (A' (vt n ps k 0) = none ↔ A' (vt n ps k 1) = none)
theorem cal_spread_factors (T : Txt K mg) (F : Fk) : C8.Cal P w K mg base 5 "spread_factors" (Fn (S_spread K F)) [] := by
  refine cal_by T.d_spread_factors sc_spread_factors (fun vs G O R h => ?_) (fun f cdv A outer s H vs G O R E hr h => ?_)
  · obtain ⟨_, _, _, _, _, _, _, _, _, _, _, _, _, _, _, _, _, rfl, _⟩ := h; rfl
  · obtain ⟨n, m, ps, vf, vp, vq, pad, wad, xs, ys, qs, g, mu, i1, Ds, h0, A0, rfl, rfl, hf, hp, hvq, hql, hqg, hqb, hmu, hSI, hxs, hys, rfl⟩ := h
    refine ⟨_, (pss_cons (ps_set (i := 5) sc_spread_factors.nd rfl (Or.inl rfl) pe_bl)
    (pss_one (ps_while PassesOwn.never (pt_val (pv 5))
      (pss_cons (ps_set (i := 5) sc_spread_factors.nd rfl (Or.inl rfl) pe_bl)
      (pss_one (ps_for PassesOwn.never rfl (pi_range1 rfl T.b_range (pa_cons (pe_callB (lenK K rfl) rfl T.b_len PySem.boot_len (pa_cons (pv 2) pa_nil)) pa_nil)) (pg_name (i := 6) sc_spread_factors.nd rfl (Or.inl rfl))
        (pss_cons (ps_asg (pe_ix (ixK K rfl) (pe_fldK K rfl (pv 1) rfl) (pv 6) (fun _ _ => rfl)) (pg_tupK K rfl (n := 2) rfl (pgs_cons (pg_name (i := 7) sc_spread_factors.nd rfl (Or.inl rfl)) (pgs_cons (pg_name (i := 8) sc_spread_factors.nd rfl (Or.inl rfl)) pgs_nil))))
        (pss_one (ps_if (PW.pt (pw_and (pt_cmpR op_notNone (pe_ix (ixK K rfl) (pv 3) (pv 7) (fun _ _ => rfl)) pe_non (nomark _)) (pw_and1 (pt_cmpR op_isNone (pe_ix (ixK K rfl) (pv 4) (pv 8) (fun _ _ => rfl)) pe_non (nomark _)))))
          (pss_cons (ps_asg (C8.pe_mt (met_quot T F) hr (by omega) (pv 0) (pa_cons (pe_ix (ixK K rfl) (pv 2) (pv 6) (fun _ _ => rfl)) (pa_cons (pe_ix (ixK K rfl) (pv 3) (pv 7) (fun _ _ => rfl)) pa_nil))) (pg_sub (pv 4) (pv 8) set_list))
          (pss_one (ps_set (i := 5) sc_spread_factors.nd rfl (Or.inl rfl) pe_bl)))
          (pss_one (ps_if (PW.pt (pw_and (pt_cmpR op_isNone (pe_ix (ixK K rfl) (pv 3) (pv 7) (fun _ _ => rfl)) pe_non (nomark _)) (pw_and1 (pt_cmpR op_notNone (pe_ix (ixK K rfl) (pv 4) (pv 8) (fun _ _ => rfl)) pe_non (nomark _)))))
            (pss_cons (ps_asg (C8.pe_mt (met_quot T F) hr (by omega) (pv 0) (pa_cons (pe_ix (ixK K rfl) (pv 2) (pv 6) (fun _ _ => rfl)) (pa_cons (pe_ix (ixK K rfl) (pv 4) (pv 8) (fun _ _ => rfl)) pa_nil))) (pg_sub (pv 3) (pv 7) set_list))
            (pss_one (ps_set (i := 5) sc_spread_factors.nd rfl (Or.inl rfl) pe_bl)))
            pss_nil))))))))))), ?_⟩
    show WS _ [some (vf), some (vp), some (vq), some (.ref pad), some (.ref wad), none, none, none, none] _ _ _
    have pw := hp.1
    have l25 := pw.len
    have n5 := pw.n5
    have m5 := pw.m5
    refine ws_seq (ws_set (w_c ?_))
    refine ws_while (fun μ σ G' O' => ∃ (c : Bool) (xs ys : List V) (A : Nat → Option F.U) (u1 u2 u3 : Option V), 2 * un (n + m) A + (if c then 1 else 0) = μ ∧ σ = [some vf, some vp, some vq, some (.ref pad), some (.ref wad), some (.bl c), u1, u2, u3] ∧ O' = [(pad, .lst xs), (wad, .lst ys)] ∧ PtL F G' n 0 A xs ∧ PtL F G' m n A ys ∧ SI F n m ps (fun k => qs.getD k 1) g mu i1 Ds h0 A ∧
        (c = false → ∀ k, k < ps.length → (A (vt n ps k 0) = none ↔ A (vt n ps k 1) = none))) (2 * un (n + m) A0 + 1) ⟨true, xs, ys, A0, _, _, _, rfl, rfl, rfl, hxs, hys, hSI, fun z => by cases z⟩ ?_
    rintro μ σ' G1 O' e1 ⟨c, xs, ys, A, u1, u2, u3, rfl, rfl, rfl, hxs, hys, hSI, hsat⟩
    walk_at "go"
    cases c with
    | false =>
      refine ⟨fun z => (by cases z), fun _ => ?_⟩
      exact ⟨xs, ys, A, rfl, hxs, hys, hSI, hsat rfl⟩
    | true =>
    refine ⟨fun _ => ?_, fun z => by cases z⟩
    refine ws_seq (ws_set (w_c ?_))
    have hf := fld_up e1 hf
    have hp := pic_up e1 hp
    have hvq := ro_up e1 hvq
    refine ws_for (i_range1 ?_)
    walk_at "go"
    refine r_lenD hvq ?_
    rw [List.length_map]
    walk_at "go"
    refine ⟨by omega, by omega, _, _, wk_range0, fun i σ G' O' => ∃ (c : Bool) (xs ys : List V) (B : Nat → Option F.U) (u1 u2 u3 : Option V), σ = [some vf, some vp, some vq, some (.ref pad), some (.ref wad), some (.bl c), u1, u2, u3] ∧ O' = [(pad, .lst xs), (wad, .lst ys)] ∧ PtL F G' n 0 B xs ∧ PtL F G' m n B ys ∧ SI F n m ps (fun k => qs.getD k 1) g mu i1 Ds h0 B ∧
        (c = true → un (n + m) B < un (n + m) A) ∧ (c = false → un (n + m) B ≤ un (n + m) A ∧ ∀ k, k < i → (B (vt n ps k 0) = none ↔ B (vt n ps k 1) = none)), ⟨false, xs, ys, A, _, _, _, rfl, rfl, hxs, hys, hSI, fun z => (by cases z), fun _ => ⟨Nat.le_refl _, by omega⟩⟩, ?_, ?_⟩
    · rintro i x σ' G2 O' hi e2 ⟨c, xs, ys, B, u1, u2, u3, rfl, rfl, hxs, hys, hSI, hc1, hc2⟩ G3 e3 rfl
      have hi : i < ps.length := by omega
      have hin := pa_in pw hi
      have hf := fld_up (e2.trans e3) hf
      have hp := pic_up (e2.trans e3) hp
      have hvq := ro_up (e2.trans e3) hvq
      have hxs := ptl_up e3 hxs
      have hys := ptl_up e3 hys
      have ev0 : vt n ps i 0 = (pa ps i).1 := rfl
      have ev1 : vt n ps i 1 = n + (pa ps i).2 := rfl
      obtain ⟨x0, hx0, hd0⟩ := hxs.2 _ hin.1
      obtain ⟨y0, hy0, hd1⟩ := hys.2 _ hin.2
      rw [Nat.zero_add, ← ev0] at hd0
      rw [← ev1] at hd1
      have bnd : ∀ v u, v < n + m → B v = some u → F.bd 1900 u := fun v u hv hu => Fk.bd_mono (hSI.bd v u hv hu) (by have := un_le (n + m) B; omega)
      have hl0 := vt_lt pw hi (s := 0)
      have hl1 := vt_lt pw hi (s := 1)
      -- when an end is told anew
      have more : ∀ {s : Nat} {y : F.U}, s < 2 → B (vt n ps i s) = some y → B (vt n ps i (1 - s)) = none → SI F n m ps (fun k => qs.getD k 1) g mu i1 Ds h0 (ua B (vt n ps i (1 - s)) (qs.getD i 1 * y⁻¹)) ∧ un (n + m) (ua B (vt n ps i (1 - s)) (qs.getD i 1 * y⁻¹)) < un (n + m) A := fun {s y} hs h1 h2 => by
        refine ⟨hSI.step pw hqg (fun k _ => hqb.get k) hmu hi hs h1 h2, ?_⟩
        have := un_upd (N := n + m) (A := B) (x := qs.getD i 1 * y⁻¹) (vt_lt pw hi (s := 1 - s)) h2
        cases c with
        | true => have := hc1 rfl; omega
        | false => have := (hc2 rfl).1; omega
      refine g_name ?_
      refine ws_seq (ws_asg (w_op (r_picL T (w_var rfl ⟨hp, fun vl hvl => ?_⟩))))
      walk_at "go"
      refine r_atD (j := i) (.inr hvl) (pa_get hi) rfl fun z hz => ?_
      refine g_tupD hz rfl fun zs hzs => ?_
      obtain ⟨v1, v2, rfl, h1, h2⟩ := da2 hzs
      rw [da_int h1, da_int h2]
      refine g_cons (g_name (g_cons (g_name (g_nil ?_))))
      walk_at "go"
      refine r_own 0 rfl (atI_nat hx0) ?_
      walk_at "go"
      cases hB0 : B (vt n ps i 0) with
      | some y =>
        rw [hB0] at hd0
        have hne : x0 ≠ .non := nu_ne hd0
        rw [decide_eq_false hne]
        walk_at "go"
        refine r_own 1 rfl (atI_nat hy0) ?_
        walk_at "go"
        cases hB1 : B (vt n ps i 1) with
        | none =>
          rw [hB1] at hd1
          obtain rfl : y0 = .non := hd1
          refine ⟨fun _ => ?_, fun z => by simp at z⟩
          obtain ⟨m1, m2⟩ := more (s := 0) (by decide) hB0 hB1
          refine ws_seq (ws_asg (w_quot (w_var rfl ⟨hf, ?_⟩)))
          walk_at "go"
          refine r_atD (j := i) hvq (ro_get (by omega)) rfl fun q0 hq0 => ?_
          walk_at "go"
          refine r_own 0 rfl (atI_nat hx0) ?_
          walk_at "go"
          refine f_p ⟨_, _, _, _, _, rfl, hf, hq0, hd0, Fk.bd_mono (hqb.get i) (by decide), bnd _ _ hl0 hB0, rfl⟩ fun v3 G4 e4 hv3 => ?_
          refine g_sub 1 ?_
          walk_at "go"
          refine ⟨_, _, _, _, rfl, rfl, rfl, ixN_nat (by rw [hys.1]; exact hin.2), ?_⟩
          walk_at "go"
          refine ⟨true, _, _, _, _, _, _, rfl, rfl, ptl_other (ptl_up e4 hxs) (fun j hj => ?_), ptl_set (ptl_up e4 hys) hin.2 hv3, m1, fun _ => m2, fun z => by cases z⟩
          show 0 + j ≠ vt n ps i 1
          omega
        | some y' =>
          rw [hB1] at hd1
          have hne1 : y0 ≠ .non := nu_ne hd1
          rw [decide_eq_false hne1]
          refine ⟨fun z => (by cases z), fun _ => ?_⟩
          walk_at "go"
          refine r_own 0 rfl (atI_nat hx0) ?_
          walk_at "go"
          rw [decide_eq_false hne]
          refine ⟨fun z => (by cases z), fun _ => cj_f ?_⟩
          walk_at "go"
          refine ⟨c, xs, ys, B, _, _, _, rfl, rfl, hxs, hys, hSI, hc1, fun hc => ⟨(hc2 hc).1, fun k hk => ?_⟩⟩
          by_cases ek : k = i
          · subst ek; rw [hB0, hB1]; simp
          · exact (hc2 hc).2 k (by omega)
      | none =>
        rw [hB0] at hd0
        obtain rfl : x0 = .non := hd0
        refine ⟨fun z => by simp at z, fun _ => cj_f ?_⟩
        walk_at "go"
        refine r_own 0 rfl (atI_nat hx0) ?_
        walk_at "go"
        refine ⟨fun _ => ?_, fun z => by simp at z⟩
        walk_at "go"
        refine r_own 1 rfl (atI_nat hy0) ?_
        walk_at "go"
        cases hB1 : B (vt n ps i 1) with
        | some y =>
          rw [hB1] at hd1
          have hne1 : y0 ≠ .non := nu_ne hd1
          rw [decide_eq_false hne1]
          refine ⟨fun _ => ?_, fun z => (by cases z)⟩
          obtain ⟨m1, m2⟩ := more (s := 1) (by decide) hB1 hB0
          refine ws_seq (ws_asg (w_quot (w_var rfl ⟨hf, ?_⟩)))
          walk_at "go"
          refine r_atD (j := i) hvq (ro_get (by omega)) rfl fun q0 hq0 => ?_
          walk_at "go"
          refine r_own 1 rfl (atI_nat hy0) ?_
          walk_at "go"
          refine f_p ⟨_, _, _, _, _, rfl, hf, hq0, hd1, Fk.bd_mono (hqb.get i) (by decide), bnd _ _ hl1 hB1, rfl⟩ fun v3 G4 e4 hv3 => ?_
          refine g_sub 0 ?_
          walk_at "go"
          refine ⟨_, _, _, _, rfl, rfl, rfl, ixN_nat (by rw [hxs.1]; exact hin.1), ?_⟩
          walk_at "go"
          have hset := ptl_set (ptl_up e4 hxs) hin.1 hv3
          rw [Nat.zero_add] at hset
          refine ⟨true, _, _, _, _, _, _, rfl, rfl, hset, ptl_other (ptl_up e4 hys) (fun j hj => ?_), m1, fun _ => m2, fun z => by cases z⟩
          omega
        | none =>
          rw [hB1] at hd1
          obtain rfl : y0 = .non := hd1
          refine ⟨fun z => by simp at z, fun _ => ?_⟩
          walk_at "go"
          refine ⟨c, xs, ys, B, _, _, _, rfl, rfl, hxs, hys, hSI, hc1, fun hc => ⟨(hc2 hc).1, fun k hk => ?_⟩⟩
          by_cases ek : k = i
          · subst ek; rw [hB0, hB1]
          · exact (hc2 hc).2 k (by omega)
    · rintro σ' G2 O' e2 ⟨c, xs, ys, B, u1, u2, u3, rfl, rfl, hxs, hys, hSI, hc1, hc2⟩
      have hN : (qs.length : Int).toNat = ps.length := by omega
      rw [hN] at hc2
      refine ⟨2 * un (n + m) B + (if c then 1 else 0), ?_, c, xs, ys, B, _, _, _, rfl, rfl, rfl, hxs, hys, hSI, fun hc => (hc2 hc).2⟩
      cases c with
      | true => have := hc1 rfl; show _ + 1 < _ + 1; omega
      | false => have := (hc2 rfl).1; show _ + 0 < _ + 1; omega
end
/-! text S6 -/
section
variable {P : Program} {w : World} {K : PySem.W.Frag} {mg : Str → Option Value} {base : Heap}
theorem sc_Factors_init : FnScope ["self", "points", "walls"] ["self", "points", "walls"] (defScope s_Factors_init) := ⟨rfl, rfl, rfl, by decide +kernel, rfl, by decide +kernel, by decide +kernel⟩
def R_mk_fac : RelM := fun ws _ post => ∃ a b, ws = [a, b] ∧ post = fun fs _ => fs = ([("points", a), ("walls", b)] : List (Str × V))
theorem mak_Factors (T : Txt K mg) : C8.Mak P w K mg base 1 "Factors" (ga K "Factors") (Fn (SM (ga K "Factors") R_mk_fac)) [] := by
  refine mak_by (k := 0) T.mk_Factors T.g_Factors T.f_Factors_init sc_Factors_init (fun vs G O R h => ?_) (fun cdv A outer s H vs G O R E hr h => ?_)
  · obtain ⟨x, dx, ws, rfl, _, _, ⟨_, _, rfl, _⟩, _⟩ := h; rfl
  · obtain ⟨x, dx, ws, rfl, rfl, post, ⟨a, b, rfl, rfl⟩, rfl⟩ := h
    refine ⟨_, (pss_cons (ps_fldK K rfl (pv 0) (pv 1) rfl)
    (pss_one (ps_fldK K rfl (pv 0) (pv 2) rfl))), ?_⟩
    show WS _ [some (.ref x), some (a), some (b)] _ _ _
    refine ws_seq (ws_fldset 0 T.na_Factors_points T.cl_Factors ?_)
    walk_at "go"
    refine ⟨_, _, _, rfl, rfl, by decide, ?_⟩
    refine ws_fldset 0 T.na_Factors_walls T.cl_Factors ?_
    walk_at "go"
    exact ⟨_, _, _, rfl, rfl, (by show 1 < 1000; decide), rfl, _, rfl, rfl⟩
theorem sc_Unlike_init : FnScope ["self", "place", "first", "second"] ["self", "place", "first", "second"] (defScope s_Unlike_init) := ⟨rfl, rfl, rfl, by decide +kernel, rfl, by decide +kernel, by decide +kernel⟩
def R_mk_unl : RelM := fun ws _ post => ∃ a b c, ws = [a, b, c] ∧ post = fun fs _ => fs = ([("place", a), ("first", b), ("second", c)] : List (Str × V))
theorem mak_Unlike (T : Txt K mg) : C8.Mak P w K mg base 1 "Unlike" (ga K "Unlike") (Fn (SM (ga K "Unlike") R_mk_unl)) [] := by
  refine mak_by (k := 0) T.mk_Unlike T.g_Unlike T.f_Unlike_init sc_Unlike_init (fun vs G O R h => ?_) (fun cdv A outer s H vs G O R E hr h => ?_)
  · obtain ⟨x, dx, ws, rfl, _, _, ⟨_, _, _, rfl, _⟩, _⟩ := h; rfl
  · obtain ⟨x, dx, ws, rfl, rfl, post, ⟨a, b, c, rfl, rfl⟩, rfl⟩ := h
    refine ⟨_, (pss_cons (ps_fldK K rfl (pv 0) (pv 1) rfl)
    (pss_cons (ps_fldK K rfl (pv 0) (pv 2) rfl)
    (pss_one (ps_fldK K rfl (pv 0) (pv 3) rfl)))), ?_⟩
    show WS _ [some (.ref x), some (a), some (b), some (c)] _ _ _
    refine ws_seq (ws_fldset 0 T.na_Unlike_place T.cl_Unlike ?_)
    walk_at "go"
    refine ⟨_, _, _, rfl, rfl, by decide, ?_⟩
    refine ws_seq (ws_fldset 0 T.na_Unlike_first T.cl_Unlike ?_)
    walk_at "go"
    refine ⟨_, _, _, rfl, rfl, (by show 1 < 1000; decide), ?_⟩
    refine ws_fldset 0 T.na_Unlike_second T.cl_Unlike ?_
    walk_at "go"
    exact ⟨_, _, _, rfl, rfl, (by show 2 < 1000; decide), rfl, _, rfl, rfl⟩
/-- objects of the two classes -/
def FacOk (K : PySem.W.Frag) (G : Hp) (v a b : V) : Prop := ∃ ad dx, v = .ref ad ∧ G ad = some (.ins (ga K "Factors") dx [("points", a), ("walls", b)])
def UnlOk (K : PySem.W.Frag) (G : Hp) (v a b c : V) : Prop := ∃ ad dx, v = .ref ad ∧ G ad = some (.ins (ga K "Unlike") dx [("place", a), ("first", b), ("second", c)])
theorem fac_up {G G' : Hp} {v a b : V} (e : Ex G G') (h : FacOk K G v a b) : FacOk K G' v a b := by obtain ⟨ad, dx, h1, h2⟩ := h; exact ⟨ad, dx, h1, e _ _ h2⟩
theorem unl_up {G G' : Hp} {v a b c : V} (e : Ex G G') (h : UnlOk K G v a b c) : UnlOk K G' v a b c := by obtain ⟨ad, dx, h1, h2⟩ := h; exact ⟨ad, dx, h1, e _ _ h2⟩
theorem w_mkFac {t : TA} {G : Hp} {O : OL} {σ : L2.St} {R : V → Hp → OL → Prop} {E0 : XK} (h : W (t σ) G O fun vs G1 O1 => ∃ a b, vs = [a, b] ∧ ∀ v G2, Ex G1 G2 → FacOk K G2 v a b → R v G2 O1) : W (tMake (ga K "Factors") (Fn (SM (ga K "Factors") R_mk_fac)) [] E0 t σ) G O R :=
  w_mk (w_imp h fun vs G1 O1 _ ⟨a, b, e, q⟩ => ⟨_, fun G2 e2 => ⟨a, b, e, rfl⟩, fun x dx fs G3 G4 e3 hfs e4 hx => q _ G4 (e3.trans e4) ⟨x, dx, rfl, by rw [← hfs]; exact hx⟩⟩)
theorem w_mkUnl {t : TA} {G : Hp} {O : OL} {σ : L2.St} {R : V → Hp → OL → Prop} {E0 : XK} (h : W (t σ) G O fun vs G1 O1 => ∃ a b c, vs = [a, b, c] ∧ ∀ v G2, Ex G1 G2 → UnlOk K G2 v a b c → R v G2 O1) : W (tMake (ga K "Unlike") (Fn (SM (ga K "Unlike") R_mk_unl)) [] E0 t σ) G O R :=
  w_mk (w_imp h fun vs G1 O1 _ ⟨a, b, c, e, q⟩ => ⟨_, fun G2 e2 => ⟨a, b, c, e, rfl⟩, fun x dx fs G3 G4 e3 hfs e4 hx => q _ G4 (e3.trans e4) ⟨x, dx, rfl, by rw [← hfs]; exact hx⟩⟩)
theorem daAll_mk {G : Hp} {O : OL} : ∀ {xs : List V} {ds : List PyData}, xs.length = ds.length → (∀ (i : Nat) (x : V) (d : PyData), xs[i]? = some x → ds[i]? = some d → Da G O x d) → DaAll G O xs ds
  | [], [], _, _ => .nil
  | [], _ :: _, h, _ => by simp at h
  | _ :: _, [], h, _ => by simp at h
  | x :: xs, d :: ds, h, q => .cons (q 0 x d rfl rfl) (daAll_mk (by simpa using h) fun i x d h1 h2 => q (i + 1) x d (by rw [List.getElem?_cons_succ]; exact h1) (by rw [List.getElem?_cons_succ]; exact h2))
/-- what same_figure tells -/
def FigU (K : PySem.W.Frag) (F : Fk) (n m : Nat) (ps : List (Nat × Nat)) (us1 us2 : List F.U) (G : Hp) (v : V) : Prop :=
  ∃ (i : Nat) (x y : V), i < (oth n m ps).length ∧ (worths n m ps us1).getD i 1 ≠ (worths n m ps us2).getD i 1 ∧ (∀ j, j < i → (worths n m ps us1).getD j 1 = (worths n m ps us2).getD j 1) ∧ UnlOk K G v (.int (i : Int)) x y ∧ Nu F G x ((worths n m ps us1).getD i 1) ∧ Nu F G y ((worths n m ps us2).getD i 1)
def mu (n m : Nat) (ps : List (Nat × Nat)) : Nat → Nat := mk pmin n m ps ps.length
def FigF (K : PySem.W.Frag) (F : Fk) (n m : Nat) (ps : List (Nat × Nat)) (us1 us2 : List F.U) (G : Hp) (v : V) : Prop :=
  worths n m ps us1 = worths n m ps us2 ∧ ∃ (Pt Wt : List F.U) (x y : V), FacOk K G v x y ∧ Da G [] x (.tuple (Pt.map F.dat)) ∧ Da G [] y (.tuple (Wt.map F.dat)) ∧ Pt.length = n ∧ Wt.length = m ∧ allBd F 320 Pt ∧ allBd F 320 Wt ∧ scaled ps us1 Pt Wt = us2 ∧
    (∀ a, a < n → (∀ r, r < a → mu n m ps r ≠ mu n m ps a) → Pt.getD a 1 = 1) ∧ (∀ b, b < m → (∀ r, r < n + b → mu n m ps r ≠ mu n m ps (n + b)) → Wt.getD b 1 = 1)
/-- the plain end of same_figure -/
theorem si_end {F : Fk} {n m : Nat} {ps : List (Nat × Nat)} {us1 us2 : List F.U} {g : Nat → F.U} {A : Nat → Option F.U} {h1 : F.U} (pw : PW n m ps) (hl1 : us1.length = ps.length) (hl2 : us2.length = ps.length)
    (S : SI F n m ps (fun k => (us2.getD k 1) * (us1.getD k 1)⁻¹) g (mu n m ps) n (fun v => A v ≠ none) h1 A) :
    allBd F 320 ((List.range n).map fun a => (A a).getD 1) ∧ allBd F 320 ((List.range m).map fun b => (A (n + b)).getD 1) ∧ scaled ps us1 ((List.range n).map fun a => (A a).getD 1) ((List.range m).map fun b => (A (n + b)).getD 1) = us2 ∧
    (∀ a, a < n → (∀ r, r < a → mu n m ps r ≠ mu n m ps a) → ((List.range n).map fun a => (A a).getD 1).getD a 1 = 1) ∧ (∀ b, b < m → (∀ r, r < n + b → mu n m ps r ≠ mu n m ps (n + b)) → ((List.range m).map fun b => (A (n + b)).getD 1).getD b 1 = 1) := by
  have n5 := pw.n5
  have m5 := pw.m5
  have gP : ∀ a, a < n → ((List.range n).map fun a => (A a).getD 1).getD a 1 = (A a).getD 1 := fun a ha => by rw [List.getD_eq_getElem?_getD, List.getElem?_map, List.getElem?_range ha]; rfl
  have gW : ∀ b, b < m → ((List.range m).map fun b => (A (n + b)).getD 1).getD b 1 = (A (n + b)).getD 1 := fun b hb => by rw [List.getD_eq_getElem?_getD, List.getElem?_map, List.getElem?_range hb]; rfl
  have bd1 : ∀ v, v < n + m → F.bd 320 ((A v).getD 1) := fun v hv => by
    cases e : A v with
    | none => exact Fk.bd_mono Fk.bd_one (Nat.zero_le _)
    | some x => exact Fk.bd_mono (S.bd v x hv e) (by have := un_le (n + m) A; omega)
  refine ⟨fun u hu => ?_, fun u hu => ?_, ?_, fun a ha hr => ?_, fun b hb hr => ?_⟩
  · obtain ⟨a, ha, rfl⟩ := List.mem_map.mp hu
    exact bd1 a (by have := List.mem_range.mp ha; omega)
  · obtain ⟨b, hb, rfl⟩ := List.mem_map.mp hu
    exact bd1 (n + b) (by have := List.mem_range.mp hb; omega)
  · refine List.ext_getElem (by rw [scaled_len, hl1, hl2]) fun k h1' h2' => ?_
    have hk : k < ps.length := by omega
    have hin := pa_in pw hk
    simp only [scaled, List.getElem_map, List.getElem_range]
    rw [gP _ hin.1, gW _ hin.2]
    obtain ⟨x, y, ex, ey, hxy⟩ := S.eq k hk (S.al _ hin.1)
    have ex : A (pa ps k).1 = some x := ex
    have ey : A (n + (pa ps k).2) = some y := ey
    rw [ex, ey]
    show us1.getD k 1 * (x * y) = us2[k]
    rw [hxy]
    have e2 : us2.getD k 1 = us2[k] := by rw [List.getD_eq_getElem?_getD, List.getElem?_eq_getElem h2']; rfl
    show us1.getD k 1 * (us2.getD k 1 * (us1.getD k 1)⁻¹) = us2[k]
    rw [mc, Gp.ma, im, Gp.mo, e2]
  · rw [gP a ha, S.on a ha hr]; rfl
  · rw [gW b hb]
    cases e : A (n + b) with
    | none => rfl
    | some x =>
      obtain ⟨r, h1, h2⟩ := S.rt (n + b) (by omega) (by rw [e]; simp)
      exact absurd h2.symm (hr r (by omega))
theorem sc_same_figure : FnScope ["field", "picture", "one", "other", "first", "second", "ours", "theirs", "place", "quotients", "points", "walls", "point", "filled", "wall", "factor"] ["field", "picture", "one", "other"] (defScope s_same_figure) := ⟨rfl, rfl, rfl, by decide +kernel, rfl, by decide +kernel, by decide +kernel⟩
def S_same_figure (K : PySem.W.Frag) (F : Fk) : SgX := fun vs G O R RX => O = [] ∧ ∃ (n m : Nat) (ps : List (Nat × Nat)) (vf vp v1 v2 : V) (d1 d2 : PyData), vs = [vf, vp, v1, v2] ∧ FldOk K F G vf ∧ PicOk K n m ps G vp ∧ Da G [] v1 d1 ∧ Da G [] v2 d2 ∧ (∀ us, rowD F d1 us → allBd F 16 us) ∧ (∀ us, rowD F d2 us → allBd F 16 us) ∧
  R = (fun v G' O' => O' = [] ∧ ∃ us1 us2 : List F.U, rowD F d1 us1 ∧ rowD F d2 us2 ∧ us1.length = ps.length ∧ us2.length = ps.length ∧ (FigU K F n m ps us1 us2 G' v ∨ FigF K F n m ps us1 us2 G' v)) ∧ RX = RXT K ((fpl F d1 ps.length).or (fpl F d2 ps.length))
theorem calX_same_figure (T : Txt K mg) (F : Fk) : CalX P w K mg base 8 "same_figure" (FnX (S_same_figure K F)) := by
  refine calX_by T.d_same_figure sc_same_figure (fun vs G O R RX h => ?_) (fun f cdv A outer s H vs G O R RX E hr h => ?_)
  · obtain ⟨_, _, _, _, _, _, _, _, _, _, rfl, _⟩ := h; rfl
  · obtain ⟨rfl, n, m, ps, vf, vp, v1, v2, d1, d2, rfl, hf, hp, hd1, hd2, hb1, hb2, rfl, rfl⟩ := h
    refine ⟨_, (pss_cons (ps_set (i := 4) sc_same_figure.nd rfl (Or.inr rfl) (pe_cX (calX_check_table T F) hr (by omega) rfl (takes_of rfl rfl rfl rfl) (pa_cons (pv 0) (pa_cons (pv 1) (pa_cons (pv 2) pa_nil)))))
    (pss_cons (ps_set (i := 5) sc_same_figure.nd rfl (Or.inr rfl) (pe_cX (calX_check_table T F) hr (by omega) rfl (takes_of rfl rfl rfl rfl) (pa_cons (pv 0) (pa_cons (pv 1) (pa_cons (pv 3) pa_nil)))))
    (pss_cons (ps_set (i := 6) sc_same_figure.nd rfl (Or.inl rfl) (pe_cX (calX_basis_worths T F) hr (by omega) rfl (takes_of rfl rfl rfl rfl) (pa_cons (pv 0) (pa_cons (pv 1) (pa_cons (pv 4) pa_nil)))))
    (pss_cons (ps_set (i := 7) sc_same_figure.nd rfl (Or.inl rfl) (pe_cX (calX_basis_worths T F) hr (by omega) rfl (takes_of rfl rfl rfl rfl) (pa_cons (pv 0) (pa_cons (pv 1) (pa_cons (pv 5) pa_nil)))))
    (pss_cons (ps_for (passes_of rfl) rfl (pi_range1 rfl T.b_range (pa_cons (pe_callB (lenK K rfl) rfl T.b_len PySem.boot_len (pa_cons (pv 6) pa_nil)) pa_nil)) (pg_name (i := 8) sc_same_figure.nd rfl (Or.inl rfl))
      (pss_one (ps_if (pt_cmpR (neDK K rfl hr.units) (pe_ix (ixK K rfl) (pv 6) (pv 8) (fun _ _ => rfl)) (pe_ix (ixK K rfl) (pv 7) (pv 8) (fun _ _ => rfl)) (nomark _))
        (pss_one (ps_ret (C8.pe_mk (mak_Unlike T) hr (by omega) rfl (pa_cons (pv 8) (pa_cons (pe_ix (ixK K rfl) (pv 6) (pv 8) (fun _ _ => rfl)) (pa_cons (pe_ix (ixK K rfl) (pv 7) (pv 8) (fun _ _ => rfl)) pa_nil))))))
        pss_nil)))
    (pss_cons (ps_setLc (i := 9) (own := [("place", 8)]) rfl sc_same_figure.nd rfl rfl (sw_true rfl rfl rfl (by decide +kernel)) (pi_range1 rfl T.b_range (pa_cons (pe_callB (lenK K rfl) rfl T.b_len PySem.boot_len (pa_cons (pv 4) pa_nil)) pa_nil)) (blkOk_by (N := ["field", "picture", "one", "other", "first", "second", "ours", "theirs", "place", "quotients", "points", "walls", "point", "filled", "wall", "factor"]) (sc := defScope s_same_figure) (by decide +kernel)) (fun _ _ _ _ _ => (pg_name (i := 8) sc_same_figure.nd rfl (Or.inl rfl))) (fun _ _ _ _ _ => pts_nil) (fun _ _ _ _ _ => (C8.pe_mt (met_quot T F) hr (by omega) (pv 0) (pa_cons (pe_ix (ixK K rfl) (pv 5) (pv 8) (fun _ _ => rfl)) (pa_cons (pe_ix (ixK K rfl) (pv 4) (pv 8) (fun _ _ => rfl)) pa_nil)))))
    (pss_cons (ps_setLc (i := 10) (own := [("point", 12)]) rfl sc_same_figure.nd rfl rfl (sw_true rfl rfl rfl (by decide +kernel)) (pi_range1 rfl T.b_range (pa_cons (pe_fldK K rfl (pv 1) rfl) pa_nil)) (blkOk_by (N := ["field", "picture", "one", "other", "first", "second", "ours", "theirs", "place", "quotients", "points", "walls", "point", "filled", "wall", "factor"]) (sc := defScope s_same_figure) (by decide +kernel)) (fun _ _ _ _ _ => (pg_name (i := 12) sc_same_figure.nd rfl (Or.inl rfl))) (fun _ _ _ _ _ => pts_nil) (fun _ _ _ _ _ => pe_non))
    (pss_cons (ps_setLc (i := 11) (own := [("wall", 14)]) rfl sc_same_figure.nd rfl rfl (sw_true rfl rfl rfl (by decide +kernel)) (pi_range1 rfl T.b_range (pa_cons (pe_fldK K rfl (pv 1) rfl) pa_nil)) (blkOk_by (N := ["field", "picture", "one", "other", "first", "second", "ours", "theirs", "place", "quotients", "points", "walls", "point", "filled", "wall", "factor"]) (sc := defScope s_same_figure) (by decide +kernel)) (fun _ _ _ _ _ => (pg_name (i := 14) sc_same_figure.nd rfl (Or.inl rfl))) (fun _ _ _ _ _ => pts_nil) (fun _ _ _ _ _ => pe_non))
    (pss_cons (ps_for (passes_of rfl) rfl (pi_range1 rfl T.b_range (pa_cons (pe_fldK K rfl (pv 1) rfl) pa_nil)) (pg_name (i := 12) sc_same_figure.nd rfl (Or.inl rfl))
      (pss_one (ps_if (pt_cmpR op_isNone (pe_ix (ixK K rfl) (pv 10) (pv 12) (fun _ _ => rfl)) pe_non (nomark _))
        (pss_cons (ps_asg (pe_fldK K rfl (pv 0) rfl) (pg_sub (pv 10) (pv 12) set_list))
        (pss_one (ps_expr (C8.pe_c (cal_spread_factors T F) hr (by omega) rfl (pa_cons (pv 0) (pa_cons (pv 1) (pa_cons (pv 9) (pa_cons (pv 10) (pa_cons (pv 11) pa_nil)))))))))
        pss_nil)))
    (pss_cons (ps_setLc (i := 13) (own := [("factor", 15)]) rfl sc_same_figure.nd rfl rfl (sw_true rfl rfl rfl (by decide +kernel)) (pi_listK K rfl (pv 11)) (blkOk_by (N := ["field", "picture", "one", "other", "first", "second", "ours", "theirs", "place", "quotients", "points", "walls", "point", "filled", "wall", "factor"]) (sc := defScope s_same_figure) (by decide +kernel)) (fun _ _ _ _ _ => (pg_name (i := 15) sc_same_figure.nd rfl (Or.inl rfl))) (fun _ _ _ _ _ => pts_nil) (fun _ _ _ _ _ => (pe_ifExp (pt_cmpR op_isNone (pv 15) pe_non (nomark _)) (pe_fldK K rfl (pv 0) rfl) (pv 15))))
    (pss_one (ps_ret (C8.pe_mk (mak_Factors T) hr (by omega) rfl (pa_cons (pe_callTy (tupleK K rfl) rfl T.b_tuple PyProof.Rows.boot_tuple (pa_cons (pv 10) pa_nil)) (pa_cons (pe_callTy (tupleK K rfl) rfl T.b_tuple PyProof.Rows.boot_tuple (pa_cons (pv 13) pa_nil)) pa_nil))))))))))))))), ?_⟩
    show WSx _ _ _ [some (vf), some (vp), some (v1), some (v2), none, none, none, none, none, none, none, none, none, none, none, none] _ _ _
    have pw := hp.1
    have l25 := pw.len
    have n5 := pw.n5
    have m5 := pw.m5
    have ol := oth_len (n := n) (m := m) (ps := ps)
    refine wsx_seq (wsx_set (wx_callX rfl (wx_of ?_)))
    walk_at "go"
    refine ⟨_, _, ⟨rfl, n, m, ps, vf, vp, v1, d1, rfl, hf, hp, hd1, rfl, rfl⟩, fun va G1 A1 e1 ⟨hA, us1, hrow1, hul1, hva⟩ => ?_, fun c dd G2 A2 e2 ⟨hA, i, a, hi, z⟩ => ⟨by rw [hA]; rfl, i, a, by rw [hi]; rfl, z⟩⟩
    subst hA
    refine wsx_seq (wsx_set (wx_callX rfl (wx_of ?_)))
    walk_at "go"
    have hfn1 := fpl_row hrow1 hul1
    refine ⟨_, _, ⟨rfl, n, m, ps, vf, vp, v2, d2, rfl, fld_up e1 hf, pic_up e1 hp, Da.up e1 hd2, rfl, rfl⟩, fun vb G2 A2 e2 ⟨hA, us2, hrow2, hul2, hvb⟩ => ?_, fun c dd G2 A2 e2 ⟨hA, i, a, hi, z⟩ => ⟨by rw [hA]; rfl, i, a, by rw [hfn1]; exact hi, z⟩⟩
    subst hA
    have hf2 := fld_up (e1.trans e2) hf
    have hp2 := pic_up (e1.trans e2) hp
    have hva2 := Da.up e2 hva
    have bu1 := hb1 us1 hrow1
    have bu2 := hb2 us2 hrow2
    have rt1 : rowD F (.tuple (us1.map F.dat)) us1 := rfl
    have rt2 : rowD F (.tuple (us2.map F.dat)) us2 := rfl
    refine wsx_seq (wsx_set (wx_callX rfl (wx_of ?_)))
    walk_at "go"
    refine ⟨_, _, ⟨rfl, n, m, ps, vf, vp, va, _, rfl, hf2, hp2, hva2, fun us h => by rw [row_inj h rt1]; exact bu1, rfl, rfl⟩, fun vo G3 A3 e3 ⟨hA, us, hrow, hul, hvo⟩ => ?_, fun c dd G2 A2 e2 ⟨hA, i, a, hi, z⟩ => by rw [fpl_row rt1 hul1] at hi; cases hi⟩
    subst hA
    obtain rfl := row_inj hrow rt1
    refine wsx_seq (wsx_set (wx_callX rfl (wx_of ?_)))
    walk_at "go"
    refine ⟨_, _, ⟨rfl, n, m, ps, vf, vp, vb, _, rfl, fld_up e3 hf2, pic_up e3 hp2, Da.up e3 hvb, fun us h => by rw [row_inj h rt2]; exact bu2, rfl, rfl⟩, fun vh G4 A4 e4 ⟨hA, us', hrow', hul', hvt⟩ => ?_, fun c dd G2 A2 e2 ⟨hA, i, a, hi, z⟩ => by rw [fpl_row rt2 hul2] at hi; cases hi⟩
    subst hA
    obtain rfl := row_inj hrow' rt2
    rename_i us2' 
    have hf4 := fld_up (e3.trans e4) hf2
    have hp4 := pic_up (e3.trans e4) hp2
    have hva4 := Da.up (e3.trans e4) hva2
    have hvb4 := Da.up (e3.trans e4) hvb
    have hvo4 := Da.up e4 hvo
    have us1 := us
    clear us1
    have wl : ∀ x : List F.U, (worths n m ps x).length = (oth n m ps).length := fun x => by simp [worths]
    refine wsx_of ?_
    show WS _ _ _ [] _
    refine ws_seq ?_
    refine ws_for (i_range1 ?_)
    walk_at "go"
    refine r_lenD (.inr hvo4) ?_
    rw [List.length_map, wl]
    walk_at "go"
    refine ⟨by omega, by omega, _, _, wk_range0, fun i σ G' O' => ∃ u1 : Option V, σ = [some vf, some vp, some v1, some v2, some va, some vb, some vo, some vh, u1, none, none, none, none, none, none, none] ∧ O' = [] ∧ ∀ j, j < i → (worths n m ps us).getD j 1 = (worths n m ps us').getD j 1, ⟨_, rfl, rfl, fun j hj => by omega⟩, ?_, ?_⟩
    · rintro i x σ' G' O' hi e5 ⟨u1, rfl, rfl, hj⟩ G5 e6 rfl
      have hi : i < (oth n m ps).length := by omega
      have hvo5 := Da.up (e5.trans e6) hvo4
      have hvt5 := Da.up (e5.trans e6) hvt
      refine g_name ?_
      walk_at "go"
      refine r_atD (j := i) (.inr hvo5) (ro_get (by rw [wl]; exact hi)) rfl fun x hx => ?_
      walk_at "go"
      refine r_atD (j := i) (.inr hvt5) (ro_get (by rw [wl]; exact hi)) rfl fun y hy => ?_
      refine r_neN hx hy ?_
      walk_at "go"
      walk_at "if"
      · intro hne
        refine ws_ret (w_mkUnl ?_)
        walk_at "go"
        refine r_atD (j := i) (.inr hvo5) (ro_get (by rw [wl]; exact hi)) rfl fun x hx => ?_
        walk_at "go"
        refine r_atD (j := i) (.inr hvt5) (ro_get (by rw [wl]; exact hi)) rfl fun y hy => ?_
        walk_at "go"
        refine ⟨_, _, _, rfl, fun v G6 e7 hv => ⟨rfl, us, us', hrow1, hrow2, hul1, hul2, .inl ⟨i, x, y, hi, hne, hj, hv, nu_up e7 hx, nu_up e7 hy⟩⟩⟩
      · intro heq
        walk_at "go"
        refine ⟨_, rfl, rfl, fun j hlt => ?_⟩
        by_cases e : j = i
        · subst e; exact heq
        · exact hj j (by omega)
    rintro σ' G5 O' e5 ⟨u1, rfl, rfl, hj⟩
    rw [Int.toNat_natCast] at hj
    have hww : worths n m ps us = worths n m ps us' := List.ext_getElem (by rw [wl, wl]) fun k h1 h2 => by
      have := hj k (by rw [wl] at h1; exact h1)
      rw [List.getD_eq_getElem?_getD, List.getD_eq_getElem?_getD, List.getElem?_eq_getElem h1, List.getElem?_eq_getElem h2] at this
      exact this
    obtain ⟨g, hg⟩ := factors_ex pw us us' fun i hi => by have := hj i hi; rw [worths_get hi, worths_get hi, hul1, hul2] at this; exact this
    have hf5 := fld_up e5 hf4
    have hp5 := pic_up e5 hp4
    have hva5 := Da.up e5 hva4
    have hvb5 := Da.up e5 hvb4
    -- the quotients
    let qs : List F.U := (List.range ps.length).map fun k => us'.getD k 1 * (us.getD k 1)⁻¹
    have hql : qs.length = ps.length := by simp [qs]
    have hqg : ∀ k, k < ps.length → qs.getD k 1 = us'.getD k 1 * (us.getD k 1)⁻¹ := fun k hk => by
      show ((List.range ps.length).map _).getD k 1 = _
      rw [List.getD_eq_getElem?_getD, List.getElem?_map, List.getElem?_range hk]; rfl
    have hqb : allBd F 32 qs := fun u hu => by
      obtain ⟨k, hk, rfl⟩ := List.mem_map.mp hu
      exact Fk.bd_mul (m := 16) (n := 16) (bu2.get k) (Fk.bd_inv (bu1.get k))
    refine ws_seq (ws_set (w_lcRm ?_))
    walk_at "go"
    refine r_lenD (.inr hva5) ?_
    rw [List.length_map, hul1]
    walk_at "go"
    refine ⟨ps.length, rfl, by omega, fun k => F.dat (us'.getD k 1 * (us.getD k 1)⁻¹), fun k G6 hk e6 => ⟨rfl, w_quot (w_var rfl ⟨fld_up e6 hf5, ?_⟩)⟩, fun p G6 e6 hq => ?_⟩
    · walk_at "go"
      refine r_atD (j := k) (.inr (Da.up e6 hvb5)) (ro_get (by omega)) rfl fun x hx => ?_
      walk_at "go"
      refine r_atD (j := k) (.inr (Da.up e6 hva5)) (ro_get (by omega)) rfl fun y hy => ?_
      walk_at "go"
      exact f_p ⟨_, _, _, _, _, rfl, fld_up e6 hf5, hx, hy, Fk.bd_mono (bu2.get k) (by decide), Fk.bd_mono (bu1.get k) (by decide), rfl⟩ fun v3 G7 e7 hv3 => ⟨rfl, hv3⟩
    have hq : Ro F G6 (.ref p) qs := .inl (by rw [show qs.map F.dat = (List.range ps.length).map fun k => F.dat (us'.getD k 1 * (us.getD k 1)⁻¹) by simp [qs, List.map_map, Function.comp_def]]; exact hq)
    have hf6 := fld_up e6 hf5
    have hp6 := pic_up e6 hp5
    have n0 : ∀ (off k : Nat) (G : Hp), PtL F G k off (fun _ => none) (List.replicate k .non) := fun off k G => ⟨List.length_replicate .., fun i hi => ⟨.non, by rw [List.getElem?_replicate, if_pos hi], rfl⟩⟩
    refine ws_seq (ws_set (w_lc (i_range1 ?_)))
    walk_at "go"
    refine r_picP T (w_var rfl ⟨hp6, ?_⟩)
    walk_at "go"
    refine ⟨by omega, by omega, _, _, by omega, wk_range0, fun i acc G' O' => O' = [] ∧ acc = List.replicate i .non, ⟨rfl, rfl⟩, ?_, ?_⟩
    · rintro i x acc G' O' hi e ⟨rfl, rfl⟩ G2 e2 hx
      refine g_name ⟨rfl, t_yes ⟨fun _ => ?_, fun z => by cases z⟩⟩
      walk_at "go"
      exact ⟨rfl, (List.replicate_succ' ..).symm⟩
    rintro acc pad G7 O' _ e7 ⟨rfl, rfl⟩
    have hf7 := fld_up e7 hf6
    have hp7 := pic_up e7 hp6
    have hq7 := ro_up e7 hq
    show WS _ _ _ [(pad, .lst (List.replicate n .non))] _
    refine ws_seq (ws_set (w_lc (i_range1 ?_)))
    walk_at "go"
    refine r_picW T (w_var rfl ⟨hp7, ?_⟩)
    walk_at "go"
    refine ⟨by omega, by omega, _, _, by omega, wk_range0, fun i acc G' O' => O' = [(pad, .lst (List.replicate n .non))] ∧ acc = List.replicate i .non, ⟨rfl, rfl⟩, ?_, ?_⟩
    · rintro i x acc G' O' hi e ⟨rfl, rfl⟩ G2 e2 hx
      refine g_name ⟨rfl, t_yes ⟨fun _ => ?_, fun z => by cases z⟩⟩
      walk_at "go"
      exact ⟨rfl, (List.replicate_succ' ..).symm⟩
    rintro acc wad G8 O' _ e8 ⟨rfl, rfl⟩
    have hf8 := fld_up e8 hf7
    have hp8 := pic_up e8 hp7
    have hq8 := ro_up e8 hq7
    show WS _ _ _ [(pad, .lst (List.replicate n .non)), (wad, .lst (List.replicate m .non))] _
    let q : Nat → F.U := fun k => qs.getD k 1
    have hmu : ∀ k, k < ps.length → mu n m ps (vt n ps k 0) = mu n m ps (vt n ps k 1) := fun k hk => mk_pairs pw ps.length (Nat.le_refl _) k hk
    have hqg2 : ∀ k, k < ps.length → qs.getD k 1 = g (vt n ps k 0) * g (vt n ps k 1) := fun k hk => by rw [hqg k hk, hg k hk]
    refine ws_seq ?_
    refine ws_for (i_range1 ?_)
    walk_at "go"
    refine r_picP T (w_var rfl ⟨hp8, ?_⟩)
    walk_at "go"
    refine ⟨by omega, by omega, _, _, wk_range0, fun i σ G' O' => ∃ (u1 u2 : Option V) (xs ys : List V) (h0 : F.U) (A : Nat → Option F.U), σ = [some vf, some vp, some v1, some v2, some va, some vb, some vo, some vh, u1, some (.ref p), some (.ref pad), some (.ref wad), u2, none, none, none] ∧ O' = [(pad, .lst xs), (wad, .lst ys)] ∧ PtL F G' n 0 A xs ∧ PtL F G' m n A ys ∧ SI F n m ps (fun k => qs.getD k 1) g (mu n m ps) i (fun v => A v ≠ none) h0 A, ⟨_, _, _, _, 1, fun _ => none, rfl, rfl, n0 0 n _, n0 n m _, ?_⟩, ?_, ?_⟩
    · have e0 : (fun v : Nat => (fun _ : Nat => (none : Option F.U)) v ≠ none) = fun _ => False := funext fun v => propext ⟨fun z => z rfl, False.elim⟩
      exact e0 ▸ SI.start (F := F) (q := fun k => qs.getD k 1) (g := g) (mu := mu n m ps) (h0 := 1) pw
    · rintro i x σ' G' O' hi e9 ⟨u1, u2, xs, ys, h0, A, rfl, rfl, hxs, hys, hS⟩ G9 e10 rfl
      have hi : i < n := by omega
      have hf9 := fld_up (e9.trans e10) hf8
      have hp9 := pic_up (e9.trans e10) hp8
      have hq9 := ro_up (e9.trans e10) hq8
      have hxs := ptl_up e10 hxs
      have hys := ptl_up e10 hys
      obtain ⟨x0, hx0, hd0⟩ := hxs.2 _ hi
      rw [Nat.zero_add] at hd0
      refine g_name ?_
      walk_at "go"
      refine r_own 0 rfl (atI_nat hx0) ?_
      walk_at "go"
      cases hA : A i with
      | none =>
        rw [hA] at hd0
        obtain rfl : x0 = .non := hd0
        refine ⟨fun _ => ?_, fun z => by simp at z⟩
        refine ws_seq (ws_asg (r_one T (w_var rfl ⟨hf9, fun vo1 hvo1 => ?_⟩)))
        refine g_sub 0 ?_
        walk_at "go"
        refine ⟨_, _, _, _, rfl, rfl, rfl, ixN_nat (by rw [hxs.1]; exact hi), ?_⟩
        walk_at "go"
        have hset := ptl_set hxs hi hvo1
        rw [Nat.zero_add] at hset
        refine f_all ⟨n, m, ps, vf, vp, .ref p, pad, wad, _, _, qs, g, mu n m ps, i + 1, _, (g i)⁻¹, ua A i 1, rfl, rfl, hf9, hp9, hq9, hql, hqg2, hqb, hmu, hS.open_ hi hA, hset, ptl_other hys (fun j hj => by omega), rfl⟩ fun v G11 A2 e11 ⟨xs', ys', A', hA2, hxs', hys', hS', hsat⟩ => ?_
        exact ⟨_, _, xs', ys', 1, A', rfl, hA2, hxs', hys', hS'.close pw hqg2 hsat 1⟩
      | some y =>
        rw [hA] at hd0
        rw [decide_eq_false (nu_ne hd0)]
        refine ⟨fun z => (by cases z), fun _ => ?_⟩
        walk_at "go"
        exact ⟨_, _, xs, ys, h0, A, rfl, rfl, hxs, hys, hS.next hi (by rw [hA]; simp)⟩
    · rintro σ' G9 O' e9 ⟨u1, u2, xs, ys, h0, A, rfl, rfl, hxs, hys, hS⟩
      rw [Int.toNat_natCast] at hS
      have hf9 := fld_up e9 hf8
      have hS2 : SI F n m ps (fun k => us'.getD k 1 * (us.getD k 1)⁻¹) g (mu n m ps) n (fun v => A v ≠ none) h0 A :=
        ⟨hS.ds, hS.sat, fun k hk hd => by obtain ⟨x, y, a, b, c⟩ := hS.eq k hk hd; exact ⟨x, y, a, b, c.trans (hqg k hk)⟩, hS.nw0, hS.nw1, hS.bd, hS.rt, hS.on, hS.al⟩
      obtain ⟨q1, q2, q3, q4, q5⟩ := si_end pw hul1 hul2 hS2
      refine ws_freeze 1 rfl fun G10 e10 hw => ?_
      show WS _ _ _ [(pad, .lst xs)] _
      have hxs := ptl_up e10 hxs
      have hys := ptl_up e10 hys
      have hf10 := fld_up e10 hf9
      refine ws_seq (ws_set (w_lc (i_list ?_)))
      walk_at "go"
      refine ⟨wad, ys, rfl, .inl hw, _, _, by rw [hys.1]; omega, wk_list hw, fun i acc G' O' => O' = [(pad, .lst xs)] ∧ DaAll G' [] acc ((List.range i).map fun b => F.dat ((A (n + b)).getD 1)), ⟨rfl, .nil⟩, ?_, ?_⟩
      · rintro i x acc G' O' hi e ⟨rfl, hacc⟩ G2 e2 hx
        refine g_name ⟨rfl, t_yes ⟨fun _ => ?_, fun z => by cases z⟩⟩
        obtain ⟨y, hy, hd⟩ := (ptl_up (e.trans e2) hys).2 i (by rw [← hys.1]; exact hi)
        rw [hx] at hy
        cases hy
        have st : ∀ {v : V} {G3 : Hp} {O3 : OL}, Ex G2 G3 → O3 = [(pad, .lst xs)] → Nu F G3 v ((A (n + i)).getD 1) → O3 = [(pad, .lst xs)] ∧ DaAll G3 [] (acc ++ [v]) ((List.range (i + 1)).map fun b => F.dat ((A (n + b)).getD 1)) := fun {v G3 O3} e3 hO hv => ⟨hO, by
          rw [List.range_succ, List.map_append]
          exact daAll_snoc (DaAll.up (e2.trans e3) hacc) hv⟩
        walk_at "go"
        cases hA : A (n + i) with
        | none =>
          rw [hA] at hd
          obtain rfl : x = .non := hd
          refine ⟨fun _ => ?_, fun z => by simp at z⟩
          exact r_one T (w_var rfl ⟨fld_up (e.trans e2) hf10, fun vo1 hvo1 => st (.refl _) rfl (by rw [hA]; exact hvo1)⟩)
        | some y =>
          rw [hA] at hd
          rw [decide_eq_false (nu_ne hd)]
          refine ⟨fun z => (by cases z), fun _ => ?_⟩
          walk_at "go"
          exact st (.refl _) rfl (by rw [hA]; exact hd)
      · rintro acc fad G' O' hl e ⟨rfl, hacc⟩
        rw [hys.1] at hacc
        have hpts : DaAll G' [] xs ((List.range n).map fun a => F.dat ((A a).getD 1)) := by
          have hxs := ptl_up e hxs
          refine daAll_mk (by rw [hxs.1, List.length_map, List.length_range]) fun i x d h1 h2 => ?_
          have hi : i < n := by rw [← hxs.1]; exact (List.getElem?_eq_some_iff.mp h1).1
          obtain ⟨y, hy, hd⟩ := hxs.2 i hi
          rw [h1] at hy
          cases hy
          rw [List.getElem?_map, List.getElem?_range hi] at h2
          cases h2
          rw [Nat.zero_add] at hd
          obtain ⟨z, hz⟩ := Option.ne_none_iff_exists'.mp (hS.al i hi)
          rw [hz] at hd
          show Da G' [] x (F.dat ((A i).getD 1))
          rw [hz]
          exact hd
        refine ws_frzD 0 rfl hpts fun G2 e2 hp0 => ?_
        show WS _ _ _ [(fad, .lst acc)] _
        refine ws_frzD 0 rfl (DaAll.up e2 hacc) fun G3 e3 hw0 => ?_
        refine ws_ret (w_mkFac ?_)
        walk_at "go"
        refine r_tupleD (.inl (Da.up e3 hp0)) fun x G4 e4 hx => ?_
        walk_at "go"
        refine r_tupleD (.inl (Da.up e4 hw0)) fun y G5 e5 hy => ?_
        walk_at "go"
        refine ⟨_, _, rfl, fun v G6 e6 hv => ⟨rfl, us, us', hrow1, hrow2, hul1, hul2, .inr ⟨hww, _, _, x, y, hv, ?_, ?_, by simp, by simp, q1, q2, q3, q4, q5⟩⟩⟩
        · rw [List.map_map]; exact Da.up (e5.trans e6) hx
        · rw [List.map_map]; exact Da.up e6 hy
end
/-! text S7 -/
noncomputable def whF (F : Fk) (n m : Nat) (dP dW : PyData) : Option Str := if fpl F dP n ≠ none then some "points" else if fpl F dW m ≠ none then some "walls" else none
theorem whF_row {F : Fk} {n m : Nat} {dP dW : PyData} {Pt Wt : List F.U} (h1 : rowD F dP Pt) (l1 : Pt.length = n) (h2 : rowD F dW Wt) (l2 : Wt.length = m) : whF F n m dP dW = none := by
  rw [whF, fpl_row h1 l1, fpl_row h2 l2]; rfl
section
variable {P : Program} {w : World} {K : PySem.W.Frag} {mg : Str → Option Value} {base : Heap}
/-- a BadFactors -/
def RXF (K : PySem.W.Frag) (o : Option Str) : RXt := fun c dd G' O' => O' = [] ∧ ∃ wh i a, o = some wh ∧ c = .ref (ga K "BadFactors") ∧ dd = some a ∧ G' a = some (.xd [("index", .int i), ("what", .str wh)])
theorem sc_scaled_table : FnScope ["field", "picture", "table", "point_factors", "wall_factors", "numbers", "index", "out", "place", "point", "wall"] ["field", "picture", "table", "point_factors", "wall_factors"] (defScope s_scaled_table) := ⟨rfl, rfl, rfl, by decide +kernel, rfl, by decide +kernel, by decide +kernel⟩
def S_scaled_table (K : PySem.W.Frag) (F : Fk) : SgX := fun vs G O R RX => O = [] ∧ ∃ (n m : Nat) (ps : List (Nat × Nat)) (vf vp vt vP vW : V) (us : List F.U) (dP dW : PyData), vs = [vf, vp, vt, vP, vW] ∧ FldOk K F G vf ∧ PicOk K n m ps G vp ∧ Da G [] vt (.tuple (us.map F.dat)) ∧ us.length = ps.length ∧ allBd F 16 us ∧ Da G [] vP dP ∧ Da G [] vW dW ∧ (∀ Pt, rowD F dP Pt → allBd F 400 Pt) ∧ (∀ Wt, rowD F dW Wt → allBd F 400 Wt) ∧
  R = (fun v G' O' => O' = [] ∧ ∃ Pt Wt : List F.U, rowD F dP Pt ∧ Pt.length = n ∧ rowD F dW Wt ∧ Wt.length = m ∧ Da G' [] v (.tuple ((scaled ps us Pt Wt).map F.dat))) ∧ RX = RXF K (whF F n m dP dW)
theorem calX_scaled_table (T : Txt K mg) (F : Fk) : CalX P w K mg base 7 "scaled_table" (FnX (S_scaled_table K F)) := by
  refine calX_by T.d_scaled_table sc_scaled_table (fun vs G O R RX h => ?_) (fun f cdv A outer s H vs G O R RX E hr h => ?_)
  · obtain ⟨_, _, _, _, _, _, _, _, _, _, _, _, rfl, _⟩ := h; rfl
  · obtain ⟨rfl, n, m, ps, vf, vp, vt, vP, vW, us, dP, dW, rfl, hf, hp, hvt, hul, bu, hdP, hdW, bP, bW, rfl, rfl⟩ := h
    refine ⟨_, (pss_cons (ps_set (i := 5) sc_scaled_table.nd rfl (Or.inl rfl) (pe_cX (calX_check_table T F) hr (by omega) rfl (takes_of rfl rfl rfl rfl) (pa_cons (pv 0) (pa_cons (pv 1) (pa_cons (pv 2) pa_nil)))))
    (pss_cons (ps_set (i := 6) sc_scaled_table.nd rfl (Or.inl rfl) (C8.pe_c (cal_factors_place T F) hr (by omega) rfl (pa_cons (pv 0) (pa_cons (pv 3) (pa_cons (pe_fldK K rfl (pv 1) rfl) pa_nil)))))
    (pss_cons (ps_if (pt_cmpR op_notNone (pv 6) pe_non (nomark _))
      (pss_one (ps_raiseF T hr (by omega) rfl (pa_cons pe_str (pa_cons (pv 6) pa_nil))))
      pss_nil)
    (pss_cons (ps_set (i := 6) sc_scaled_table.nd rfl (Or.inl rfl) (C8.pe_c (cal_factors_place T F) hr (by omega) rfl (pa_cons (pv 0) (pa_cons (pv 4) (pa_cons (pe_fldK K rfl (pv 1) rfl) pa_nil)))))
    (pss_cons (ps_if (pt_cmpR op_notNone (pv 6) pe_non (nomark _))
      (pss_one (ps_raiseF T hr (by omega) rfl (pa_cons pe_str (pa_cons (pv 6) pa_nil))))
      pss_nil)
    (pss_cons (ps_set (i := 7) sc_scaled_table.nd rfl (Or.inl rfl) (pe_lst pa_nil))
    (pss_cons (ps_for (passes_of rfl) rfl (pi_range1 rfl T.b_range (pa_cons (pe_callB (lenK K rfl) rfl T.b_len PySem.boot_len (pa_cons (pv 5) pa_nil)) pa_nil)) (pg_name (i := 8) sc_scaled_table.nd rfl (Or.inl rfl))
      (pss_cons (ps_asg (pe_ix (ixK K rfl) (pe_fldK K rfl (pv 1) rfl) (pv 8) (fun _ _ => rfl)) (pg_tupK K rfl (n := 2) rfl (pgs_cons (pg_name (i := 9) sc_scaled_table.nd rfl (Or.inl rfl)) (pgs_cons (pg_name (i := 10) sc_scaled_table.nd rfl (Or.inl rfl)) pgs_nil))))
      (pss_one (ps_expr (pe_bm PySem.F.plainAttrs_list PySem.F.slot_list_append PySem.F.type_list_append mt_append (pv 7) (pa_cons (C8.pe_mt (met_times T F) hr (by omega) (pv 0) (pa_cons (pe_ix (ixK K rfl) (pv 5) (pv 8) (fun _ _ => rfl)) (pa_cons (C8.pe_mt (met_times T F) hr (by omega) (pv 0) (pa_cons (pe_ix (ixK K rfl) (pv 3) (pv 9) (fun _ _ => rfl)) (pa_cons (pe_ix (ixK K rfl) (pv 4) (pv 10) (fun _ _ => rfl)) pa_nil))) pa_nil))) pa_nil))))))
    (pss_one (ps_ret (pe_callTy (tupleK K rfl) rfl T.b_tuple PyProof.Rows.boot_tuple (pa_cons (pv 7) pa_nil))))))))))), ?_⟩
    show WSx _ _ _ [some (vf), some (vp), some (vt), some (vP), some (vW), none, none, none, none, none, none] _ _ _
    have pw := hp.1
    have l25 := pw.len
    have n5 := pw.n5
    have m5 := pw.m5
    have rt1 : rowD F (.tuple (us.map F.dat)) us := rfl
    refine wsx_seq (wsx_set (wx_callX rfl (wx_of ?_)))
    walk_at "go"
    refine ⟨_, _, ⟨rfl, n, m, ps, vf, vp, vt, _, rfl, hf, hp, hvt, rfl, rfl⟩, fun va G1 A1 e1 ⟨hA, us1, hrow1, hul1, hva⟩ => ?_, fun c dd G2 A2 e2 ⟨hA, i, a, hi, z⟩ => by rw [fpl_row rt1 hul] at hi; cases hi⟩
    obtain rfl := row_inj hrow1 rt1
    subst hA
    have hf1 := fld_up e1 hf
    have hp1 := pic_up e1 hp
    refine wsx_seq (wsx_set (wx_of ?_))
    walk_at "go"
    refine r_picP T (w_var rfl ⟨hp1, ?_⟩)
    walk_at "go"
    refine f_p ⟨vf, vP, dP, n, rfl, hf1, Da.up e1 hdP, by omega, rfl⟩ fun v G2 e2 hv => ?_
    subst hv
    cases hfp : fpl F dP n with
    | some i =>
      refine wsx_seq (wsx_if ?_)
      show W _ _ _ _
      walk_at "go"
      refine ⟨fun _ => ?_, fun z => by simp [opV] at z⟩
      refine wsx_raiseO ?_
      refine w_cons (w_c (w_cons (w_var rfl (w_nil ⟨by simp, _, ⟨"points", i, rfl, by decide +kernel, fpl_ix (by omega) hfp, rfl⟩, fun dd G3 e3 hdd => ⟨rfl, "points", i, dd, ?_, rfl, rfl, hdd⟩⟩))))
      unfold whF; rw [hfp]; rfl
    | none =>
    obtain ⟨Pt, hrowP, hPl⟩ := row_fpl hfp
    refine wsx_seq (wsx_if ?_)
    walk_at "go"
    refine ⟨fun z => by simp [opV] at z, fun _ => wsx_nx ?_⟩
    have hf2 := fld_up e2 hf1
    have hp2 := pic_up e2 hp1
    refine wsx_seq (wsx_set (wx_of ?_))
    walk_at "go"
    refine r_picW T (w_var rfl ⟨hp2, ?_⟩)
    walk_at "go"
    refine f_p ⟨vf, vW, dW, m, rfl, hf2, Da.up (e1.trans e2) hdW, by omega, rfl⟩ fun v G3 e3 hv => ?_
    subst hv
    cases hfw : fpl F dW m with
    | some i =>
      refine wsx_seq (wsx_if ?_)
      show W _ _ _ _
      walk_at "go"
      refine ⟨fun _ => ?_, fun z => by simp [opV] at z⟩
      refine wsx_raiseO ?_
      refine w_cons (w_c (w_cons (w_var rfl (w_nil ⟨by simp, _, ⟨"walls", i, rfl, by decide +kernel, fpl_ix (by omega) hfw, rfl⟩, fun dd G3 e3 hdd => ⟨rfl, "walls", i, dd, ?_, rfl, rfl, hdd⟩⟩))))
      unfold whF; rw [hfp, hfw]; rfl
    | none =>
    obtain ⟨Wt, hrowW, hWl⟩ := row_fpl hfw
    refine wsx_seq (wsx_if ?_)
    walk_at "go"
    refine ⟨fun z => by simp [opV] at z, fun _ => wsx_nx (wsx_of ?_)⟩
    have hf3 := fld_up e3 hf2
    have hp3 := pic_up e3 hp2
    have hva := Da.up (e2.trans e3) hva
    have bP := bP Pt hrowP
    have bW := bW Wt hrowW
    have hvP : Ro F G3 vP Pt := sq_seq (Da.up ((e1.trans e2).trans e3) hdP) hrowP
    have hvW : Ro F G3 vW Wt := sq_seq (Da.up ((e1.trans e2).trans e3) hdW) hrowW
    walk_at "go"
    refine w_lst ?_
    walk_at "go"
    refine ⟨by decide, fun lp hlp => ?_⟩
    show WS _ _ _ [(lp, .lst [])] _
    refine ws_seq ?_
    refine ws_for (i_range1 ?_)
    walk_at "go"
    refine r_lenD (.inr hva) ?_
    rw [List.length_map]
    walk_at "go"
    refine ⟨by omega, by omega, _, _, wk_range0, fun i σ G' O' => ∃ (u1 u2 u3 : Option V) (xs : List V), σ = [some vf, some vp, some vt, some vP, some vW, some va, some (opV none), some (.ref lp), u1, u2, u3] ∧ O' = [(lp, .lst xs)] ∧ DaAll G' [] xs (((List.range i).map fun k => us1.getD k 1 * (Pt.getD (pa ps k).1 1 * Wt.getD (pa ps k).2 1)).map F.dat),
      ⟨_, _, _, [], rfl, rfl, .nil⟩, ?_, ?_⟩
    · rintro i x σ' G' O' hi e4 ⟨u1, u2, u3, xs, rfl, rfl, hxs⟩ G4 e5 rfl
      have hi : i < us1.length := by omega
      have hin := pa_in pw (by omega : i < ps.length)
      have hxs := DaAll.up e5 hxs
      have hlx := daAll_len hxs
      simp only [List.length_map, List.length_range] at hlx
      have ee := e4.trans e5
      have hf4 := fld_up ee hf3
      have hp4 := pic_up ee hp3
      have hva := Da.up ee hva
      have hvP := ro_up ee hvP
      have hvW := ro_up ee hvW
      refine g_name ?_
      refine ws_seq (ws_asg (w_op (r_picL T (w_var rfl ⟨hp4, fun vl hvl => ?_⟩))))
      walk_at "go"
      refine r_atD (j := i) (.inr hvl) (pa_get (by omega)) rfl fun z hz => ?_
      refine g_tupD hz rfl fun zs hzs => ?_
      obtain ⟨w1, w2, rfl, h1, h2⟩ := da2 hzs
      rw [da_int h1, da_int h2]
      refine g_cons (g_name (g_cons (g_name (g_nil ?_))))
      refine ws_drop (w_append ?_)
      walk_at "go"
      refine ⟨0, lp, xs, rfl, rfl, ?_⟩
      walk_at "go"
      refine w_times (w_var rfl ⟨hf4, ?_⟩)
      walk_at "go"
      refine r_atD (j := i) (.inr hva) (ro_get hi) rfl fun y1 hy1 => ?_
      walk_at "go"
      refine w_times (w_var rfl ⟨hf4, ?_⟩)
      walk_at "go"
      refine r_atD (j := (pa ps i).1) hvP (ro_get (by omega)) rfl fun y2 hy2 => ?_
      walk_at "go"
      refine r_atD (j := (pa ps i).2) hvW (ro_get (by omega)) rfl fun y3 hy3 => ?_
      walk_at "go"
      refine f_p ⟨_, _, _, _, _, rfl, hf4, hy2, hy3, Fk.bd_mono (bP.get _) (by decide), Fk.bd_mono (bW.get _) (by decide), rfl⟩ fun y4 G5 e6 hy4 => ?_
      walk_at "go"
      refine f_p ⟨_, _, _, _, _, rfl, fld_up e6 hf4, nu_up e6 hy1, hy4, Fk.bd_mono (bu.get _) (by decide), Fk.bd_mono (Fk.bd_mul (bP.get _) (bW.get _)) (by decide), rfl⟩ fun y5 G6 e7 hy5 => ⟨rfl, by omega, ?_⟩
      walk_at "go"
      refine ⟨_, _, _, _, rfl, rfl, ?_⟩
      rw [List.range_succ, List.map_append, List.map_append]
      exact daAll_snoc (DaAll.up (e6.trans e7) hxs) hy5
    · rintro σ' G4 O' e4 ⟨u1, u2, u3, xs, rfl, rfl, hxs⟩
      rw [Int.toNat_natCast] at hxs
      refine ws_frzD 0 rfl hxs fun G5 e5 hx => ?_
      walk_at "go"
      exact r_tupleD (.inl hx) fun x G6 e6 hx => ⟨rfl, Pt, Wt, hrowP, hPl, hrowW, hWl, hx⟩
end
/-! text S8 -/
section
variable {P : Program} {w : World} {K : PySem.W.Frag} {mg : Str → Option Value} {base : Heap}
theorem r_facP (T : Txt K mg) {ta : TE} {G : Hp} {O : OL} {σ : L2.St} {R : V → Hp → OL → Prop} (h : W (ta σ) G O fun x G1 O1 => ∃ a b, FacOk K G1 x a b ∧ R a G1 O1) : W (tFld K ta "points" σ) G O R :=
  r_fld (F := .frac) T.cl_Factors T.na_Factors_points (w_imp h fun x G1 O1 _ ⟨va, vb, ⟨a, dx, e1, e2⟩, r⟩ => ⟨a, dx, _, _, e1, e2, rfl, r⟩)
theorem r_facW (T : Txt K mg) {ta : TE} {G : Hp} {O : OL} {σ : L2.St} {R : V → Hp → OL → Prop} (h : W (ta σ) G O fun x G1 O1 => ∃ a b, FacOk K G1 x a b ∧ R b G1 O1) : W (tFld K ta "walls" σ) G O R :=
  r_fld (F := .frac) T.cl_Factors T.na_Factors_walls (w_imp h fun x G1 O1 _ ⟨va, vb, ⟨a, dx, e1, e2⟩, r⟩ => ⟨a, dx, _, _, e1, e2, rfl, r⟩)
theorem r_unlP (T : Txt K mg) {ta : TE} {G : Hp} {O : OL} {σ : L2.St} {R : V → Hp → OL → Prop} (h : W (ta σ) G O fun x G1 O1 => ∃ a b c, UnlOk K G1 x a b c ∧ R a G1 O1) : W (tFld K ta "place" σ) G O R :=
  r_fld (F := .frac) T.cl_Unlike T.na_Unlike_place (w_imp h fun x G1 O1 _ ⟨va, vb, vc, ⟨a, dx, e1, e2⟩, r⟩ => ⟨a, dx, _, _, e1, e2, rfl, r⟩)
theorem r_unlF (T : Txt K mg) {ta : TE} {G : Hp} {O : OL} {σ : L2.St} {R : V → Hp → OL → Prop} (h : W (ta σ) G O fun x G1 O1 => ∃ a b c, UnlOk K G1 x a b c ∧ R b G1 O1) : W (tFld K ta "first" σ) G O R :=
  r_fld (F := .frac) T.cl_Unlike T.na_Unlike_first (w_imp h fun x G1 O1 _ ⟨va, vb, vc, ⟨a, dx, e1, e2⟩, r⟩ => ⟨a, dx, _, _, e1, e2, rfl, r⟩)
theorem r_unlS (T : Txt K mg) {ta : TE} {G : Hp} {O : OL} {σ : L2.St} {R : V → Hp → OL → Prop} (h : W (ta σ) G O fun x G1 O1 => ∃ a b c, UnlOk K G1 x a b c ∧ R c G1 O1) : W (tFld K ta "second" σ) G O R :=
  r_fld (F := .frac) T.cl_Unlike T.na_Unlike_second (w_imp h fun x G1 O1 _ ⟨va, vb, vc, ⟨a, dx, e1, e2⟩, r⟩ => ⟨a, dx, _, _, e1, e2, rfl, r⟩)
theorem sc_factors_fault : FnScope ["field", "picture", "one", "other", "factors", "first", "second", "told", "e"] ["field", "picture", "one", "other", "factors"] (defScope s_factors_fault) := ⟨rfl, rfl, rfl, by decide +kernel, rfl, by decide +kernel, by decide +kernel⟩
/-- what factors_fault tells -/
def FfR (F : Fk) (n m : Nat) (ps : List (Nat × Nat)) (us1 us2 : List F.U) (dP dW : PyData) (v : V) : Prop :=
  (∃ s, whF F n m dP dW = some s ∧ v = .str s) ∨ (whF F n m dP dW = none ∧ ∃ Pt Wt : List F.U, rowD F dP Pt ∧ Pt.length = n ∧ rowD F dW Wt ∧ Wt.length = m ∧ ((scaled ps us1 Pt Wt = us2 ∧ v = .non) ∨ (scaled ps us1 Pt Wt ≠ us2 ∧ v = .str "pair")))
def S_factors_fault (K : PySem.W.Frag) (F : Fk) : SgX := fun vs G O R RX => O = [] ∧ ∃ (n m : Nat) (ps : List (Nat × Nat)) (vf vp v1 v2 vF vP vW : V) (d1 d2 dP dW : PyData), vs = [vf, vp, v1, v2, vF] ∧ FldOk K F G vf ∧ PicOk K n m ps G vp ∧ Da G [] v1 d1 ∧ Da G [] v2 d2 ∧ FacOk K G vF vP vW ∧ Da G [] vP dP ∧ Da G [] vW dW ∧ (∀ us, rowD F d1 us → allBd F 16 us) ∧ (∀ Pt, rowD F dP Pt → allBd F 400 Pt) ∧ (∀ Wt, rowD F dW Wt → allBd F 400 Wt) ∧
  R = (fun v G' O' => O' = [] ∧ ∃ us1 us2 : List F.U, rowD F d1 us1 ∧ rowD F d2 us2 ∧ us1.length = ps.length ∧ us2.length = ps.length ∧ FfR F n m ps us1 us2 dP dW v) ∧ RX = RXT K ((fpl F d1 ps.length).or (fpl F d2 ps.length))
theorem calX_factors_fault (T : Txt K mg) (F : Fk) : CalX P w K mg base 8 "factors_fault" (FnX (S_factors_fault K F)) := by
  refine calX_by T.d_factors_fault sc_factors_fault (fun vs G O R RX h => ?_) (fun f cdv A outer s H vs G O R RX E hr h => ?_)
  · obtain ⟨_, _, _, _, _, _, _, _, _, _, _, _, _, _, _, rfl, _⟩ := h; rfl
  · obtain ⟨rfl, n, m, ps, vf, vp, v1, v2, vF, vP, vW, d1, d2, dP, dW, rfl, hf, hp, hd1, hd2, hF, hdP, hdW, hb1, bP, bW, rfl, rfl⟩ := h
    refine ⟨_, (pss_cons (ps_set (i := 5) sc_factors_fault.nd rfl (Or.inl rfl) (pe_cX (calX_check_table T F) hr (by omega) rfl (takes_of rfl rfl rfl rfl) (pa_cons (pv 0) (pa_cons (pv 1) (pa_cons (pv 2) pa_nil)))))
    (pss_cons (ps_set (i := 6) sc_factors_fault.nd rfl (Or.inl rfl) (pe_cX (calX_check_table T F) hr (by omega) rfl (takes_of rfl rfl rfl rfl) (pa_cons (pv 0) (pa_cons (pv 1) (pa_cons (pv 3) pa_nil)))))
    (pss_cons (ps_tryAsK K rfl (i := 8) (Wout := fun _ _ _ _ => False) rfl rfl sc_factors_fault.nd rfl rfl ⟨rfl, by decide, Or.inl T.g_BadFactors⟩ takes0
      (fun W pn xe tk _ => (pss_one (ps_set (i := 7) sc_factors_fault.nd rfl (Or.inl rfl) (pe_cX (calX_scaled_table T F) hr (by omega) rfl tk (pa_cons (pv 0) (pa_cons (pv 1) (pa_cons (pv 5) (pa_cons (pe_fldK K rfl (pv 4) rfl) (pa_cons (pe_fldK K rfl (pv 4) rfl) pa_nil)))))))))
      (fun a oe cls d pn hz hf => (pss_one (ps_ret (pe_xf T.xf_BadFactors T.na_BadFactors_what hz hf (pv 8))))))
    (pss_one (ps_ret (pe_ifExp (pt_cmpR (eqDK K rfl hr.units) (pv 7) (pv 6) (nomark _)) pe_non pe_str)))))), ?_⟩
    show WSx _ _ _ [some (vf), some (vp), some (v1), some (v2), some (vF), none, none, none, none] _ _ _
    refine wsx_seq (wsx_set (wx_callX rfl (wx_of ?_)))
    walk_at "go"
    refine ⟨_, _, ⟨rfl, n, m, ps, vf, vp, v1, d1, rfl, hf, hp, hd1, rfl, rfl⟩, fun va G1 A1 e1 ⟨hA, us1, hrow1, hul1, hva⟩ => ?_, fun c dd G2 A2 e2 ⟨hA, i, a, hi, z⟩ => ⟨by rw [hA]; rfl, i, a, by rw [hi]; rfl, z⟩⟩
    subst hA
    refine wsx_seq (wsx_set (wx_callX rfl (wx_of ?_)))
    walk_at "go"
    have hfn1 := fpl_row hrow1 hul1
    refine ⟨_, _, ⟨rfl, n, m, ps, vf, vp, v2, d2, rfl, fld_up e1 hf, pic_up e1 hp, Da.up e1 hd2, rfl, rfl⟩, fun vb G2 A2 e2 ⟨hA, us2, hrow2, hul2, hvb⟩ => ?_, fun c dd G2 A2 e2 ⟨hA, i, a, hi, z⟩ => ⟨by rw [hA]; rfl, i, a, by rw [hfn1]; exact hi, z⟩⟩
    subst hA
    have ee := e1.trans e2
    have hf := fld_up ee hf
    have hp := pic_up ee hp
    have hF := fac_up ee hF
    have hdP := Da.up ee hdP
    have hdW := Da.up ee hdW
    have hva := Da.up e2 hva
    refine wsx_seq (wsx_of (ws_tryAsB (RX := RXF K (whF F n m dP dW)) (fun Wq => ?_) (fun cl dd G3 O3 e3 rx => ?_)))
    · refine wsx_set (wx_callX rfl (wx_of ?_))
      refine w_cons (w_var rfl (w_cons (w_var rfl (w_cons (w_var rfl (w_cons (r_facP T (w_var rfl ⟨_, _, hF, w_cons (r_facW T (w_var rfl ⟨_, _, hF, w_nil ?_⟩))⟩))))))))
      refine ⟨_, _, ⟨rfl, n, m, ps, vf, vp, va, vP, vW, us1, dP, dW, rfl, hf, hp, hva, hul1, hb1 us1 hrow1, hdP, hdW, bP, bW, rfl, rfl⟩, fun v3 G3 A3 e3 ⟨hA, Pt, Wt, h1, h2, h3, h4, hv3⟩ => ?_, fun c dd G3 A3 e3 ⟨h1, h2⟩ => ⟨by rw [h1]; rfl, h2⟩⟩
      subst hA
      refine wsx_of ?_
      refine ws_ret (w_ifE (t_test ?_))
      walk_at "go"
      refine r_eqRT hv3 (Da.up e3 hvb) ?_
      refine ⟨_, rfl, fun hc => ?_, fun hc => ?_⟩
      · have hc := of_decide_eq_true hc
        walk_at "go"
        exact ⟨rfl, us1, us2, hrow1, hrow2, hul1, hul2, .inr ⟨whF_row h1 h2 h3 h4, Pt, Wt, h1, h2, h3, h4, .inl ⟨hc, rfl⟩⟩⟩
      · have hc := of_decide_eq_false hc
        walk_at "go"
        exact ⟨rfl, us1, us2, hrow1, hrow2, hul1, hul2, .inr ⟨whF_row h1 h2 h3 h4, Pt, Wt, h1, h2, h3, h4, .inr ⟨hc, rfl⟩⟩⟩
    · obtain ⟨hO, wh, i, a, hw, rfl, rfl, hg⟩ := rx
      subst hO
      refine ⟨T.xm_BadFactors, fun a' => ?_⟩
      refine ws_ret (w_xf (w_var rfl ⟨rfl, rfl, _, _, _, rfl, hg, rfl, rfl, us1, us2, hrow1, hrow2, hul1, hul2, .inl ⟨wh, hw, rfl⟩⟩))
theorem sc_same_numbers : FnScope ["field", "thing", "number"] ["field", "thing", "number"] (defScope s_same_numbers) := ⟨rfl, rfl, rfl, by decide +kernel, rfl, by decide +kernel, by decide +kernel⟩
def R_same_numbers (K : PySem.W.Frag) (F : Fk) : Rel := fun ws G post => ∃ (vf va vb : V) (a b : F.U), ws = [vf, va, vb] ∧ FldOk K F G vf ∧ Nu F G va a ∧ Nu F G vb b ∧ post = fun v _ => v = .bl (decide (a = b))
theorem cal_same_numbers (T : Txt K mg) (F : Fk) : C8.Cal P w K mg base 2 "same_numbers" (Fn (SP (R_same_numbers K F))) [] := by
  refine cal_by T.d_same_numbers sc_same_numbers (fun vs G O R h => ?_) (fun f cdv A outer s H vs G O R E hr h => ?_)
  · obtain ⟨_, _, ⟨_, _, _, _, _, rfl, _⟩, _⟩ := h; rfl
  · obtain ⟨rfl, post, ⟨vf, va, vb, a, b, rfl, hf, ha, hb, rfl⟩, rfl⟩ := h
    refine ⟨_, (pss_cons (ps_if (pt_val (pe_callB (isiK K rfl) rfl T.b_isinstance PyProof.Rows.boot_isinstance (pa_cons (pv 0) (pa_cons (pe_glob (v := .ref (ga K "RestField")) rfl T.g_RestField rfl) pa_nil))))
      (pss_one (ps_ret (pe_and (C8.pe_c (cal_is_whole1 T) hr (by omega) rfl (pa_cons (pv 1) pa_nil)) (pe_one (pe_cmpR (eqDK K rfl hr.units) (pv 1) (pv 2) (nomark _))))))
      pss_nil)
    (pss_cons (ps_if (PW.pt (pw_or (pt_not (pt_val (pe_callB (isiK K rfl) rfl T.b_isinstance PyProof.Rows.boot_isinstance (pa_cons (pv 1) (pa_cons (pe_bltn (v := .ty "tuple") rfl T.b_tuple PyProof.Rows.boot_tuple rfl) pa_nil))))) (pw_or1 (pt_cmpR op_ne (pe_callB (lenK K rfl) rfl T.b_len PySem.boot_len (pa_cons (pv 1) pa_nil)) pe_int (nomark _)))))
      (pss_one (ps_ret pe_bl))
      pss_nil)
    (pss_one (ps_ret (pe_and (C8.pe_c (cal_is_whole1 T) hr (by omega) rfl (pa_cons (pe_ix (ixK K rfl) (pv 1) pe_int (fun _ _ => rfl)) pa_nil)) (pe_and (C8.pe_c (cal_is_whole1 T) hr (by omega) rfl (pa_cons (pe_ix (ixK K rfl) (pv 1) pe_int (fun _ _ => rfl)) pa_nil)) (pe_one (pe_cmpR (eqDK K rfl hr.units) (pv 1) (pv 2) (nomark _))))))))), ?_⟩
    show WS _ [some (vf), some (va), some (vb)] _ _ _
    obtain ⟨fa, fdx, vz, vo, vm, rfl, _, _, _, hfa⟩ := hf
    cases F with
    | rest p hp =>
      walk_at "go"
      refine r_isi (.own _) (.ins hfa T.in_RestField) T.in_RestField.me ?_
      walk_at "go"
      have e1 := nu_rest ha
      have e2 := nu_rest hb
      subst e1 e2
      refine f_p ⟨_, _, _, rfl, .inl ⟨_, none, none, rfl, rfl, rfl, rfl⟩⟩ fun v G2 e hv => ?_
      obtain rfl : v = .bl true := hv
      walk_at "go"
      refine r_eqN (nu_up e ha) (nu_up e hb) ?_
      exact ⟨rfl, rfl⟩
    | frac =>
      walk_at "go"
      refine r_isi (.own _) (.ins hfa T.in_FractionField) T.ki_FractionField_RestField ?_
      walk_at "go"
      obtain ⟨pa', xs, e0, hpa, hxs⟩ := da_tup (nu_frac ha)
      have hl := daAll_len hxs
      subst e0
      have hl : xs.length = 2 := hl
      refine r_isiTy (n := "tuple") (b := true) (.tup hpa) rfl ?_
      walk_at "go"
      refine r_len (.inl hpa) ?_
      rw [hl]
      walk_at "go"
      refine cj_ni (fun h => absurd rfl h) fun _ => ?_
      walk_at "go"
      refine r_atD (j := 0) (.inr (nu_frac ha)) rfl rfl fun x hx => ?_
      rw [da_int hx]
      walk_at "go"
      refine f_p ⟨_, _, _, rfl, .inl ⟨_, none, none, rfl, rfl, rfl, rfl⟩⟩ fun v G2 e hv => ?_
      obtain rfl : v = .bl true := hv
      have ha := nu_up e ha
      walk_at "go"
      refine r_atD (j := 1) (.inr (nu_frac ha)) rfl rfl fun x hx => ?_
      rw [da_int hx]
      walk_at "go"
      refine f_p ⟨_, _, _, rfl, .inl ⟨_, none, none, rfl, rfl, rfl, rfl⟩⟩ fun v G3 e3 hv => ?_
      obtain rfl : v = .bl true := hv
      walk_at "go"
      refine r_eqN (nu_up e3 ha) (nu_up (e.trans e3) hb) ?_
      exact ⟨rfl, rfl⟩
open Classical in
theorem f_whole3 {dpl : PyData} {x : V} {L : Nat} {G : Hp} {O : OL} {R : V → Hp → OL → Prop} {E0 : XK} (h : Da G [] x dpl) (q : ∀ G', Ex G G' → R (.bl (decide (∃ i : Nat, i < L ∧ dpl = .int i))) G' O) : W (fun H Q => Fn (SP (R_is_whole K)) [x, .int 0, .int ((L : Int) - 1)] H Q E0) G O R := by
  have pl : (∃ i : Int, dpl = .int i) ∨ ∀ i, dpl ≠ .int i := by cases dpl <;> simp
  rcases pl with ⟨i, rfl⟩ | hni
  · obtain rfl := da_int h
    refine f_p ⟨_, _, _, rfl, .inl ⟨i, some 0, some ((L : Int) - 1), rfl, rfl, rfl, rfl⟩⟩ fun v G3 e3 hv => ?_
    subst hv
    have e : (geO (some 0) i && leO (some ((L : Int) - 1)) i) = decide (∃ j : Nat, j < L ∧ PyData.int i = .int j) := by
      by_cases hin : 0 ≤ i ∧ i ≤ (L : Int) - 1
      · rw [decide_eq_true (⟨i.toNat, by omega, by congr 1; omega⟩ : ∃ j : Nat, j < L ∧ PyData.int i = .int j)]
        show (decide _ && decide _) = true
        rw [decide_eq_true hin.1, decide_eq_true hin.2]; rfl
      · rw [decide_eq_false (p := ∃ j : Nat, j < L ∧ PyData.int i = .int j) fun ⟨j, hj, e⟩ => by
          injection e with e
          omega]
        show (decide _ && decide _) = false
        by_cases h0 : 0 ≤ i
        · rw [decide_eq_false (p := i ≤ (L : Int) - 1) (by omega), Bool.and_false]
        · rw [decide_eq_false h0, Bool.false_and]
    rw [e]
    exact q G3 e3
  · refine f_p ⟨_, _, _, rfl, .inr ⟨da_now h hni, rfl⟩⟩ fun v G3 e3 hv => ?_
    subst hv
    have := q G3 e3
    rwa [decide_eq_false (p := ∃ j : Nat, j < L ∧ dpl = .int j) fun ⟨j, _, e⟩ => hni _ e] at this
theorem sc_unlike_fault : FnScope ["field", "picture", "one", "other", "unlike", "ours", "theirs"] ["field", "picture", "one", "other", "unlike"] (defScope s_unlike_fault) := ⟨rfl, rfl, rfl, by decide +kernel, rfl, by decide +kernel, by decide +kernel⟩
/-- what unlike_fault tells -/
def UfR (F : Fk) (n m : Nat) (ps : List (Nat × Nat)) (us1 us2 : List F.U) (dpl : PyData) (a b : F.U) (v : V) : Prop :=
  ((∀ i : Nat, i < (oth n m ps).length → dpl ≠ .int i) ∧ v = .str "place") ∨ ∃ i : Nat, i < (oth n m ps).length ∧ dpl = .int i ∧
    ((¬ (a = (worths n m ps us1).getD i 1 ∧ b = (worths n m ps us2).getD i 1) ∧ v = .str "worths") ∨ (a = (worths n m ps us1).getD i 1 ∧ b = (worths n m ps us2).getD i 1 ∧ v = if a = b then .str "alike" else .non))
def S_unlike_fault (K : PySem.W.Frag) (F : Fk) : SgX := fun vs G O R RX => O = [] ∧ ∃ (n m : Nat) (ps : List (Nat × Nat)) (vf vp v1 v2 vu x y z : V) (d1 d2 dpl : PyData) (a b : F.U), vs = [vf, vp, v1, v2, vu] ∧ FldOk K F G vf ∧ PicOk K n m ps G vp ∧ Da G [] v1 d1 ∧ Da G [] v2 d2 ∧ UnlOk K G vu x y z ∧ Da G [] x dpl ∧ Nu F G y a ∧ Nu F G z b ∧ (∀ us, rowD F d1 us → allBd F 16 us) ∧ (∀ us, rowD F d2 us → allBd F 16 us) ∧
  R = (fun v G' O' => O' = [] ∧ ∃ us1 us2 : List F.U, rowD F d1 us1 ∧ rowD F d2 us2 ∧ us1.length = ps.length ∧ us2.length = ps.length ∧ UfR F n m ps us1 us2 dpl a b v) ∧ RX = RXT K ((fpl F d1 ps.length).or (fpl F d2 ps.length))
open Classical in
theorem calX_unlike_fault (T : Txt K mg) (F : Fk) : CalX P w K mg base 8 "unlike_fault" (FnX (S_unlike_fault K F)) := by
  refine calX_by T.d_unlike_fault sc_unlike_fault (fun vs G O R RX h => ?_) (fun f cdv A outer s H vs G O R RX E hr h => ?_)
  · obtain ⟨_, _, _, _, _, _, _, _, _, _, _, _, _, _, _, _, _, rfl, _⟩ := h; rfl
  · obtain ⟨rfl, n, m, ps, vf, vp, v1, v2, vu, x, y, z, d1, d2, dpl, a, b, rfl, hf, hp, hd1, hd2, hU, hx, hy, hz, hb1, hb2, rfl, rfl⟩ := h
    refine ⟨_, (pss_cons (ps_set (i := 5) sc_unlike_fault.nd rfl (Or.inl rfl) (pe_cX (calX_basis_worths T F) hr (by omega) rfl (takes_of rfl rfl rfl rfl) (pa_cons (pv 0) (pa_cons (pv 1) (pa_cons (pv 2) pa_nil)))))
    (pss_cons (ps_set (i := 6) sc_unlike_fault.nd rfl (Or.inl rfl) (pe_cX (calX_basis_worths T F) hr (by omega) rfl (takes_of rfl rfl rfl rfl) (pa_cons (pv 0) (pa_cons (pv 1) (pa_cons (pv 3) pa_nil)))))
    (pss_cons (ps_if (pt_not (pt_val (C8.pe_c (cal_is_whole3 T) hr (by omega) rfl (pa_cons (pe_fldK K rfl (pv 4) rfl) (pa_cons pe_int (pa_cons (pe_op op_sub (pe_callB (lenK K rfl) rfl T.b_len PySem.boot_len (pa_cons (pv 5) pa_nil)) pe_int) pa_nil))))))
      (pss_one (ps_ret pe_str))
      pss_nil)
    (pss_cons (ps_if (pt_not (pt_val (C8.pe_c (cal_same_numbers T F) hr (by omega) rfl (pa_cons (pv 0) (pa_cons (pe_fldK K rfl (pv 4) rfl) (pa_cons (pe_ix (ixK K rfl) (pv 5) (pe_fldK K rfl (pv 4) rfl) (fun _ _ => rfl)) pa_nil))))))
      (pss_one (ps_ret pe_str))
      pss_nil)
    (pss_cons (ps_if (pt_not (pt_val (C8.pe_c (cal_same_numbers T F) hr (by omega) rfl (pa_cons (pv 0) (pa_cons (pe_fldK K rfl (pv 4) rfl) (pa_cons (pe_ix (ixK K rfl) (pv 6) (pe_fldK K rfl (pv 4) rfl) (fun _ _ => rfl)) pa_nil))))))
      (pss_one (ps_ret pe_str))
      pss_nil)
    (pss_one (ps_ret (pe_ifExp (pt_cmpR (eqDK K rfl hr.units) (pe_fldK K rfl (pv 4) rfl) (pe_fldK K rfl (pv 4) rfl) (nomark _)) pe_str pe_non)))))))), ?_⟩
    show WSx _ _ _ [some (vf), some (vp), some (v1), some (v2), some (vu), none, none] _ _ _
    have l25 := hp.1.len
    have ol := oth_len (n := n) (m := m) (ps := ps)
    refine wsx_seq (wsx_set (wx_callX rfl (wx_of ?_)))
    walk_at "go"
    refine ⟨_, _, ⟨rfl, n, m, ps, vf, vp, v1, d1, rfl, hf, hp, hd1, hb1, rfl, rfl⟩, fun va G1 A1 e1 ⟨hA, us1, hrow1, hul1, hva⟩ => ?_, fun c dd G2 A2 e2 ⟨hA, i, a, hi, z⟩ => ⟨by rw [hA]; rfl, i, a, by rw [hi]; rfl, z⟩⟩
    subst hA
    refine wsx_seq (wsx_set (wx_callX rfl (wx_of ?_)))
    walk_at "go"
    have hfn1 := fpl_row hrow1 hul1
    refine ⟨_, _, ⟨rfl, n, m, ps, vf, vp, v2, d2, rfl, fld_up e1 hf, pic_up e1 hp, Da.up e1 hd2, hb2, rfl, rfl⟩, fun vb G2 A2 e2 ⟨hA, us2, hrow2, hul2, hvb⟩ => ?_, fun c dd G2 A2 e2 ⟨hA, i, a, hi, z⟩ => ⟨by rw [hA]; rfl, i, a, by rw [hfn1]; exact hi, z⟩⟩
    subst hA
    have ee := e1.trans e2
    have hf := fld_up ee hf
    have hU := unl_up ee hU
    have hx := Da.up ee hx
    have hy := nu_up ee hy
    have hz := nu_up ee hz
    have hva := Da.up e2 hva
    have wl : ∀ x : List F.U, (worths n m ps x).length = (oth n m ps).length := fun x => by simp [worths]
    refine wsx_of ?_
    show WS _ _ _ [] _
    have fin : ∀ {v : V} {G : Hp}, UfR F n m ps us1 us2 dpl a b v → ([] : OL) = [] ∧ ∃ us1 us2 : List F.U, rowD F d1 us1 ∧ rowD F d2 us2 ∧ us1.length = ps.length ∧ us2.length = ps.length ∧ UfR F n m ps us1 us2 dpl a b v := fun h => ⟨rfl, us1, us2, hrow1, hrow2, hul1, hul2, h⟩
    refine ws_seq (ws_if (t_not (t_test ?_)))
    refine w_call0 (w_cons (r_unlP T (w_var rfl ⟨_, _, _, hU, w_cons ?_⟩)))
    walk_at "go"
    refine r_lenD (.inr hva) ?_
    rw [List.length_map, wl]
    walk_at "go"
    refine f_whole3 hx fun G3 e3 => ?_
    have hf := fld_up e3 hf
    have hU := unl_up e3 hU
    have hy := nu_up e3 hy
    have hz := nu_up e3 hz
    have hva := Da.up e3 hva
    have hvb := Da.up e3 hvb
    by_cases hin : ∃ i : Nat, i < (oth n m ps).length ∧ dpl = .int i
    · rw [decide_eq_true hin]
      refine ⟨_, rfl, fun z => (by cases z), fun _ => ws_nx ?_⟩
      obtain ⟨i, hi, rfl⟩ := hin
      obtain rfl := da_int hx
      refine ws_seq (ws_if (t_not (t_test ?_)))
      refine w_call0 (w_cons (w_var rfl (w_cons (r_unlF T (w_var rfl ⟨_, _, _, hU, w_cons (w_op (w_var rfl (r_unlP T (w_var rfl ⟨_, _, _, hU, ?_⟩))))⟩)))))
      refine r_atD (j := i) (.inr hva) (ro_get (by rw [wl]; exact hi)) rfl fun w1 hw1 => ?_
      refine w_nil ?_
      refine f_p ⟨_, _, _, _, _, rfl, hf, hy, hw1, rfl⟩ fun v G4 e4 hv => ?_
      subst hv
      refine ⟨_, rfl, fun hc => ?_, fun hc => ?_⟩
      · have hc : a ≠ _ := of_decide_eq_false (by simpa using hc)
        exact ws_ret (w_c (fin (G := G) (.inr ⟨i, hi, rfl, .inl ⟨fun z => hc z.1, rfl⟩⟩)))
      have hc : a = _ := of_decide_eq_true (by simpa using hc)
      refine ws_nx ?_
      have hf := fld_up e4 hf
      have hU := unl_up e4 hU
      have hy := nu_up e4 hy
      have hz := nu_up e4 hz
      have hvb := Da.up e4 hvb
      refine ws_seq (ws_if (t_not (t_test ?_)))
      refine w_call0 (w_cons (w_var rfl (w_cons (r_unlS T (w_var rfl ⟨_, _, _, hU, w_cons (w_op (w_var rfl (r_unlP T (w_var rfl ⟨_, _, _, hU, ?_⟩))))⟩)))))
      refine r_atD (j := i) (.inr hvb) (ro_get (by rw [wl]; exact hi)) rfl fun w2 hw2 => ?_
      refine w_nil ?_
      refine f_p ⟨_, _, _, _, _, rfl, hf, hz, hw2, rfl⟩ fun v G5 e5 hv => ?_
      subst hv
      refine ⟨_, rfl, fun hd => ?_, fun hd => ?_⟩
      · have hd : b ≠ _ := of_decide_eq_false (by simpa using hd)
        exact ws_ret (w_c (fin (G := G) (.inr ⟨i, hi, rfl, .inl ⟨fun z => hd z.2, rfl⟩⟩)))
      have hd : b = _ := of_decide_eq_true (by simpa using hd)
      refine ws_nx ?_
      have hU := unl_up e5 hU
      have hy := nu_up e5 hy
      have hz := nu_up e5 hz
      refine ws_ret (w_ifE (t_test (w_op (r_unlF T (w_var rfl ⟨_, _, _, hU, r_unlS T (w_var rfl ⟨_, _, _, hU, ?_⟩)⟩)))))
      refine r_eqN hy hz ?_
      refine ⟨_, rfl, fun he => ?_, fun he => ?_⟩
      · have he := of_decide_eq_true he
        refine w_c (fin (G := G5) (.inr ⟨i, hi, rfl, .inr ⟨hc, hd, ?_⟩⟩))
        rw [if_pos he]
      · have he := of_decide_eq_false he
        refine w_c (fin (G := G5) (.inr ⟨i, hi, rfl, .inr ⟨hc, hd, ?_⟩⟩))
        rw [if_neg he]
    · rw [decide_eq_false hin]
      refine ⟨_, rfl, fun _ => ?_, fun z => by cases z⟩
      exact ws_ret (w_c (fin (G := G3) (.inl ⟨fun i hi e => hin ⟨i, hi, e⟩, rfl⟩)))
end
/-! text S9 -/
structure EqC (P : Program) (w : World) (K : PySem.W.Frag) (mg : Str → Option Value) (base : Heap) (k : Nat) (C : Addr) (sp : Sp) : Prop where
  ex : ∃ (f : Addr) (fd : FuncData) (ps : List Str), FnOk P w K mg base CX0 k f fd ps sp ∧ Meth K C "__eq__" f ∧ Binds K fd ps []
theorem op_eqC {X : Cx} {k j : Nat} {C : Addr} {sp : Sp} (c : EqC X.prog X.w X.K X.mg X.base k C sp) (hr : Room j X.A) (hk : k ≤ j) : OpR X (compareOp .Eq) (rOwnEq C sp C8.E0) := by
  obtain ⟨f, fd, ps, F, hm, hb⟩ := c.ex
  exact op_ownEq F (hr.mono hk) hm.at_ hm.fn hb pass0
theorem r_ownEq {C : Addr} {S : Sg} {E0 : XK} {x y : V} {G : Hp} {O : OL} {R : V → Hp → OL → Prop} (hx : ∃ a dx fs, x = .ref a ∧ G a = some (.ins C dx fs)) (hy : ∃ a dx fs, y = .ref a ∧ G a = some (.ins C dx fs)) (h : W (fun H Q => Fn S [x, y] H Q E0) G O R) : W (rOwnEq C (Fn S) E0 x y) G O R := fun H m Q q => by
  obtain ⟨a, dx, fs, rfl, ha⟩ := hx
  obtain ⟨b, dy, gs, rfl, hb⟩ := hy
  exact ⟨a, b, dx, dy, fs, gs, rfl, rfl, m.g _ _ ha, m.g _ _ hb, h H m Q q⟩
section
variable {P : Program} {w : World} {K : PySem.W.Frag} {mg : Str → Option Value} {base : Heap}
theorem fac_ins {G : Hp} {v a b : V} (h : FacOk K G v a b) : ∃ a dx fs, v = .ref a ∧ G a = some (.ins (ga K "Factors") dx fs) := by obtain ⟨x, dx, e, h⟩ := h; exact ⟨x, dx, _, e, h⟩
theorem unl_ins {G : Hp} {v a b c : V} (h : UnlOk K G v a b c) : ∃ a dx fs, v = .ref a ∧ G a = some (.ins (ga K "Unlike") dx fs) := by obtain ⟨x, dx, e, h⟩ := h; exact ⟨x, dx, _, e, h⟩
theorem fac_ty (T : Txt K mg) {G : Hp} {O : OL} {v a b : V} (h : FacOk K G v a b) : TyK K G O v (.ref (ga K "Factors")) := by obtain ⟨x, dx, rfl, h⟩ := h; exact .ins h T.in_Factors
theorem unl_ty (T : Txt K mg) {G : Hp} {O : OL} {v a b c : V} (h : UnlOk K G v a b c) : TyK K G O v (.ref (ga K "Unlike")) := by obtain ⟨x, dx, rfl, h⟩ := h; exact .ins h T.in_Unlike
theorem sc_Factors_eq : FnScope ["self", "other"] ["self", "other"] (defScope s_Factors_eq) := ⟨rfl, rfl, rfl, by decide +kernel, rfl, by decide +kernel, by decide +kernel⟩
def R_fac_eq (K : PySem.W.Frag) : Rel := fun ws G post => ∃ (u v a b c d : V) (da db dc dd : PyData), ws = [u, v] ∧ FacOk K G u a b ∧ FacOk K G v c d ∧ Da G [] a da ∧ Da G [] b db ∧ Da G [] c dc ∧ Da G [] d dd ∧ SeqAt.shaped da = true ∧ SeqAt.shaped db = true ∧ SeqAt.shaped dc = true ∧ SeqAt.shaped dd = true ∧ post = fun z _ => z = .bl (PyData.eqv da dc && PyData.eqv db dd)
theorem eq_Factors (T : Txt K mg) : EqC P w K mg base 1 (ga K "Factors") (Fn (SP (R_fac_eq K))) := by
  obtain ⟨fd, F, hb⟩ := T.f_Factors_eq
  refine ⟨_, fd, _, fn_by F sc_Factors_eq (fun vs G O R h => ?_) (fun cdv A outer s H vs G O R E hr h => ?_), T.m_Factors_eq, hb⟩
  · obtain ⟨_, _, ⟨_, _, _, _, _, _, _, _, _, _, rfl, _⟩, _⟩ := h; rfl
  · obtain ⟨rfl, post, ⟨u, v, a, b, c, d, da', db, dc, dd, rfl, hu, hv, ha, hb, hc, hd, s1, s2, s3, s4, rfl⟩, rfl⟩ := h
    refine ⟨_, (pss_one (ps_ret (pe_and (pe_callB (isiK K rfl) rfl T.b_isinstance PyProof.Rows.boot_isinstance (pa_cons (pv 1) (pa_cons (pe_glob (v := .ref (ga K "Factors")) rfl T.g_Factors rfl) pa_nil))) (pe_and (pe_cmpR (eqDK K rfl hr.units) (pe_fldK K rfl (pv 0) rfl) (pe_fldK K rfl (pv 1) rfl) (nomark _)) (pe_one (pe_cmpR (eqDK K rfl hr.units) (pe_fldK K rfl (pv 0) rfl) (pe_fldK K rfl (pv 1) rfl) (nomark _))))))), ?_⟩
    show WS _ [some (u), some (v)] _ _ _
    walk_at "go"
    refine r_isi (.own _) (fac_ty T hv) T.in_Factors.me ?_
    walk_at "go"
    refine r_facP T (w_var rfl ⟨_, _, hu, ?_⟩)
    walk_at "go"
    refine r_facP T (w_var rfl ⟨_, _, hv, ?_⟩)
    refine r_eqD (da_wk _ ha) (da_wk _ hc) s1 s3 ?_
    refine ⟨_, rfl, fun z => ?_, fun z => ?_⟩
    · rw [z]
      walk_at "go"
      refine r_facW T (w_var rfl ⟨_, _, hu, ?_⟩)
      walk_at "go"
      refine r_facW T (w_var rfl ⟨_, _, hv, ?_⟩)
      refine r_eqD (da_wk _ hb) (da_wk _ hd) s2 s4 ?_
      exact ⟨rfl, rfl⟩
    · rw [z]
      exact ⟨rfl, rfl⟩
theorem sc_Unlike_eq : FnScope ["self", "other"] ["self", "other"] (defScope s_Unlike_eq) := ⟨rfl, rfl, rfl, by decide +kernel, rfl, by decide +kernel, by decide +kernel⟩
def R_unl_eq (K : PySem.W.Frag) (F : Fk) : Rel := fun ws G post => ∃ (u v y z y' z' : V) (i j : Int) (a b c d : F.U), ws = [u, v] ∧ UnlOk K G u (.int i) y z ∧ UnlOk K G v (.int j) y' z' ∧ Nu F G y a ∧ Nu F G z b ∧ Nu F G y' c ∧ Nu F G z' d ∧ post = fun r _ => r = .bl (decide (i = j) && decide (a = c) && decide (b = d))
theorem eq_Unlike (T : Txt K mg) (F : Fk) : EqC P w K mg base 1 (ga K "Unlike") (Fn (SP (R_unl_eq K F))) := by
  obtain ⟨fd, F, hb⟩ := T.f_Unlike_eq
  refine ⟨_, fd, _, fn_by F sc_Unlike_eq (fun vs G O R h => ?_) (fun cdv A outer s H vs G O R E hr h => ?_), T.m_Unlike_eq, hb⟩
  · obtain ⟨_, _, ⟨_, _, _, _, _, _, _, _, _, _, _, _, rfl, _⟩, _⟩ := h; rfl
  · obtain ⟨rfl, post, ⟨u, v, y, z, y', z', i, j, a, b, c, d, rfl, hu, hv, ha, hb, hc, hd, rfl⟩, rfl⟩ := h
    refine ⟨_, (pss_cons (ps_if (pt_not (pt_val (pe_callB (isiK K rfl) rfl T.b_isinstance PyProof.Rows.boot_isinstance (pa_cons (pv 1) (pa_cons (pe_glob (v := .ref (ga K "Unlike")) rfl T.g_Unlike rfl) pa_nil)))))
      (pss_one (ps_ret pe_bl))
      pss_nil)
    (pss_one (ps_ret (pe_and (pe_cmpR op_eq (pe_fldK K rfl (pv 0) rfl) (pe_fldK K rfl (pv 1) rfl) (nomark _)) (pe_and (pe_cmpR (eqDK K rfl hr.units) (pe_fldK K rfl (pv 0) rfl) (pe_fldK K rfl (pv 1) rfl) (nomark _)) (pe_one (pe_cmpR (eqDK K rfl hr.units) (pe_fldK K rfl (pv 0) rfl) (pe_fldK K rfl (pv 1) rfl) (nomark _)))))))), ?_⟩
    show WS _ [some (u), some (v)] _ _ _
    walk_at "go"
    refine r_isi (.own _) (unl_ty T hv) T.in_Unlike.me ?_
    walk_at "go"
    refine r_unlP T (w_var rfl ⟨_, _, _, hu, ?_⟩)
    walk_at "go"
    refine r_unlP T (w_var rfl ⟨_, _, _, hv, ?_⟩)
    walk_at "go"
    refine ⟨fun e1 => ?_, fun e1 => ?_⟩
    · have e1 : i = j := V.int.inj (of_decide_eq_true e1)
      walk_at "go"
      refine r_unlF T (w_var rfl ⟨_, _, _, hu, ?_⟩)
      walk_at "go"
      refine r_unlF T (w_var rfl ⟨_, _, _, hv, ?_⟩)
      refine r_eqN ha hc ?_
      refine ⟨_, rfl, fun e2 => ?_, fun e2 => ?_⟩
      · walk_at "go"
        refine r_unlS T (w_var rfl ⟨_, _, _, hu, ?_⟩)
        walk_at "go"
        refine r_unlS T (w_var rfl ⟨_, _, _, hv, ?_⟩)
        refine r_eqN hb hd ?_
        refine ⟨rfl, ?_⟩
        rw [decide_eq_true e1, e2]; rfl
      · rw [e2]
        refine ⟨rfl, ?_⟩
        rw [decide_eq_true e1]; rfl
    · have e1 : ¬ i = j := fun e => by rw [e] at e1; simp at e1
      refine ⟨rfl, ?_⟩
      rw [decide_eq_false e1]; rfl
end
/-! text X5 -/
/-! X5: sets of tuples and sorted lists of pairs. -/
def rLenSet (K : PySem.W.Frag) (P : Program) (w : World) : List V → Hp → VK → Prop := fun xs H Q => ∃ a L, xs = [V.ref a] ∧ H a = some (SetTO P w a L) ∧ (∀ p ∈ L, SqT K H p.1 (p.2.map V.int)) ∧ ((L.map (·.2)).Nodup → Q (.int L.length) H)
theorem call_lenSet {X : Cx} : CallR X (.builtin "len") (rLenSet X.K X.prog X.w) := by
  intro pins s σ H xs us Q I r h
  obtain ⟨a, L, rfl, ha, hk, q⟩ := h
  have R0 : SetT0 X.prog X.w s.heap a L := (I.hok a _ ha).1
  obtain ⟨es, ep, t, R⟩ := R0.full fun p hp => I.isT (hk p hp)
  rw [Vals.ref1 r]
  obtain ⟨o, ho, hex, hd⟩ := R.ob
  have hsz := R.size
  have hfew := R.few
  exact call_len_set ho hex hd R.fits (by rw [hsz]; omega) ⟨.int L.length, H, I.tok _, ⟨_, by rw [hsz]⟩, q R.nd⟩
theorem lenSetK (K : PySem.W.Frag) (P : Program) (w : World) {X : Cx} (h : X.K = K) (hP : X.prog = P) (hw : X.w = w) : CallR X (.builtin "len") (rLenSet K P w) := by subst h hP hw; exact call_lenSet
theorem setK (K : PySem.W.Frag) (P : Program) (w : World) {X : Cx} (h : X.K = K) (hP : X.prog = P) (hw : X.w = w) (hc : X.calm = true) (hu : X.A.units + 64 < cLine) : CallR X (.type "set") (rSetOfT K P w) := by subst h hP hw; exact cr_setOfT hc hu
theorem sortK (K : PySem.W.Frag) {X : Cx} (h : X.K = K) : CallR X (.builtin "sorted") (rSortU K 2 64) := by subst h; exact cr_sortT (by decide)
section
variable {K : PySem.W.Frag} {P : Program} {w : World} {G : Hp} {O : OL} {R : V → Hp → OL → Prop}
theorem r_setOfT {l : Addr} {ks : List (Addr × List Int)} (hl : LsAt G O l (ks.map fun p => V.ref p.1)) (hk : ∀ p ∈ ks, G p.1 = some (.tup (p.2.map V.int))) (h64 : ks.length < 64)
    (r : ∀ a L, (∀ p ∈ L, p ∈ ks) → (∀ p ∈ ks, p.2 ∈ L.map (·.2)) → R (.ref a) G (O ++ [(a, SetTO P w a L)])) : W (rSetOfT K P w [.ref l]) G O R := fun H m Q q =>
  ⟨l, ks, rfl, SqL.of (m.ls hl), fun p hp => SqT.of (m.g _ _ (hk p hp)), h64, fun a L ha h1 h2 => q _ _ _ _ (m.newO ha) (m.upO ha) (r a L h1 h2)⟩
theorem r_lenSet {a : Addr} {L : List (Addr × List Int)} (i : Nat) (h : O[i]? = some (a, SetTO P w a L)) (hk : ∀ p ∈ L, G p.1 = some (.tup (p.2.map V.int))) (r : (L.map (·.2)).Nodup → R (.int L.length) G O) : W (rLenSet K P w [.ref a]) G O R := fun H m Q q =>
  ⟨a, L, rfl, (m.o _ (List.mem_of_getElem? h)).1, fun p hp => SqT.of (m.g _ _ (hk p hp)), fun nd => q _ _ _ _ m Up.refl (r nd)⟩
theorem r_sortU {l : Addr} {xs : List V} (hl : LsAt G O l xs) (h64 : xs.length < 64) (hx : ∀ x ∈ xs, ∃ a ns, x = .ref a ∧ G a = some (.tup (List.map V.int ns)) ∧ ns.length = 2 ∧ TS.Bd 64 ns)
    (r : ∀ ys p, ys.Perm xs → ys.Pairwise (fun x y => ∀ a b n m, x = .ref a → G a = some (.tup (List.map V.int n)) → y = .ref b → G b = some (.tup (List.map V.int m)) → TS.code 64 n ≤ TS.code 64 m) → R (.ref p) G (O ++ [(p, .lst ys)])) : W (rSortU K 2 64 [.ref l]) G O R := fun H m Q q =>
  ⟨l, xs, rfl, SqL.of (m.ls hl), h64, fun x hm => by obtain ⟨a, ns, e, ha, h1, h2⟩ := hx x hm; exact ⟨ns, ⟨a, e, SqT.of (m.g _ _ ha)⟩, h1, h2⟩,
    fun ys p hp hw hn => q _ _ _ _ (m.newO hn) (m.upO hn) (r ys p hp (hw.imp fun {x y} z a b n k e1 h1 e2 h2 => z n k ⟨a, e1, SqT.of (m.g _ _ h1)⟩ ⟨b, e2, SqT.of (m.g _ _ h2)⟩))⟩
end
/-! text T1 -/
theorem geo_true {lo hi i : Int} (h1 : lo ≤ i) (h2 : i ≤ hi) : (geO (some lo) i && leO (some hi) i) = true := by
  show (decide (lo ≤ i) && decide (i ≤ hi)) = true
  rw [decide_eq_true h1, decide_eq_true h2]; rfl
/-! ### pairs of a list -/
theorem pairs_ks {G : Hp} : ∀ {xs : List V} {qs : List (Nat × Nat)}, DaAll G [] xs (qs.map dpair) → ∃ ks : List (Addr × List Int), xs = ks.map (fun p => V.ref p.1) ∧ ks.map (·.2) = qs.map (fun q => [(q.1 : Int), (q.2 : Int)]) ∧ ∀ p ∈ ks, G p.1 = some (.tup (p.2.map V.int))
  | [], [], _ => ⟨[], rfl, rfl, fun p hp => by cases hp⟩
  | x :: xs, q :: qs, h => by
    cases h with
    | cons h1 h2 =>
      obtain ⟨ks, e1, e2, h3⟩ := pairs_ks h2
      obtain ⟨a, ys, rfl, ha, hys⟩ := da_tup h1
      obtain ⟨v1, v2, rfl, h4, h5⟩ := da2 hys
      rw [da_int h4, da_int h5] at ha
      exact ⟨(a, [(q.1 : Int), (q.2 : Int)]) :: ks, by rw [e1]; rfl, by rw [List.map_cons, e2]; rfl, fun p hp => by
        rcases List.mem_cons.mp hp with e | hp
        · subst e; exact ha
        · exact h3 p hp⟩
theorem pair_da {G : Hp} {a : Addr} {q : Nat × Nat} (h : G a = some (.tup (List.map V.int [(q.1 : Int), (q.2 : Int)]))) : Da G [] (.ref a) (dpair q) := .tup h (.cons (.int _) (.cons (.int _) .nil))
theorem pw_nodup {n m : Nat} {ps : List (Nat × Nat)} (h : PW n m ps) : ps.Nodup := h.srt.imp fun {p q} z e => by subst e; omega
theorem nodup_map2 {qs : List (Nat × Nat)} (h : qs.Nodup) : (qs.map fun q => [(q.1 : Int), (q.2 : Int)]).Nodup := List.pairwise_map.mpr (h.imp fun {p q} z e => z (by
  simp only [List.cons.injEq, and_true, Int.natCast_inj] at e
  exact Prod.ext e.1 e.2))
theorem ks_len {L ks : List (Addr × List Int)} (n1 : (L.map (·.2)).Nodup) (n2 : (ks.map (·.2)).Nodup) (h1 : ∀ p ∈ L, p ∈ ks) (h2 : ∀ p ∈ ks, p.2 ∈ L.map (·.2)) : L.length = ks.length := by
  have := ((List.perm_ext_iff_of_nodup n1 n2).mpr fun x => ⟨fun hx => by
    obtain ⟨p, hp, rfl⟩ := List.mem_map.mp hx
    exact List.mem_map.mpr ⟨p, h1 p hp, rfl⟩, fun hx => by
    obtain ⟨p, hp, rfl⟩ := List.mem_map.mp hx
    exact h2 p hp⟩).length_eq
  simpa using this
/-- a sorted list of pairs -/
theorem sorted_pairs {G : Hp} {n m : Nat} {ps qs : List (Nat × Nat)} {xs ys : List V} (pw : PW n m ps) (hp : qs.Perm ps) (hx : DaAll G [] xs (qs.map dpair)) (hy : ys.Perm xs)
    (hs : ys.Pairwise (fun x y => ∀ a b n m, x = .ref a → G a = some (.tup (List.map V.int n)) → y = .ref b → G b = some (.tup (List.map V.int m)) → TS.code 64 n ≤ TS.code 64 m)) : DaAll G [] ys (ps.map dpair) := by
  classical
  have look : ∀ x ∈ xs, ∃ (a : Addr) (q : Nat × Nat), x = .ref a ∧ q ∈ qs ∧ G a = some (.tup (List.map V.int [(q.1 : Int), (q.2 : Int)])) := fun x hm => by
    obtain ⟨i, hi, e⟩ := List.getElem_of_mem hm
    obtain ⟨d, h1, h2⟩ := daAll_of hx (i := i) (x := x) (by rw [List.getElem?_eq_getElem hi, e])
    rw [List.getElem?_map] at h1
    cases hq : qs[i]? with
    | none => rw [hq] at h1; cases h1
    | some q =>
      rw [hq] at h1
      cases h1
      obtain ⟨a, zs, rfl, ha, hzs⟩ := da_tup h2
      obtain ⟨v1, v2, rfl, h4, h5⟩ := da2 hzs
      rw [da_int h4, da_int h5] at ha
      exact ⟨a, q, rfl, List.mem_of_getElem? hq, ha⟩
  let key : V → Nat × Nat := fun x => if h : ∃ (a : Addr) (q : Nat × Nat), x = .ref a ∧ G a = some (.tup (List.map V.int [(q.1 : Int), (q.2 : Int)])) then h.choose_spec.choose else (0, 0)
  have key_eq : ∀ {a : Addr} {q : Nat × Nat}, G a = some (.tup (List.map V.int [(q.1 : Int), (q.2 : Int)])) → key (.ref a) = q := fun {a q} ha => by
    have h : ∃ (b : Addr) (r : Nat × Nat), V.ref a = .ref b ∧ G b = some (.tup (List.map V.int [(r.1 : Int), (r.2 : Int)])) := ⟨a, q, rfl, ha⟩
    show (if h : _ then _ else _) = q
    rw [dif_pos h]
    have s := h.choose_spec.choose_spec
    have e : a = h.choose := by injection s.1
    have s2 := ha.symm.trans ((congrArg G e).trans s.2)
    simp only [List.map_cons, List.map_nil, Option.some.injEq, HO.tup.injEq, List.cons.injEq, V.int.injEq, Int.natCast_inj, and_true] at s2
    exact Prod.ext s2.1.symm s2.2.symm
  have hkx : xs.map key = qs := by
    refine List.ext_getElem (by rw [List.length_map, daAll_len hx, List.length_map]) fun i h1 h2 => ?_
    rw [List.getElem_map]
    rw [List.length_map] at h1
    obtain ⟨d, e1, e2⟩ := daAll_of hx (i := i) (x := xs[i]) (List.getElem?_eq_getElem h1)
    rw [List.getElem?_map, List.getElem?_eq_getElem h2] at e1
    cases e1
    obtain ⟨a, zs, ex, ha, hzs⟩ := da_tup e2
    obtain ⟨v1, v2, rfl, h4, h5⟩ := da2 hzs
    rw [da_int h4, da_int h5] at ha
    rw [ex]
    exact key_eq ha
  have hky : (ys.map key).Perm ps := (hkx ▸ hy.map key).trans hp
  have lk : ∀ x ∈ ys, ∃ a, x = .ref a ∧ key x ∈ ps ∧ G a = some (.tup (List.map V.int [((key x).1 : Int), ((key x).2 : Int)])) := fun x hm => by
    obtain ⟨a, q, rfl, h1, h2⟩ := look x (hy.mem_iff.mp hm)
    exact ⟨a, rfl, by rw [key_eq h2]; exact hp.mem_iff.mp h1, by rw [key_eq h2]; exact h2⟩
  have e : ys.map key = ps := by
    refine List.Perm.eq_of_pairwise (le := fun p q : Nat × Nat => p.1 * 64 + p.2 ≤ q.1 * 64 + q.2) (fun p q h1 h2 h3 h4 => ?_) ?_ ?_ hky
    · have i1 := pw.inr p (hky.mem_iff.mp h1)
      have i2 := pw.inr q h2
      have := pw.n5
      have := pw.m5
      exact Prod.ext (by omega) (by omega)
    · refine List.pairwise_map.mpr (List.Pairwise.imp_of_mem (fun {x y} hx hy z => ?_) hs)
      obtain ⟨a, ea, h1, h2⟩ := lk x hx
      obtain ⟨b, eb, h3, h4⟩ := lk y hy
      have := z a b _ _ ea h2 eb h4
      rw [code_pair, code_pair] at this
      omega
    · refine pw.srt.imp_of_mem fun {p q} h1 h2 z => ?_
      have i1 := pw.inr p h1
      have i2 := pw.inr q h2
      have := pw.n5
      have := pw.m5
      rcases z with z | z <;> omega
  rw [← e, List.map_map]
  refine daAll_mk (by rw [List.length_map]) fun i x d h1 h2 => ?_
  rw [List.getElem?_map, h1] at h2
  cases h2
  obtain ⟨a, rfl, _, h3⟩ := lk x (List.mem_of_getElem? h1)
  exact pair_da h3
section
variable {P : Program} {w : World} {K : PySem.W.Frag} {mg : Str → Option Value} {base : Heap}
theorem sc_is_couple : FnScope ["points", "walls", "thing"] ["points", "walls", "thing"] (defScope s_is_couple) := ⟨rfl, rfl, rfl, by decide +kernel, rfl, by decide +kernel, by decide +kernel⟩
def R_is_couple : Rel := fun ws G post => ∃ (n m : Nat) (q : Nat × Nat) (v : V), ws = [.int (n : Int), .int (m : Int), v] ∧ Da G [] v (dpair q) ∧ q.1 < n ∧ q.2 < m ∧ post = fun r _ => r = .bl true
theorem cal_is_couple (T : Txt K mg) : C8.Cal P w K mg base 2 "is_couple" (Fn (SP R_is_couple)) [] := by
  refine cal_by T.d_is_couple sc_is_couple (fun vs G O R h => ?_) (fun f cdv A outer s H vs G O R E hr h => ?_)
  · obtain ⟨_, _, ⟨_, _, _, _, rfl, _⟩, _⟩ := h; rfl
  · obtain ⟨rfl, post, ⟨n, m, q, v, rfl, hv, h1, h2, rfl⟩, rfl⟩ := h
    refine ⟨_, (pss_cons (ps_if (PW.pt (pw_or (pt_not (pt_val (pe_callB (isiTK K rfl) rfl T.b_isinstance PyProof.Rows.boot_isinstance (pa_cons (pv 2) (pa_cons (pe_tup (pa_cons (pe_bltn (v := .ty "list") rfl T.b_list PyProof.Rows.boot_list rfl) (pa_cons (pe_bltn (v := .ty "tuple") rfl T.b_tuple PyProof.Rows.boot_tuple rfl) pa_nil))) pa_nil))))) (pw_or1 (pt_cmpR op_ne (pe_callB (lenK K rfl) rfl T.b_len PySem.boot_len (pa_cons (pv 2) pa_nil)) pe_int (nomark _)))))
      (pss_one (ps_ret pe_bl))
      pss_nil)
    (pss_one (ps_ret (pe_and (C8.pe_c (cal_is_whole3 T) hr (by omega) rfl (pa_cons (pe_ix (ixK K rfl) (pv 2) pe_int (fun _ _ => rfl)) (pa_cons pe_int (pa_cons (pe_op op_sub (pv 0) pe_int) pa_nil)))) (pe_one (C8.pe_c (cal_is_whole3 T) hr (by omega) rfl (pa_cons (pe_ix (ixK K rfl) (pv 2) pe_int (fun _ _ => rfl)) (pa_cons pe_int (pa_cons (pe_op op_sub (pv 1) pe_int) pa_nil))))))))), ?_⟩
    show WS _ [some (.int (n : Int)), some (.int (m : Int)), some (v)] _ _ _
    walk_at "go"
    rintro tv G2 e2 htv
    have hv := Da.up e2 hv
    walk_at "go"
    refine r_isLT (.inr hv) htv ?_
    walk_at "go"
    refine r_lenD (.inr hv) ?_
    walk_at "go"
    refine cj_ni (fun h => absurd rfl h) fun _ => ?_
    walk_at "go"
    refine r_atD (j := 0) (.inr hv) rfl rfl fun x hx => ?_
    rw [da_int hx]
    walk_at "go"
    refine f_p ⟨_, _, _, rfl, .inl ⟨(q.1 : Int), some 0, some ((n : Int) - 1), rfl, rfl, rfl, rfl⟩⟩ fun v3 G3 e3 hv3 => ?_
    have b1 : (geO (some 0) (q.1 : Int) && leO (some ((n : Int) - 1)) (q.1 : Int)) = true := geo_true (by omega) (by omega)
    rw [b1] at hv3
    subst hv3
    have hv := Da.up e3 hv
    walk_at "go"
    refine r_atD (j := 1) (.inr hv) rfl rfl fun x hx => ?_
    rw [da_int hx]
    walk_at "go"
    refine f_p ⟨_, _, _, rfl, .inl ⟨(q.2 : Int), some 0, some ((m : Int) - 1), rfl, rfl, rfl, rfl⟩⟩ fun v4 G4 e4 hv4 => ?_
    have b2 : (geO (some 0) (q.2 : Int) && leO (some ((m : Int) - 1)) (q.2 : Int)) = true := geo_true (by omega) (by omega)
    rw [b2] at hv4
    exact ⟨rfl, hv4⟩
theorem sc_Picture_init : FnScope ["self", "points", "walls", "pairs", "told", "thing"] ["self", "points", "walls", "pairs"] (defScope s_Picture_init) := ⟨rfl, rfl, rfl, by decide +kernel, rfl, by decide +kernel, by decide +kernel⟩
def R_mk_pic : RelM := fun ws G post => ∃ (n m : Nat) (ps qs : List (Nat × Nat)) (vp : V), ws = [.int (n : Int), .int (m : Int), vp] ∧ PW n m ps ∧ Da G [] vp (.list (qs.map dpair)) ∧ qs.Perm ps ∧ post = fun fs G' => ∃ vl, fs = ([("points", .int (n : Int)), ("walls", .int (m : Int)), ("pairs", vl)] : List (Str × V)) ∧ Da G' [] vl (.tuple (ps.map dpair))
theorem mak_Picture (T : Txt K mg) : C8.Mak P w K mg base 3 "Picture" (ga K "Picture") (Fn (SM (ga K "Picture") R_mk_pic)) [] := by
  refine mak_by T.mk_Picture T.g_Picture T.f_Picture_init sc_Picture_init (fun vs G O R h => ?_) (fun cdv A outer s H vs G O R E hr h => ?_)
  · obtain ⟨x, dx, ws, rfl, _, _, ⟨_, _, _, _, _, rfl, _⟩, _⟩ := h; rfl
  · obtain ⟨x, dx, ws, rfl, rfl, post, ⟨n, m, ps, qs, vp, rfl, pw, hvp, hperm, rfl⟩, rfl⟩ := h
    refine ⟨_, (pss_cons (ps_if (pt_not (pt_val (C8.pe_c (cal_is_whole3 T) hr (by omega) rfl (pa_cons (pv 1) (pa_cons pe_int (pa_cons pe_int pa_nil))))))
      (pss_one ps_never)
      pss_nil)
    (pss_cons (ps_if (pt_not (pt_val (C8.pe_c (cal_is_whole3 T) hr (by omega) rfl (pa_cons (pv 2) (pa_cons pe_int (pa_cons pe_int pa_nil))))))
      (pss_one ps_never)
      pss_nil)
    (pss_cons (ps_if (pt_not (pt_val (pe_callB (isiTK K rfl) rfl T.b_isinstance PyProof.Rows.boot_isinstance (pa_cons (pv 3) (pa_cons (pe_tup (pa_cons (pe_bltn (v := .ty "list") rfl T.b_list PyProof.Rows.boot_list rfl) (pa_cons (pe_bltn (v := .ty "tuple") rfl T.b_tuple PyProof.Rows.boot_tuple rfl) pa_nil))) pa_nil)))))
      (pss_one ps_never)
      pss_nil)
    (pss_cons (ps_set (i := 4) sc_Picture_init.nd rfl (Or.inl rfl) (pe_lst pa_nil))
    (pss_cons (ps_for PassesOwn.never rfl (pi_listK K rfl (pv 3)) (pg_name (i := 5) sc_Picture_init.nd rfl (Or.inl rfl))
      (pss_cons (ps_if (pt_not (pt_val (C8.pe_c (cal_is_couple T) hr (by omega) rfl (pa_cons (pv 1) (pa_cons (pv 2) (pa_cons (pv 5) pa_nil))))))
        (pss_one ps_never)
        pss_nil)
      (pss_one (ps_expr (pe_bm PySem.F.plainAttrs_list PySem.F.slot_list_append PySem.F.type_list_append mt_append (pv 4) (pa_cons (pe_tup (pa_cons (pe_ix (ixK K rfl) (pv 5) pe_int (fun _ _ => rfl)) (pa_cons (pe_ix (ixK K rfl) (pv 5) pe_int (fun _ _ => rfl)) pa_nil))) pa_nil))))))
    (pss_cons (ps_if (pt_cmpR op_ne (pe_callB (lenSetK K P w rfl rfl rfl) rfl T.b_len PySem.boot_len (pa_cons (pe_callTy (setK K P w rfl rfl rfl rfl hr.units) rfl T.b_set PyProof.Rows.boot_set (pa_cons (pv 4) pa_nil)) pa_nil)) (pe_callB (lenK K rfl) rfl T.b_len PySem.boot_len (pa_cons (pv 4) pa_nil)) (nomark _))
      (pss_one ps_never)
      pss_nil)
    (pss_cons (ps_fldK K rfl (pv 0) (pv 1) rfl)
    (pss_cons (ps_fldK K rfl (pv 0) (pv 2) rfl)
    (pss_one (ps_fldK K rfl (pv 0) (pe_callTy (tupleK K rfl) rfl T.b_tuple PyProof.Rows.boot_tuple (pa_cons (pe_callB (sortK K rfl) rfl T.b_sorted PyProof.Rows.boot_sorted (pa_cons (pv 4) pa_nil)) pa_nil)) rfl)))))))))), ?_⟩
    show WS _ [some (.ref x), some (.int (n : Int)), some (.int (m : Int)), some (vp), none, none] _ _ _
    have n1 := pw.n1
    have n5 := pw.n5
    have m1 := pw.m1
    have m5 := pw.m5
    have l25 := pw.len
    have ql := hperm.length_eq
    walk_at "go"
    refine f_p ⟨_, _, _, rfl, .inl ⟨(n : Int), some 1, some 5, rfl, rfl, rfl, rfl⟩⟩ fun v3 G3 e3 hv3 => ?_
    rw [geo_true (by omega) (by omega)] at hv3
    subst hv3
    walk_at "go"
    refine f_p ⟨_, _, _, rfl, .inl ⟨(m : Int), some 1, some 5, rfl, rfl, rfl, rfl⟩⟩ fun v4 G4 e4 hv4 => ?_
    rw [geo_true (by omega) (by omega)] at hv4
    subst hv4
    walk_at "go"
    rintro tv G5 e5 htv
    walk_at "go"
    have hvp := Da.up ((e3.trans e4).trans e5) hvp
    refine r_isLT (.inl hvp) htv ?_
    walk_at "go"
    refine w_lst ?_
    walk_at "go"
    refine ⟨by decide, fun lp hlp => ?_⟩
    show WS _ _ _ [(x, .ins (ga K "Picture") dx []), (lp, .lst [])] _
    obtain ⟨vpa, vxs, rfl, hvpa, hvxs⟩ := da_lst hvp
    have hvl := daAll_len hvxs
    rw [List.length_map] at hvl
    refine ws_seq ?_
    refine ws_for (i_list ?_)
    walk_at "go"
    refine ⟨vpa, vxs, rfl, .inl hvpa, _, _, wk_list hvpa, fun i σ G' O' => ∃ (u : Option V) (xs : List V), σ = [some (.ref x), some (.int (n : Int)), some (.int (m : Int)), some (.ref vpa), some (.ref lp), u] ∧ O' = [(x, .ins (ga K "Picture") dx []), (lp, .lst xs)] ∧ DaAll G' [] xs ((qs.take i).map dpair), ⟨_, [], rfl, rfl, by rw [List.take_zero]; exact .nil⟩, ?_, ?_⟩
    · rintro i y σ' G' O' hi e6 ⟨u, xs, rfl, rfl, hxs⟩ G6 e7 hy
      have hiq : i < qs.length := by omega
      obtain ⟨d, h1, h2⟩ := daAll_of hvxs hy
      rw [List.getElem?_map, List.getElem?_eq_getElem hiq] at h1
      cases h1
      have hyd := Da.up (e6.trans e7) h2
      have inr := pw.inr _ (hperm.mem_iff.mp (List.getElem_mem hiq))
      have hxs := DaAll.up e7 hxs
      have hxl := daAll_len hxs
      rw [List.length_map, List.length_take] at hxl
      walk_at "go"
      refine f_p ⟨n, m, qs[i], y, rfl, hyd, inr.1, inr.2, rfl⟩ fun v7 G7 e8 hv7 => ?_
      subst hv7
      have hyd := Da.up e8 hyd
      walk_at "go"
      refine w_append ?_
      walk_at "go"
      refine ⟨1, lp, xs, rfl, rfl, ?_⟩
      walk_at "go"
      refine r_atD (j := 0) (.inr hyd) rfl rfl fun z0 hz0 => ?_
      rw [da_int hz0]
      walk_at "go"
      refine r_atD (j := 1) (.inr hyd) rfl rfl fun z1 hz1 => ?_
      rw [da_int hz1]
      walk_at "go"
      refine ⟨_, by simp, .cons (.int _) (.cons (.int _) .nil), fun vt G8 e9 hvt => ?_⟩
      refine ⟨rfl, by omega, ?_⟩
      walk_at "go"
      refine ⟨_, _, rfl, rfl, ?_⟩
      rw [List.take_succ, List.getElem?_eq_getElem hiq, List.map_append]
      exact daAll_snoc (DaAll.up (e8.trans e9) hxs) hvt
    · rintro σ' G6 O' e6 ⟨u, xs, rfl, rfl, hxs⟩
      rw [hvl, List.take_length] at hxs
      have hxl := daAll_len hxs
      rw [List.length_map] at hxl
      obtain ⟨ks, hk1, hk2, hk3⟩ := pairs_ks hxs
      have hkl : ks.length = xs.length := by rw [hk1, List.length_map]
      refine ws_seq (ws_if (t_test (w_op (w_cb (w_cons (w_cb (w_cons (w_var rfl (w_nil ?_)))))))))
      refine r_setOfT (ks := ks) (.inr (by rw [← hk1]; simp)) hk3 (by omega) fun sa L h1 h2 => ?_
      refine w_nil ?_
      refine r_lenSet 2 rfl (fun p hp => hk3 p (h1 p hp)) fun hnd => ?_
      have hn2 : (ks.map (·.2)).Nodup := by rw [hk2]; exact nodup_map2 (hperm.nodup_iff.mpr (pw_nodup pw))
      rw [ks_len hnd hn2 h1 h2]
      refine w_cb (w_cons (w_var rfl (w_nil ?_)))
      refine r_len (ys := xs) (.inr (.inr (by simp))) ?_
      walk_at "go"
      refine cj_ni (fun h => absurd (by rw [hkl]) h) fun _ => ?_
      refine ws_nx ?_
      refine ws_freeze 2 rfl fun G7 e7 hset => ?_
      show WS _ _ _ [(x, _), (lp, .lst xs)] _
      refine ws_frzD 1 rfl (DaAll.up e7 hxs) fun G8 e8 htold => ?_
      show WS _ _ _ [(x, _)] _
      refine ws_seq (ws_fldset 0 T.na_Picture_points T.cl_Picture ?_)
      walk_at "go"
      refine ⟨_, _, _, rfl, rfl, by decide, ?_⟩
      refine ws_seq (ws_fldset 0 T.na_Picture_walls T.cl_Picture ?_)
      walk_at "go"
      refine ⟨_, _, _, rfl, rfl, (by show 1 < 1000; decide), ?_⟩
      refine ws_fldset 0 T.na_Picture_pairs T.cl_Picture ?_
      refine w_cb (w_cons (w_cb (w_cons (w_var rfl (w_nil ?_)))))
      obtain ⟨a2, xs2, e9, h9, h10⟩ := da_lst htold
      cases e9
      refine r_sortU (.inl h9) (by rw [daAll_len h10, List.length_map]; omega) (fun z hz => ?_) fun ys p hyp hys => ?_
      · obtain ⟨ks2, hk4, hk5, hk6⟩ := pairs_ks h10
        rw [hk4] at hz
        obtain ⟨kp, hkp, rfl⟩ := List.mem_map.mp hz
        have : kp.2 ∈ qs.map (fun q => [(q.1 : Int), (q.2 : Int)]) := by rw [← hk5]; exact List.mem_map.mpr ⟨kp, hkp, rfl⟩
        obtain ⟨q, hq, eq⟩ := List.mem_map.mp this
        have inr := pw.inr q (hperm.mem_iff.mp hq)
        refine ⟨kp.1, kp.2, rfl, hk6 kp hkp, by rw [← eq]; rfl, ?_⟩
        rw [← eq]
        intro z hz
        simp only [List.mem_cons, List.not_mem_nil, or_false] at hz
        rcases hz with rfl | rfl <;> omega
      · have hfin := sorted_pairs pw hperm h10 hyp hys
        refine w_frzD 1 rfl hfin fun G9 e9 hsl => ?_
        refine w_nil ?_
        refine r_tupleD (.inl hsl) fun vl G10 e10 hvl => ?_
        walk_at "go"
        exact ⟨_, _, _, rfl, rfl, (by show 2 < 1000; decide), rfl, _, rfl, vl, rfl, hvl⟩
end
/-! text T2 -/
/-! ### displays of plain data -/
def TD (σ : L2.St) (te : TE) (d : PyData) : Prop := ∀ (G : Hp) (O : OL) (R : V → Hp → OL → Prop), (∀ v G', Ex G G' → Da G' [] v d → R v G' O) → W (te σ) G O R
def TDs (σ : L2.St) (t : TA) (ds : List PyData) : Prop := ∀ (G : Hp) (O : OL) (R : List V → Hp → OL → Prop), (∀ v G', Ex G G' → DaAll G' [] v ds → R v G' O) → W (t σ) G O R
section
variable {σ : L2.St} {te tf : TE} {t : TA} {d : PyData} {ds : List PyData}
theorem td_int {i : Int} : TD σ (tC (.int i)) (.int i) := fun G O R q => w_c (q _ G (.refl _) (.int _))
theorem td_bl {b : Bool} : TD σ (tC (.bl b)) (.bool b) := fun G O R q => w_c (q _ G (.refl _) (.bl _))
theorem td_non : TD σ (tC .non) .none := fun G O R q => w_c (q _ G (.refl _) .non)
theorem td_varI {k : Nat} {i : Int} (h : σ[k]? = some (some (.int i))) : TD σ (tVar k) (.int i) := fun G O R q => w_var h (q _ G (.refl _) (.int _))
theorem tds_nil : TDs σ tNil [] := fun G O R q => w_nil (q _ G (.refl _) .nil)
theorem tds_cons (h : TD σ te d) (h2 : TDs σ t ds) : TDs σ (tCons te t) (d :: ds) := fun G O R q => w_cons (h _ _ _ fun v G1 e1 hv => h2 _ _ _ fun vs G2 e2 hvs => q _ G2 (e1.trans e2) (.cons (Da.up e2 hv) hvs))
theorem td_tup (h : TDs σ t ds) (hl : ds.length ≤ 1000) : TD σ (tTup t) (.tuple ds) := fun G O R q => w_tupD (h _ _ _ fun vs G1 e1 hvs => ⟨ds, hl, hvs, fun x G2 e2 hx => q _ G2 (e1.trans e2) hx⟩)
theorem td_lst (h : TDs σ t ds) (hl : ds.length ≤ 1000) : TD σ (tLst t) (.list ds) := fun G O R q => w_lstD (h _ _ _ fun vs G1 e1 hvs => ⟨ds, hl, hvs, fun x G2 e2 hx => q _ G2 (e1.trans e2) hx⟩)
end
section
variable {P : Program} {w : World} {K : PySem.W.Frag} {mg : Str → Option Value} {base : Heap}
/-- the pairs told before (i, j) -/
structure PL (n m i j : Nat) (l : List (Nat × Nat)) : Prop where
  inr : ∀ p ∈ l, p.1 < n ∧ p.2 < m ∧ (p.1 < i ∨ (p.1 = i ∧ p.2 < j))
  srt : l.Pairwise fun p q => p.1 < q.1 ∨ (p.1 = q.1 ∧ p.2 < q.2)
  len : l.length ≤ m * i + j
theorem PL.zero {n m : Nat} : PL n m 0 0 [] := ⟨fun p hp => (by cases hp), List.Pairwise.nil, Nat.zero_le _⟩
theorem PL.skip {n m i j : Nat} {l : List (Nat × Nat)} (h : PL n m i j l) : PL n m i (j + 1) l := ⟨fun p hp => by have := h.inr p hp; exact ⟨this.1, this.2.1, by omega⟩, h.srt, by have := h.len; omega⟩
theorem PL.add {n m i j : Nat} {l : List (Nat × Nat)} (h : PL n m i j l) (hi : i < n) (hj : j < m) : PL n m i (j + 1) (l ++ [(i, j)]) := by
  refine ⟨fun p hp => ?_, ?_, by rw [List.length_append]; have := h.len; simp only [List.length_cons, List.length_nil]; omega⟩
  · rcases List.mem_append.mp hp with hp | hp
    · have := h.inr p hp; exact ⟨this.1, this.2.1, by omega⟩
    · simp only [List.mem_singleton] at hp; subst hp; exact ⟨hi, hj, .inr ⟨rfl, Nat.lt_succ_self _⟩⟩
  · refine List.pairwise_append.mpr ⟨h.srt, by simp, fun p hp q hq => ?_⟩
    simp only [List.mem_singleton] at hq; subst hq
    exact (h.inr p hp).2.2
theorem PL.row {n m i : Nat} {l : List (Nat × Nat)} (h : PL n m i m l) : PL n m (i + 1) 0 l := ⟨fun p hp => by have := h.inr p hp; exact ⟨this.1, this.2.1, by omega⟩, h.srt, by have := h.len; rw [Nat.mul_succ]; omega⟩
theorem PL.pw {n m : Nat} {l : List (Nat × Nat)} (h : PL n m n 0 l) (n1 : 1 ≤ n) (n5 : n ≤ 5) (m1 : 1 ≤ m) (m5 : m ≤ 5) : PW n m l := ⟨n1, n5, m1, m5, fun p hp => ⟨(h.inr p hp).1, (h.inr p hp).2.1⟩, h.srt, by have := h.len; have : m * n ≤ 5 * 5 := Nat.mul_le_mul m5 n5; omega⟩
theorem sc_law_picture : FnScope ["_law_hand_here", "_law_high", "_law_pick", "_law_points", "_law_shuts", "_law_shut", "_law_pairs", "_law_point", "_law_shut_here", "_law_keep"] ["_law_hand_here", "_law_high"] (defScope s_law_picture) := ⟨rfl, rfl, rfl, by decide +kernel, rfl, by decide +kernel, by decide +kernel⟩
def R_law_picture : Rel := fun ws _ post => ws = [.int 5] ∧ post = fun v G' => ∃ n m ps, PW n m ps ∧ Da G' [] v (dpic n m ps)
theorem cal_law_picture (T : Txt K mg) : C8.Cal P w K mg base 3 "_law_picture" (Fn (SH R_law_picture)) [] := by
  refine cal_by T.d_law_picture sc_law_picture (fun vs G O R h => ?_) (fun f cdv A outer s H vs G O R E hr h => ?_)
  · obtain ⟨_, _, _, rfl, _, _, _, ⟨rfl, _⟩, _⟩ := h; rfl
  · obtain ⟨h, o, _, rfl, rfl, ho, post, ⟨rfl, rfl⟩, rfl⟩ := h
    refine ⟨_, (pss_cons (ps_set (i := 2) sc_law_picture.nd rfl (Or.inl rfl) (C8.pe_c (cal_law_draw T) hr (by omega) rfl (pa_cons (pv 0) (pa_cons pe_int pa_nil))))
    (pss_cons (ps_set (i := 3) sc_law_picture.nd rfl (Or.inl rfl) (pe_op op_add pe_int (C8.pe_c (cal_law_draw T) hr (by omega) rfl (pa_cons (pv 0) (pa_cons (pv 1) pa_nil)))))
    (pss_cons (ps_set (i := 4) sc_law_picture.nd rfl (Or.inl rfl) (pe_op op_add pe_int (C8.pe_c (cal_law_draw T) hr (by omega) rfl (pa_cons (pv 0) (pa_cons (pv 1) pa_nil)))))
    (pss_cons (ps_if (pt_cmpR op_lt (pv 2) pe_int (nomark _))
      (pss_one (ps_asg (pe_ix (ixK K rfl) (pe_tup (pa_cons (pe_tup (pa_cons pe_int (pa_cons pe_int pa_nil))) (pa_cons (pe_tup (pa_cons pe_int (pa_cons pe_int pa_nil))) (pa_cons (pe_tup (pa_cons pe_int (pa_cons pe_int pa_nil))) (pa_cons (pe_tup (pa_cons pe_int (pa_cons pe_int pa_nil))) (pa_cons (pe_tup (pa_cons pe_int (pa_cons pe_int pa_nil))) (pa_cons (pe_tup (pa_cons pe_int (pa_cons pe_int pa_nil))) pa_nil))))))) (pv 2) (fun _ _ => rfl)) (pg_tupK K rfl (n := 2) rfl (pgs_cons (pg_name (i := 3) sc_law_picture.nd rfl (Or.inl rfl)) (pgs_cons (pg_name (i := 4) sc_law_picture.nd rfl (Or.inl rfl)) pgs_nil)))))
      pss_nil)
    (pss_cons (ps_set (i := 5) sc_law_picture.nd rfl (Or.inl rfl) (pe_ix (ixK K rfl) (pe_tup (pa_cons pe_int (pa_cons pe_int (pa_cons pe_int (pa_cons pe_int pa_nil))))) (C8.pe_c (cal_law_draw T) hr (by omega) rfl (pa_cons (pv 0) (pa_cons pe_int pa_nil))) (fun _ _ => rfl)))
    (pss_cons (ps_set (i := 6) sc_law_picture.nd rfl (Or.inl rfl) (pe_lst pa_nil))
    (pss_cons (ps_for PassesOwn.never rfl (pi_range1 rfl T.b_range (pa_cons (pv 3) pa_nil)) (pg_name (i := 7) sc_law_picture.nd rfl (Or.inl rfl))
      (pss_one (ps_for PassesOwn.never rfl (pi_range1 rfl T.b_range (pa_cons (pv 4) pa_nil)) (pg_name (i := 8) sc_law_picture.nd rfl (Or.inl rfl))
        (pss_cons (ps_if (pt_cmpR op_eq (pv 2) pe_int (nomark _))
          (pss_one (ps_set (i := 9) sc_law_picture.nd rfl (Or.inl rfl) (pe_or (pe_cmpR op_ne (pv 7) (pv 8) (nomark _)) (pe_one (pe_cmpR op_eq (pv 5) pe_int (nomark _))))))
          (pss_one (ps_if (pt_cmpR op_eq (pv 5) pe_int (nomark _))
            (pss_one (ps_set (i := 9) sc_law_picture.nd rfl (Or.inl rfl) pe_bl))
            (pss_one (ps_set (i := 9) sc_law_picture.nd rfl (Or.inl rfl) (pe_cmpR op_ge (C8.pe_c (cal_law_draw T) hr (by omega) rfl (pa_cons (pv 0) (pa_cons pe_int pa_nil))) (pv 5) (nomark _)))))))
        (pss_one (ps_if (pt_val (pv 9))
          (pss_one (ps_expr (pe_bm PySem.F.plainAttrs_list PySem.F.slot_list_append PySem.F.type_list_append mt_append (pv 6) (pa_cons (pe_tup (pa_cons (pv 7) (pa_cons (pv 8) pa_nil))) pa_nil))))
          pss_nil))))))
    (pss_one (ps_ret (pe_lst (pa_cons (pv 3) (pa_cons (pv 4) (pa_cons (pv 6) pa_nil))))))))))))), ?_⟩
    show WS _ [some (.ref h), some (.int 5), none, none, none, none, none, none, none, none] _ _ _
    walk_at "go"
    refine f_h ho ⟨_, rfl, by decide, by decide, rfl⟩ fun v G1 o1 e1 ho1 hk => ?_
    obtain ⟨k, rfl, hk0, hk1⟩ := hk
    walk_at "go"
    refine f_h ho1 ⟨_, rfl, by decide, by decide, rfl⟩ fun v G2 o2 e2 ho2 hk => ?_
    obtain ⟨k2, rfl, hk20, hk21⟩ := hk
    walk_at "go"
    refine f_h ho2 ⟨_, rfl, by decide, by decide, rfl⟩ fun v G3 o3 e3 ho3 hk => ?_
    obtain ⟨k3, rfl, hk30, hk31⟩ := hk
    refine r_I0 ?_
    refine ws_seqI (fun σ G' O' => ∃ (n m : Nat), σ = [some (.ref h), some (.int 5), some (.int k), some (.int (n : Int)), some (.int (m : Int)), none, none, none, none, none] ∧ O' = [(h, o3)] ∧ HdOk G' o3 ∧ 1 ≤ n ∧ n ≤ 5 ∧ 1 ≤ m ∧ m ≤ 5) ?_ ?_
    · walk_at "go"
      walk_at "if"
      · intro hk6
        refine ws_asg (w_op ((td_tup (ds := [.tuple [.int 2, .int 2], .tuple [.int 2, .int 3], .tuple [.int 3, .int 3], .tuple [.int 3, .int 2], .tuple [.int 3, .int 4], .tuple [.int 4, .int 4]]) ?_ (by decide)) _ _ _ fun vt G4 e4 hvt => ?_))
        · refine tds_cons (td_tup (tds_cons td_int (tds_cons td_int tds_nil)) (by decide)) (tds_cons (td_tup (tds_cons td_int (tds_cons td_int tds_nil)) (by decide)) (tds_cons (td_tup (tds_cons td_int (tds_cons td_int tds_nil)) (by decide)) (tds_cons (td_tup (tds_cons td_int (tds_cons td_int tds_nil)) (by decide)) (tds_cons (td_tup (tds_cons td_int (tds_cons td_int tds_nil)) (by decide)) (tds_cons (td_tup (tds_cons td_int (tds_cons td_int tds_nil)) (by decide)) tds_nil)))))
        walk_at "go"
        have key : ∀ j : Nat, j < 6 → ∃ n m : Nat, ([PyData.tuple [.int 2, .int 2], .tuple [.int 2, .int 3], .tuple [.int 3, .int 3], .tuple [.int 3, .int 2], .tuple [.int 3, .int 4], .tuple [.int 4, .int 4]] : List PyData)[j]? = some (.tuple [.int (n : Int), .int (m : Int)]) ∧ 1 ≤ n ∧ n ≤ 5 ∧ 1 ≤ m ∧ m ≤ 5 := fun j hj => by
          match j, hj with
          | 0, _ => exact ⟨2, 2, rfl, by decide, by decide, by decide, by decide⟩
          | 1, _ => exact ⟨2, 3, rfl, by decide, by decide, by decide, by decide⟩
          | 2, _ => exact ⟨3, 3, rfl, by decide, by decide, by decide, by decide⟩
          | 3, _ => exact ⟨3, 2, rfl, by decide, by decide, by decide, by decide⟩
          | 4, _ => exact ⟨3, 4, rfl, by decide, by decide, by decide, by decide⟩
          | 5, _ => exact ⟨4, 4, rfl, by decide, by decide, by decide, by decide⟩
        obtain ⟨n, m, hnm, b1, b2, b3, b4⟩ := key k.toNat (by omega)
        refine r_atD (j := k.toNat) (.inr hvt) hnm (by omega) fun z hz => ?_
        refine g_tupD hz rfl fun zs hzs => ?_
        obtain ⟨w1, w2, rfl, h1, h2⟩ := da2 hzs
        rw [da_int h1, da_int h2]
        refine g_cons (g_name (g_cons (g_name (g_nil ?_))))
        exact ⟨n, m, rfl, rfl, hd_up e4 ho3, b1, b2, b3, b4⟩
      · intro _
        walk_at "go"
        refine ⟨(1 + k2).toNat, (1 + k3).toNat, ?_, rfl, ho3, by omega, by omega, by omega, by omega⟩
        rw [Int.toNat_of_nonneg (by omega), Int.toNat_of_nonneg (by omega)]
    rintro σ' G4 O4 e4 ⟨n, m, rfl, rfl, ho4, n1, n5, m1, m5⟩
    refine ws_seq (ws_set (w_op ((td_tup (ds := [.int 0, .int 0, .int 1, .int 3]) (tds_cons td_int (tds_cons td_int (tds_cons td_int (tds_cons td_int tds_nil)))) (by decide)) _ _ _ fun vt G5 e5 hvt => ?_)))
    walk_at "go"
    refine f_h (hd_up e5 ho4) ⟨_, rfl, by decide, by decide, rfl⟩ fun v G6 o6 e6 ho6 hk => ?_
    obtain ⟨k4, rfl, hk40, hk41⟩ := hk
    have key : ∀ j : Nat, j < 4 → ∃ s : Int, ([PyData.int 0, .int 0, .int 1, .int 3] : List PyData)[j]? = some (.int s) := fun j hj => by
      match j, hj with
      | 0, _ => exact ⟨_, rfl⟩
      | 1, _ => exact ⟨_, rfl⟩
      | 2, _ => exact ⟨_, rfl⟩
      | 3, _ => exact ⟨_, rfl⟩
    obtain ⟨sh, hsh⟩ := key k4.toNat (by omega)
    refine r_atD (j := k4.toNat) (.inr (Da.up e6 hvt)) hsh (by omega) fun z hz => ?_
    rw [da_int hz]
    walk_at "go"
    refine w_lst ?_
    walk_at "go"
    refine ⟨by decide, fun lp hlp => ?_⟩
    show WS _ _ _ [(h, o6), (lp, .lst [])] _
    refine ws_seq ?_
    refine ws_for (i_range1 ?_)
    walk_at "go"
    refine ⟨by omega, by omega, _, _, wk_range0, fun i σ G' O' => ∃ (u7 u8 u9 : Option V) (o' : HO) (xs : List V) (l : List (Nat × Nat)), σ = [some (.ref h), some (.int 5), some (.int k), some (.int (n : Int)), some (.int (m : Int)), some (.int sh), some (.ref lp), u7, u8, u9] ∧ O' = [(h, o'), (lp, .lst xs)] ∧ HdOk G' o' ∧ DaAll G' [] xs (l.map dpair) ∧ PL n m i 0 l, ⟨_, _, _, _, [], [], rfl, rfl, ho6, .nil, .zero⟩, ?_, ?_⟩
    · rintro i x σ' G7 O' hi e7 ⟨u7, u8, u9, o7, xs, l, rfl, rfl, ho7, hxs, hl⟩ G8 e8 rfl
      have hi : i < n := by omega
      refine g_name ?_
      refine ws_for (i_range1 ?_)
      walk_at "go"
      refine ⟨by omega, by omega, _, _, wk_range0, fun j σ G' O' => ∃ (u8 u9 : Option V) (o' : HO) (xs : List V) (l : List (Nat × Nat)), σ = [some (.ref h), some (.int 5), some (.int k), some (.int (n : Int)), some (.int (m : Int)), some (.int sh), some (.ref lp), some (.int (i : Int)), u8, u9] ∧ O' = [(h, o'), (lp, .lst xs)] ∧ HdOk G' o' ∧ DaAll G' [] xs (l.map dpair) ∧ PL n m i j l, ⟨_, _, _, xs, l, rfl, rfl, hd_up e8 ho7, DaAll.up e8 hxs, hl⟩, ?_, ?_⟩
      · rintro j x σ' G9 O' hj e9 ⟨u8, u9, o9, xs, l, rfl, rfl, ho9, hxs, hl⟩ G10 e10 rfl
        have hj : j < m := by omega
        have hxs := DaAll.up e10 hxs
        have ho10 := hd_up e10 ho9
        refine g_name ?_
        refine ws_seqI (fun σ G' O' => ∃ (b : Bool) (o' : HO), σ = [some (.ref h), some (.int 5), some (.int k), some (.int (n : Int)), some (.int (m : Int)), some (.int sh), some (.ref lp), some (.int (i : Int)), some (.int (j : Int)), some (.bl b)] ∧ O' = [(h, o'), (lp, .lst xs)] ∧ HdOk G' o' ∧ DaAll G' [] xs (l.map dpair)) ?_ ?_
        · walk_at "go"
          walk_at "if"
          · intro _
            walk_at "go"
            refine ⟨fun _ => ?_, fun _ => ?_⟩
            · exact ⟨_, _, rfl, rfl, ho10, hxs⟩
            · walk_at "go"
              exact ⟨_, _, rfl, rfl, ho10, hxs⟩
          · intro _
            walk_at "go"
            walk_at "if"
            · intro _
              walk_at "go"
              exact ⟨_, _, rfl, rfl, ho10, hxs⟩
            · intro _
              walk_at "go"
              refine f_h ho10 ⟨_, rfl, by decide, by decide, rfl⟩ fun v G11 o11 e11 ho11 hk => ?_
              obtain ⟨k6, rfl, _, _⟩ := hk
              walk_at "go"
              exact ⟨_, _, rfl, rfl, ho11, DaAll.up e11 hxs⟩
        rintro σ' G11 O11 e11 ⟨b, o11, rfl, rfl, ho11, hxs⟩
        have hxl := daAll_len hxs
        rw [List.length_map] at hxl
        have hll := hl.len
        have hm1 : m * i ≤ 5 * 5 := Nat.mul_le_mul m5 (by omega)
        walk_at "go"
        refine ⟨fun _ => ?_, fun _ => ?_⟩
        · walk_at "go"
          refine w_append ?_
          walk_at "go"
          refine ⟨1, lp, xs, rfl, rfl, ?_⟩
          walk_at "go"
          refine ⟨_, by simp, .cons (.int _) (.cons (.int _) .nil), fun vt G12 e12 hvt => ?_⟩
          refine ⟨rfl, by omega, ?_⟩
          refine ⟨_, _, _, _, l ++ [(i, j)], rfl, rfl, hd_up e12 ho11, ?_, hl.add hi hj⟩
          rw [List.map_append]
          exact daAll_snoc (DaAll.up e12 hxs) hvt
        · walk_at "go"
          exact ⟨_, _, _, _, l, rfl, rfl, ho11, hxs, hl.skip⟩
      · rintro σ' G9 O' e9 ⟨u8, u9, o9, xs, l, rfl, rfl, ho9, hxs, hl⟩
        rw [Int.toNat_natCast] at hl
        exact ⟨_, _, _, _, xs, l, rfl, rfl, ho9, hxs, hl.row⟩
    · rintro σ' G7 O' e7 ⟨u7, u8, u9, o7, xs, l, rfl, rfl, ho7, hxs, hl⟩
      rw [Int.toNat_natCast] at hl
      refine ws_frzD 1 rfl hxs fun G8 e8 hx => ?_
      refine ws_ret (w_lstD ?_)
      walk_at "go"
      exact ⟨[.int (n : Int), .int (m : Int), .list (l.map dpair)], by simp, .cons (.int _) (.cons (.int _) (.cons hx .nil)), fun v G9 e9 hv => ⟨_, rfl, hd_up (e8.trans e9) ho7, n, m, l, hl.pw n1 n5 m1 m5, hv⟩⟩
end
/-! text T3 -/
theorem daAll_erase {G : Hp} {O : OL} : ∀ {xs : List V} {ds : List PyData} {i : Nat}, DaAll G O xs ds → DaAll G O (xs.eraseIdx i) (ds.eraseIdx i)
  | _, _, _, .nil => .nil
  | _, _, 0, .cons h t => t
  | _, _, _ + 1, .cons h t => .cons h (daAll_erase t)
theorem erase_map {α β : Type} (f : α → β) : ∀ (l : List α) (k : Nat), (l.eraseIdx k).map f = (l.map f).eraseIdx k
  | [], _ => rfl
  | _ :: _, 0 => rfl
  | a :: l, k + 1 => by
    show f a :: (l.eraseIdx k).map f = f a :: (l.map f).eraseIdx k
    rw [erase_map f l k]
theorem erase_perm {α : Type} : ∀ {l : List α} {k : Nat} (h : k < l.length), (l[k] :: l.eraseIdx k).Perm l
  | [], _, h => absurd h (Nat.not_lt_zero _)
  | _ :: _, 0, _ => .refl _
  | a :: l, k + 1, h => (List.Perm.swap a _ _).trans ((erase_perm (l := l) (k := k) (Nat.lt_of_succ_lt_succ h)).cons a)
theorem seqIx {k n : Nat} (h : k < n) : seqIndex? (k : Int) n = some k := by
  unfold seqIndex?
  simp [h]
  omega
section
variable {P : Program} {w : World} {K : PySem.W.Frag} {mg : Str → Option Value} {base : Heap}
theorem w_mkPic {t : TA} {G : Hp} {O : OL} {σ : L2.St} {R : V → Hp → OL → Prop} {E0 : XK} (h : W (t σ) G O fun vs G1 O1 => ∃ (n m : Nat) (ps qs : List (Nat × Nat)) (vp : V), vs = [.int (n : Int), .int (m : Int), vp] ∧ PW n m ps ∧ Da G1 [] vp (.list (qs.map dpair)) ∧ qs.Perm ps ∧ ∀ v G2, Ex G1 G2 → PicOk K n m ps G2 v → R v G2 O1) : W (tMake (ga K "Picture") (Fn (SM (ga K "Picture") R_mk_pic)) [] E0 t σ) G O R :=
  w_mk (w_imp h fun vs G1 O1 _ ⟨n, m, ps, qs, vp, e, pw, hvp, hp, q⟩ => ⟨_, fun G2 e2 => ⟨n, m, ps, qs, vp, e, pw, Da.up e2 hvp, hp, rfl⟩, fun x dx fs G3 G4 e3 hfs e4 hx => by
    obtain ⟨vl, hfs, hvl⟩ := hfs
    exact q _ G4 (e3.trans e4) ⟨pw, x, dx, vl, rfl, by rw [← hfs]; exact hx, Da.up e4 hvl⟩⟩)
theorem sc_law_made : FnScope ["_law_hand_here", "_law_picture_here", "_law_pool", "_law_pairs", "_law_k"] ["_law_hand_here", "_law_picture_here"] (defScope s_law_made) := ⟨rfl, rfl, rfl, by decide +kernel, rfl, by decide +kernel, by decide +kernel⟩
def R_law_made (K : PySem.W.Frag) : Rel := fun ws G post => ∃ (n m : Nat) (ps : List (Nat × Nat)) (v0 : V), ws = [v0] ∧ PW n m ps ∧ Da G [] v0 (dpic n m ps) ∧ post = fun v G' => PicOk K n m ps G' v
theorem cal_law_made (T : Txt K mg) : C8.Cal P w K mg base 5 "_law_made" (Fn (SH (R_law_made K))) [] := by
  refine cal_by T.d_law_made sc_law_made (fun vs G O R h => ?_) (fun f cdv A outer s H vs G O R E hr h => ?_)
  · obtain ⟨_, _, _, rfl, _, _, _, ⟨_, _, _, _, rfl, _⟩, _⟩ := h; rfl
  · obtain ⟨h, o, _, rfl, rfl, ho, post, ⟨n, m, ps, v0, rfl, pw, hv0, rfl⟩, rfl⟩ := h
    refine ⟨_, (pss_cons (ps_set (i := 2) sc_law_made.nd rfl (Or.inl rfl) (pe_callTy (listK K rfl) rfl T.b_list PyProof.Rows.boot_list (pa_cons (pe_ix (ixK K rfl) (pv 1) pe_int (fun _ _ => rfl)) pa_nil)))
    (pss_cons (ps_set (i := 3) sc_law_made.nd rfl (Or.inl rfl) (pe_lst pa_nil))
    (pss_cons (ps_for PassesOwn.never rfl (pi_range1 rfl T.b_range (pa_cons (pe_callB (lenK K rfl) rfl T.b_len PySem.boot_len (pa_cons (pe_ix (ixK K rfl) (pv 1) pe_int (fun _ _ => rfl)) pa_nil)) pa_nil)) (pg_name (i := 4) sc_law_made.nd rfl (Or.inl rfl))
      (pss_one (ps_expr (pe_bm PySem.F.plainAttrs_list PySem.F.slot_list_append PySem.F.type_list_append mt_append (pv 3) (pa_cons (pe_bm PySem.F.plainAttrs_list PySem.F.slot_list_pop PySem.F.type_list_pop mt_popAt (pv 2) (pa_cons (C8.pe_c (cal_law_draw T) hr (by omega) rfl (pa_cons (pv 0) (pa_cons (pe_callB (lenK K rfl) rfl T.b_len PySem.boot_len (pa_cons (pv 2) pa_nil)) pa_nil))) pa_nil)) pa_nil)))))
    (pss_one (ps_ret (C8.pe_mk (mak_Picture T) hr (by omega) rfl (pa_cons (pe_ix (ixK K rfl) (pv 1) pe_int (fun _ _ => rfl)) (pa_cons (pe_ix (ixK K rfl) (pv 1) pe_int (fun _ _ => rfl)) (pa_cons (pv 3) pa_nil))))))))), ?_⟩
    show WS _ [some (.ref h), some (v0), none, none, none] _ _ _
    have l25 := pw.len
    walk_at "go"
    refine r_atD (j := 2) (.inl hv0) rfl rfl fun vl hvl => ?_
    walk_at "go"
    refine r_listD (.inl hvl) fun pl xs hxs _ => ?_
    show WS _ _ _ [(h, o), (pl, .lst xs)] _
    walk_at "go"
    refine w_lst ?_
    walk_at "go"
    refine ⟨by decide, fun ql hql => ?_⟩
    show WS _ _ _ [(h, o), (pl, .lst xs), (ql, .lst [])] _
    refine ws_seq ?_
    refine ws_for (i_range1 ?_)
    walk_at "go"
    refine r_atD (j := 2) (.inl hv0) rfl rfl fun vl hvl => ?_
    walk_at "go"
    refine r_lenD (.inl hvl) ?_
    rw [List.length_map]
    walk_at "go"
    refine ⟨by omega, by omega, _, _, wk_range0, fun i σ G' O' => ∃ (u : Option V) (o' : HO) (xs ys : List V) (l1 l2 : List (Nat × Nat)), σ = [some (.ref h), some v0, some (.ref pl), some (.ref ql), u] ∧ O' = [(h, o'), (pl, .lst xs), (ql, .lst ys)] ∧ HdOk G' o' ∧ DaAll G' [] xs (l1.map dpair) ∧ DaAll G' [] ys (l2.map dpair) ∧ (l1 ++ l2).Perm ps ∧ l2.length = i, ⟨_, _, _, [], ps, [], rfl, rfl, ho, hxs, .nil, by rw [List.append_nil], rfl⟩, ?_, ?_⟩
    · rintro i x σ' G2 O' hi e2 ⟨u, o2, xs, ys, l1, l2, rfl, rfl, ho2, hxs, hys, hp, hl⟩ G3 e3 rfl
      have hxs := DaAll.up e3 hxs
      have hys := DaAll.up e3 hys
      have hpl := hp.length_eq
      rw [List.length_append] at hpl
      have hxl := daAll_len hxs
      have hyl := daAll_len hys
      rw [List.length_map] at hxl hyl
      refine g_name ?_
      refine ws_drop (w_append ?_)
      walk_at "go"
      refine ⟨2, ql, ys, rfl, rfl, ?_⟩
      refine w_popAt ?_
      walk_at "go"
      refine ⟨1, pl, xs, rfl, rfl, ?_⟩
      walk_at "go"
      refine r_len (ys := xs) (.inr (.inr (by simp))) ?_
      walk_at "go"
      refine f_h (hd_up e3 ho2) ⟨_, rfl, by omega, by omega, rfl⟩ fun v G4 o4 e4 ho4 hk => ?_
      obtain ⟨k, rfl, hk0, hk1⟩ := hk
      obtain ⟨kn, rfl⟩ : ∃ kn : Nat, k = kn := ⟨k.toNat, by omega⟩
      have hkl : kn < l1.length := by omega
      obtain ⟨z, hz, hzd⟩ := daAll_get (DaAll.up e4 hxs) (d := dpair l1[kn]) (i := kn) (by rw [List.getElem?_map, List.getElem?_eq_getElem hkl]; rfl)
      refine ⟨_, kn, z, rfl, rfl, by omega, by omega, ?_, hz, ?_⟩
      · exact seqIx (by omega)
      refine ⟨rfl, by omega, ?_⟩
      refine ⟨_, o4, xs.eraseIdx kn, ys ++ [z], l1.eraseIdx kn, l2 ++ [l1[kn]], rfl, rfl, ho4, ?_, ?_, ?_, by rw [List.length_append, hl]; rfl⟩
      · rw [erase_map]
        exact daAll_erase (DaAll.up e4 hxs)
      · rw [List.map_append]
        exact daAll_snoc (DaAll.up e4 hys) hzd
      · refine List.Perm.trans ?_ hp
        have e := erase_perm hkl
        refine List.Perm.trans ?_ (e.append_right l2)
        rw [List.cons_append, ← List.append_assoc]
        exact List.perm_append_comm
    · rintro σ' G2 O' e2 ⟨u, o2, xs, ys, l1, l2, rfl, rfl, ho2, hxs, hys, hp, hl⟩
      rw [Int.toNat_natCast] at hl
      have hpl := hp.length_eq
      rw [List.length_append] at hpl
      obtain rfl : l1 = [] := List.eq_nil_of_length_eq_zero (by omega)
      refine ws_freeze 1 rfl fun G3 e3 _ => ?_
      refine ws_frzD 1 rfl (DaAll.up e3 hys) fun G4 e4 hq => ?_
      show WS _ _ _ [(h, o2)] _
      have ee := (e2.trans e3).trans e4
      refine ws_ret (w_mkPic ?_)
      walk_at "go"
      refine r_atD (j := 0) (.inl (Da.up ee hv0)) rfl rfl fun z0 hz0 => ?_
      rw [da_int hz0]
      walk_at "go"
      refine r_atD (j := 1) (.inl (Da.up ee hv0)) rfl rfl fun z1 hz1 => ?_
      rw [da_int hz1]
      walk_at "go"
      exact ⟨n, m, ps, l2, _, rfl, pw, hq, hp, fun v G5 e5 hv => ⟨_, rfl, hd_up (e3.trans (e4.trans e5)) ho2, hv⟩⟩
end
/-! text T4 -/
section
variable {σ : L2.St} {te tf : TE} {t : TA} {d : PyData} {ds : List PyData}
theorem td_I0 {g : Int → Int → V} {i j k : Int} (h1 : TD σ te (.int i)) (h2 : TD σ tf (.int j)) (e : g i j = .int k) : TD σ (tOp (rI0 g) te tf) (.int k) := fun G O R q => w_op (h1 _ _ _ fun v G1 e1 hv => h2 _ _ _ fun v2 G2 e2 hv2 => by
  rw [da_int hv, da_int hv2]
  exact r_I0 (q _ G2 (e1.trans e2) (by rw [e]; exact .int _)))
theorem td_I {C : Int → Int → Prop} {g : Int → Int → V} {i j k : Int} (h1 : TD σ te (.int i)) (h2 : TD σ tf (.int j)) (hc : C i j) (e : g i j = .int k) : TD σ (tOp (rI C g) te tf) (.int k) := fun G O R q => w_op (h1 _ _ _ fun v G1 e1 hv => h2 _ _ _ fun v2 G2 e2 hv2 => by
  rw [da_int hv, da_int hv2]
  exact r_I hc (q _ G2 (e1.trans e2) (by rw [e]; exact .int _)))
theorem td_str {i : Int} (h1 : TD σ te (.int i)) (hl : i.natAbs.log2 < 1920) : TD σ (tCB rStr1 (tCons te tNil)) (.str (toString i)) := fun G O R q => w_cb (w_cons (h1 _ _ _ fun v G1 e1 hv => by
  rw [da_int hv]
  exact w_nil (r_str hl (q _ G1 e1 (.str _)))))
end
section
variable {P : Program} {w : World} {K : PySem.W.Frag} {mg : Str → Option Value} {base : Heap}
theorem sc_law_same_row : FnScope ["_law_prime_here", "_law_thing", "_law_due", "_law_k"] ["_law_prime_here", "_law_thing", "_law_due"] (defScope s_law_same_row) := ⟨rfl, rfl, rfl, by decide +kernel, rfl, by decide +kernel, by decide +kernel⟩
def R_law_same_row : Rel := fun ws G post => ∃ (F : Fk) (v1 v2 : V) (us : List F.U), ws = [.int (F.p : Int), v1, v2] ∧ Da G [] v1 (.tuple (us.map F.dat)) ∧ Da G [] v2 (.tuple (us.map F.dat)) ∧ allBd F 1900 us ∧ us.length ≤ 25 ∧ post = fun v _ => v = .bl true
theorem cal_law_same_row (T : Txt K mg) : C8.Cal P w K mg base 4 "_law_same_row" (Fn (SP R_law_same_row)) [] := by
  refine cal_by T.d_law_same_row sc_law_same_row (fun vs G O R h => ?_) (fun f cdv A outer s H vs G O R E hr h => ?_)
  · obtain ⟨_, _, ⟨_, _, _, _, rfl, _⟩, _⟩ := h; rfl
  · obtain ⟨rfl, post, ⟨F, v1, v2, us, rfl, h1, h2, hb, hl, rfl⟩, rfl⟩ := h
    refine ⟨_, (pss_cons (ps_if (PW.pt (pw_or (pt_not (pt_val (pe_callB (isiK K rfl) rfl T.b_isinstance PyProof.Rows.boot_isinstance (pa_cons (pv 1) (pa_cons (pe_bltn (v := .ty "tuple") rfl T.b_tuple PyProof.Rows.boot_tuple rfl) pa_nil))))) (pw_or1 (pt_cmpR op_ne (pe_callB (lenK K rfl) rfl T.b_len PySem.boot_len (pa_cons (pv 1) pa_nil)) (pe_callB (lenK K rfl) rfl T.b_len PySem.boot_len (pa_cons (pv 2) pa_nil)) (nomark _)))))
      (pss_one (ps_ret pe_bl))
      pss_nil)
    (pss_one (ps_ret (pe_callB (allK K rfl rfl) rfl T.b_all (by decide +kernel) (pa_cons (pe_lc (own := [("_law_k", 3)]) rfl sc_law_same_row.nd (pi_range1 rfl T.b_range (pa_cons (pe_callB (lenK K rfl) rfl T.b_len PySem.boot_len (pa_cons (pv 2) pa_nil)) pa_nil)) (blkOk_by (N := ["_law_prime_here", "_law_thing", "_law_due", "_law_k"]) (sc := defScope s_law_same_row) (by decide +kernel)) (fun _ _ _ _ _ => (pg_name (i := 3) sc_law_same_row.nd rfl (Or.inl rfl))) (fun _ _ _ _ _ => pts_nil) (fun _ _ _ _ _ => (C8.pe_c (cal_law_same T) hr (by omega) rfl (pa_cons (pv 0) (pa_cons (pe_ix (ixK K rfl) (pv 1) (pv 3) (fun _ _ => rfl)) (pa_cons (pe_ix (ixK K rfl) (pv 2) (pv 3) (fun _ _ => rfl)) pa_nil)))))) pa_nil))))), ?_⟩
    show WS _ [some (.int (F.p : Int)), some (v1), some (v2), none] _ _ _
    walk_at "go"
    obtain ⟨pa', xs, e0, hpa, hxs⟩ := da_tup h1
    subst e0
    refine r_isiTy (n := "tuple") (b := true) (.tup hpa) rfl ?_
    walk_at "go"
    refine r_lenD (.inr h1) ?_
    walk_at "go"
    refine r_lenD (.inr h2) ?_
    walk_at "go"
    refine cj_ni (fun h => absurd rfl h) fun _ => ?_
    walk_at "go"
    refine w_lcRm ?_
    walk_at "go"
    refine r_lenD (.inr h2) ?_
    rw [List.length_map]
    walk_at "go"
    refine ⟨us.length, rfl, by omega, fun _ => .bool true, fun k G2 hk e2 => ⟨rfl, ?_⟩, fun p G2 e2 hq => ?_⟩
    · walk_at "go"
      refine r_atD (j := k) (.inr (Da.up e2 h1)) (ro_get hk) rfl fun x hx => ?_
      walk_at "go"
      refine r_atD (j := k) (.inr (Da.up e2 h2)) (ro_get hk) rfl fun y hy => ?_
      walk_at "go"
      refine f_p ⟨F, _, _, _, _, rfl, hx, hy, hb.get k, rfl⟩ fun v G3 e3 hv => ?_
      subst hv
      rw [decide_eq_true rfl]
      exact ⟨rfl, .bl _⟩
    · walk_at "go"
      obtain ⟨a2, ys, e9, h9, h10⟩ := da_lst hq
      cases e9
      have : (List.range us.length).map (fun _ => PyData.bool true) = (List.replicate us.length true).map PyData.bool := by
        rw [List.map_const', List.length_range, List.map_replicate]
      rw [this] at h10
      have hys := daAll_bls' h10
      rw [hys] at h9
      refine r_all (.inl h9) ⟨rfl, ?_⟩
      rw [List.all_replicate]; simp
theorem sc_law_odd : FnScope ["_law_hand_here", "_law_prime_here", "_law_odds"] ["_law_hand_here", "_law_prime_here"] (defScope s_law_odd) := ⟨rfl, rfl, rfl, by decide +kernel, rfl, by decide +kernel, by decide +kernel⟩
def R_law_odd : Rel := fun ws G post => ∃ F : Fk, ws = [.int (F.p : Int)] ∧ post = fun v G' => ∃ d, Da G' [] v d ∧ isF F d = false
theorem cal_law_odd (T : Txt K mg) : C8.Cal P w K mg base 3 "_law_odd" (Fn (SH R_law_odd)) [] := by
  refine cal_by T.d_law_odd sc_law_odd (fun vs G O R h => ?_) (fun f cdv A outer s H vs G O R E hr h => ?_)
  · obtain ⟨_, _, _, rfl, _, _, _, ⟨_, rfl, _⟩, _⟩ := h; rfl
  · obtain ⟨h, o, _, rfl, rfl, ho, post, ⟨F, rfl, rfl⟩, rfl⟩ := h
    refine ⟨_, (pss_cons (ps_if (pt_cmpR op_gt (pv 1) pe_int (nomark _))
      (pss_one (ps_ret (pe_ix (ixK K rfl) (pe_tup (pa_cons pe_int (pa_cons (pv 1) (pa_cons (pe_op op_sub pe_int pe_int) (pa_cons pe_non (pa_cons (pe_tup (pa_cons pe_int (pa_cons pe_int pa_nil))) (pa_cons pe_bl (pa_cons (pe_callTy cl_str rfl T.b_str PyProof.Rows.boot_str (pa_cons (pe_op op_sub (pv 1) pe_int) pa_nil)) (pa_cons (pe_op op_add (pv 1) (pe_op op_pow pe_int pe_int)) pa_nil))))))))) (C8.pe_c (cal_law_draw T) hr (by omega) rfl (pa_cons (pv 0) (pa_cons pe_int pa_nil))) (fun _ _ => rfl))))
      pss_nil)
    (pss_cons (ps_set (i := 2) sc_law_odd.nd rfl (Or.inl rfl) (pe_tup (pa_cons (pe_tup (pa_cons pe_int (pa_cons pe_int pa_nil))) (pa_cons (pe_tup (pa_cons pe_int (pa_cons pe_int pa_nil))) (pa_cons (pe_lst (pa_cons pe_int (pa_cons pe_int pa_nil))) (pa_cons pe_int (pa_cons (pe_tup (pa_cons pe_int (pa_cons (pe_op op_sub pe_int pe_int) pa_nil))) (pa_cons (pe_tup (pa_cons pe_int (pa_cons pe_int pa_nil))) (pa_cons pe_non (pa_cons (pe_tup (pa_cons pe_bl (pa_cons pe_int pa_nil))) (pa_cons (pe_tup (pa_cons pe_int pa_nil)) (pa_cons (pe_tup (pa_cons pe_int (pa_cons pe_int (pa_cons pe_int pa_nil)))) (pa_cons (pe_tup (pa_cons pe_int (pa_cons pe_bl pa_nil))) (pa_cons (pe_tup (pa_cons pe_int (pa_cons pe_int pa_nil))) pa_nil))))))))))))))
    (pss_one (ps_ret (pe_ix (ixK K rfl) (pv 2) (C8.pe_c (cal_law_draw T) hr (by omega) rfl (pa_cons (pv 0) (pa_cons pe_int pa_nil))) (fun _ _ => rfl)))))), ?_⟩
    show WS _ [some (.ref h), some (.int (F.p : Int)), none] _ _ _
    refine ws_seq (ws_if ?_)
    walk_at "go"
    cases F with
    | rest p hp =>
      have hp1 := hp.1
      have hp2 := hp.2.1
      refine ⟨fun _ => ?_, fun z => by
        have : ¬ (0 : Int) < (p : Int) := of_decide_eq_false z
        omega⟩
      refine ws_ret (w_op ?_)
      refine (td_tup (ds := [.int 0, .int (p : Int), .int (0 - 1), .none, .tuple [.int 1, .int 1], .bool true, .str (toString ((p : Int) - 1)), .int ((p : Int) + 10 ^ 20)]) ?_ (by simp)) _ _ _ fun vt G4 e4 hvt => ?_
      · refine tds_cons td_int (tds_cons (td_varI rfl) (tds_cons (td_I0 td_int td_int rfl) (tds_cons td_non (tds_cons (td_tup (tds_cons td_int (tds_cons td_int tds_nil)) (by decide)) (tds_cons td_bl (tds_cons (td_str (td_I0 (td_varI rfl) td_int rfl) ?_) (tds_cons (td_I0 (td_varI rfl) (td_I td_int td_int ?_ rfl) rfl) tds_nil)))))))
        · refine (Nat.log2_lt (by omega)).mpr (Nat.lt_of_lt_of_le (by omega : _ < 2 ^ 20) (Nat.pow_le_pow_right (by decide) (by decide)))
        · exact ⟨by decide, by decide, by decide⟩
      walk_at "go"
      refine f_h (hd_up e4 ho) ⟨_, rfl, by decide, by decide, rfl⟩ fun v5 G5 o5 e5 ho5 hk => ?_
      obtain ⟨k, rfl, hk0, hk1⟩ := hk
      have key : ∀ j : Nat, j < 8 → ∃ d, ([.int 0, .int (p : Int), .int (0 - 1), .none, .tuple [.int 1, .int 1], .bool true, .str (toString ((p : Int) - 1)), .int ((p : Int) + 10 ^ 20)] : List PyData)[j]? = some d ∧ isF (.rest p hp) d = false := fun j hj => by
        match j, hj with
        | 0, _ => exact ⟨_, rfl, isF_zero (F := .rest p hp)⟩
        | 1, _ => exact ⟨_, rfl, isF_bad fun ⟨i, e, h1, h2⟩ => by cases e; omega⟩
        | 2, _ => exact ⟨_, rfl, isF_bad fun ⟨i, e, h1, h2⟩ => by cases e; omega⟩
        | 3, _ => exact ⟨_, rfl, isF_bad fun ⟨i, e, h1, h2⟩ => by cases e⟩
        | 4, _ => exact ⟨_, rfl, isF_bad fun ⟨i, e, h1, h2⟩ => by cases e⟩
        | 5, _ => exact ⟨_, rfl, isF_bad fun ⟨i, e, h1, h2⟩ => by cases e⟩
        | 6, _ => exact ⟨_, rfl, isF_bad fun ⟨i, e, h1, h2⟩ => by cases e⟩
        | 7, _ => exact ⟨_, rfl, isF_bad fun ⟨i, e, h1, h2⟩ => by cases e; omega⟩
      obtain ⟨d, hd1, hd2⟩ := key k.toNat (by omega)
      exact r_atD (j := k.toNat) (.inr (Da.up e5 hvt)) hd1 (by omega) fun z hz => ⟨_, rfl, ho5, d, hz, hd2⟩
    | frac =>
      refine ⟨fun z => absurd z (by decide), fun _ => ws_nx ?_⟩
      refine ws_seq (ws_set ((td_tup (ds := [.tuple [.int 0, .int 1], .tuple [.int 2, .int 4], .list [.int 1, .int 1], .int 1, .tuple [.int 1, .int (0 - 1)], .tuple [.int 1, .int 0], .none, .tuple [.bool true, .int 1], .tuple [.int 3], .tuple [.int 1, .int 2, .int 3], .tuple [.int 5, .bool true], .tuple [.int 0, .int 2]]) ?_ (by decide)) _ _ _ fun vt G4 e4 hvt => ?_))
      · have p2 : ∀ {i j : Int} {σ : L2.St}, TD σ (tTup (tCons (tC (.int i)) (tCons (tC (.int j)) tNil))) (.tuple [.int i, .int j]) := td_tup (tds_cons td_int (tds_cons td_int tds_nil)) (by simp)
        refine tds_cons p2 (tds_cons p2 (tds_cons (td_lst (tds_cons td_int (tds_cons td_int tds_nil)) (by decide)) (tds_cons td_int (tds_cons (td_tup (tds_cons td_int (tds_cons (td_I0 td_int td_int rfl) tds_nil)) (by decide)) (tds_cons p2 (tds_cons td_non (tds_cons (td_tup (tds_cons td_bl (tds_cons td_int tds_nil)) (by decide)) (tds_cons (td_tup (tds_cons td_int tds_nil) (by decide)) (tds_cons (td_tup (tds_cons td_int (tds_cons td_int (tds_cons td_int tds_nil))) (by decide)) (tds_cons (td_tup (tds_cons td_int (tds_cons td_bl tds_nil)) (by decide)) (tds_cons p2 tds_nil)))))))))))
      walk_at "go"
      refine f_h (hd_up e4 ho) ⟨_, rfl, by decide, by decide, rfl⟩ fun v5 G5 o5 e5 ho5 hk => ?_
      obtain ⟨k, rfl, hk0, hk1⟩ := hk
      have key : ∀ j : Nat, j < 12 → ∃ d, ([.tuple [.int 0, .int 1], .tuple [.int 2, .int 4], .list [.int 1, .int 1], .int 1, .tuple [.int 1, .int (0 - 1)], .tuple [.int 1, .int 0], .none, .tuple [.bool true, .int 1], .tuple [.int 3], .tuple [.int 1, .int 2, .int 3], .tuple [.int 5, .bool true], .tuple [.int 0, .int 2]] : List PyData)[j]? = some d ∧ isF .frac d = false := fun j hj => by
        match j, hj with
        | 0, _ => exact ⟨_, rfl, isF_zero (F := .frac)⟩
        | 1, _ => exact ⟨_, rfl, isF_bad fun ⟨i, j, e, h1, h2⟩ => by cases e; revert h2; decide⟩
        | 2, _ => exact ⟨_, rfl, isF_bad fun ⟨i, j, e, h1, h2⟩ => by cases e⟩
        | 3, _ => exact ⟨_, rfl, isF_bad fun ⟨i, j, e, h1, h2⟩ => by cases e⟩
        | 4, _ => exact ⟨_, rfl, isF_bad fun ⟨i, j, e, h1, h2⟩ => by cases e; revert h1; decide⟩
        | 5, _ => exact ⟨_, rfl, isF_bad fun ⟨i, j, e, h1, h2⟩ => by cases e; revert h1; decide⟩
        | 6, _ => exact ⟨_, rfl, isF_bad fun ⟨i, j, e, h1, h2⟩ => by cases e⟩
        | 7, _ => exact ⟨_, rfl, isF_bad fun ⟨i, j, e, h1, h2⟩ => by cases e⟩
        | 8, _ => exact ⟨_, rfl, isF_bad fun ⟨i, j, e, h1, h2⟩ => by cases e⟩
        | 9, _ => exact ⟨_, rfl, isF_bad fun ⟨i, j, e, h1, h2⟩ => by cases e⟩
        | 10, _ => exact ⟨_, rfl, isF_bad fun ⟨i, j, e, h1, h2⟩ => by cases e⟩
        | 11, _ => exact ⟨_, rfl, isF_bad fun ⟨i, j, e, h1, h2⟩ => by cases e; revert h2; decide⟩
      obtain ⟨d, hd1, hd2⟩ := key k.toNat (by omega)
      exact r_atD (j := k.toNat) (.inr (Da.up e5 hvt)) hd1 (by omega) fun z hz => ⟨_, rfl, ho5, d, hz, hd2⟩
end
/-! text T5 -/
theorem isF_getD {F : Fk} {us : List F.U} {j : Nat} (h : j < us.length) : isF F ((us.map F.dat).getD j .none) = true := by
  rw [List.getD_eq_getElem?_getD, ro_get h]
  exact isF_dat _
theorem fpl_bad {F : Fk} {us : List F.U} {k : Nat} {d : PyData} (h : k < us.length) (hd : isF F d = false) : fpl F (.list ((us.map F.dat).set k d)) us.length = some (k : Int) := by
  rw [fpl_seq rfl (by rw [List.length_set, List.length_map])]
  rw [fb_some h (by rw [List.getD_eq_getElem?_getD, List.getElem?_set_self (by rw [List.length_map]; exact h)]; exact hd) fun j hj => by
    rw [List.getD_eq_getElem?_getD, List.getElem?_set_ne (by omega), ← List.getD_eq_getElem?_getD]
    exact isF_getD (by omega)]
  rfl
theorem row_len {F : Fk} {ds : List PyData} {us : List F.U} (h : rowD F (.list ds) us) : us.length = ds.length := by
  have h : some ds = some (us.map F.dat) := h
  rw [Option.some.inj h, List.length_map]
theorem cut1 {xs : List V} (h : 1 ≤ xs.length) : cutV xs (some 1) none = xs.drop 1 := by
  unfold cutV
  have e1 : HT.sIx xs.length 0 (some 1) = 1 := by unfold HT.sIx; simp; omega
  have e2 : HT.sIx xs.length xs.length none = xs.length := by unfold HT.sIx; simp
  rw [e1, e2]
  exact List.take_of_length_le (by rw [List.length_drop]; exact Nat.le_refl _)
theorem daAll_drop {G : Hp} {O : OL} : ∀ {xs : List V} {ds : List PyData} {i : Nat}, DaAll G O xs ds → DaAll G O (xs.drop i) (ds.drop i)
  | _, _, 0, h => h
  | _, _, _ + 1, .nil => .nil
  | _, _, i + 1, .cons _ t => daAll_drop (i := i) t
theorem fpl_len {F : Fk} {d : PyData} {ds : List PyData} {many : Nat} (h : seqD d = some ds) (hl : ds.length ≠ many) : fpl F d many = some (-1) := by
  unfold fpl; rw [h]; exact if_neg hl
section
variable {P : Program} {w : World} {K : PySem.W.Frag} {mg : Str → Option Value} {base : Heap}
theorem sc_law_spoilt_at : FnScope ["_law_hand_here", "_law_prime_here", "_law_table_here", "_law_at", "_law_out"] ["_law_hand_here", "_law_prime_here", "_law_table_here", "_law_at"] (defScope s_law_spoilt_at) := ⟨rfl, rfl, rfl, by decide +kernel, rfl, by decide +kernel, by decide +kernel⟩
def R_law_spoilt : Rel := fun ws G post => ∃ (F : Fk) (vt : V) (us : List F.U) (k : Nat), ws = [.int (F.p : Int), vt, .int (k : Int)] ∧ Ro F G vt us ∧ k < us.length ∧ us.length ≤ 25 ∧ post = fun v G' => ∃ d, Da G' [] v d ∧ fpl F d us.length = some (k : Int) ∧ ∀ us', ¬ rowD F d us'
theorem cal_law_spoilt_at (T : Txt K mg) : C8.Cal P w K mg base 4 "_law_spoilt_at" (Fn (SH R_law_spoilt)) [] := by
  refine cal_by T.d_law_spoilt_at sc_law_spoilt_at (fun vs G O R h => ?_) (fun f cdv A outer s H vs G O R E hr h => ?_)
  · obtain ⟨_, _, _, rfl, _, _, _, ⟨_, _, _, _, rfl, _⟩, _⟩ := h; rfl
  · obtain ⟨h, o, _, rfl, rfl, ho, post, ⟨F, vt, us, k, rfl, hvt, hk, hl, rfl⟩, rfl⟩ := h
    refine ⟨_, (pss_cons (ps_set (i := 4) sc_law_spoilt_at.nd rfl (Or.inl rfl) (pe_callTy (listK K rfl) rfl T.b_list PyProof.Rows.boot_list (pa_cons (pv 2) pa_nil)))
    (pss_cons (ps_asg (C8.pe_c (cal_law_odd T) hr (by omega) rfl (pa_cons (pv 0) (pa_cons (pv 1) pa_nil))) (pg_sub (pv 4) (pv 3) set_list))
    (pss_one (ps_ret (pv 4))))), ?_⟩
    show WS _ [some (.ref h), some (.int (F.p : Int)), some (vt), some (.int (k : Int)), none] _ _ _
    walk_at "go"
    refine r_listD hvt fun l xs hxs _ => ?_
    show WS _ _ _ [(h, o), (l, .lst xs)] _
    walk_at "go"
    refine f_h ho ⟨F, rfl, rfl⟩ fun v G1 o1 e1 ho1 hv => ?_
    obtain ⟨d, hd, hbad⟩ := hv
    have hxl := daAll_len hxs
    rw [List.length_map] at hxl
    refine g_sub 1 ?_
    walk_at "go"
    refine ⟨_, _, _, _, rfl, rfl, rfl, ixN_nat (by omega), ?_⟩
    refine ws_frzD 1 rfl (daAll_set (DaAll.up e1 hxs) hd) fun G2 e2 hx => ?_
    walk_at "go"
    exact ⟨_, rfl, hd_up e2 ho1, _, hx, fpl_bad hk hbad, fun us' hr => by
      have : us'.length = us.length := by rw [row_len hr, List.length_set, List.length_map]
      have h2 := fpl_row hr this
      rw [fpl_bad hk hbad] at h2
      cases h2⟩
theorem sc_law_wrong_row : FnScope ["_law_hand_here", "_law_prime_here", "_law_row", "_law_pick", "_law_out"] ["_law_hand_here", "_law_prime_here", "_law_row"] (defScope s_law_wrong_row) := ⟨rfl, rfl, rfl, by decide +kernel, rfl, by decide +kernel, by decide +kernel⟩
def R_law_wrong : Rel := fun ws G post => ∃ (F : Fk) (vt : V) (us : List F.U), ws = [.int (F.p : Int), vt] ∧ Ro F G vt us ∧ 1 ≤ us.length ∧ us.length ≤ 25 ∧ allBd F 400 us ∧ post = fun v G' => ∃ d, Da G' [] v d ∧ fpl F d us.length ≠ none ∧ ∀ us', rowD F d us' → allBd F 400 us'
theorem cal_law_wrong_row (T : Txt K mg) : C8.Cal P w K mg base 5 "_law_wrong_row" (Fn (SH R_law_wrong)) [] := by
  refine cal_by T.d_law_wrong_row sc_law_wrong_row (fun vs G O R h => ?_) (fun f cdv A outer s H vs G O R E hr h => ?_)
  · obtain ⟨_, _, _, rfl, _, _, _, ⟨_, _, _, rfl, _⟩, _⟩ := h; rfl
  · obtain ⟨h, o, _, rfl, rfl, ho, post, ⟨F, vt, us, rfl, hvt, hl1, hl2, hb, rfl⟩, rfl⟩ := h
    refine ⟨_, (pss_cons (ps_set (i := 3) sc_law_wrong_row.nd rfl (Or.inl rfl) (C8.pe_c (cal_law_draw T) hr (by omega) rfl (pa_cons (pv 0) (pa_cons pe_int pa_nil))))
    (pss_cons (ps_if (pt_cmpR op_eq (pv 3) pe_int (nomark _))
      (pss_one (ps_ret (pe_op op_cat (pe_callTy (listK K rfl) rfl T.b_list PyProof.Rows.boot_list (pa_cons (pv 2) pa_nil)) (pe_lst (pa_cons (C8.pe_c (cal_law_one T) hr (by omega) rfl (pa_cons (pv 1) pa_nil)) pa_nil)))))
      pss_nil)
    (pss_cons (ps_if (pt_cmpR op_eq (pv 3) pe_int (nomark _))
      (pss_one (ps_ret (pe_slice (slLK K rfl) (pe_callTy (listK K rfl) rfl T.b_list PyProof.Rows.boot_list (pa_cons (pv 2) pa_nil)) (po_some pe_int) po_none)))
      pss_nil)
    (pss_cons (ps_set (i := 4) sc_law_wrong_row.nd rfl (Or.inl rfl) (pe_callTy (listK K rfl) rfl T.b_list PyProof.Rows.boot_list (pa_cons (pv 2) pa_nil)))
    (pss_cons (ps_asg (C8.pe_c (cal_law_odd T) hr (by omega) rfl (pa_cons (pv 0) (pa_cons (pv 1) pa_nil))) (pg_sub (pv 4) (C8.pe_c (cal_law_draw T) hr (by omega) rfl (pa_cons (pv 0) (pa_cons (pe_callB (lenK K rfl) rfl T.b_len PySem.boot_len (pa_cons (pv 2) pa_nil)) pa_nil))) set_list))
    (pss_one (ps_ret (pv 4)))))))), ?_⟩
    show WS _ [some (.ref h), some (.int (F.p : Int)), some (vt), none, none] _ _ _
    walk_at "go"
    refine f_h ho ⟨_, rfl, by decide, by decide, rfl⟩ fun v G1 o1 e1 ho1 hk => ?_
    obtain ⟨k, rfl, hk0, hk1⟩ := hk
    have hvt1 := ro_up e1 hvt
    walk_at "go"
    walk_at "if"
    · intro _
      walk_at "go"
      refine r_listDG hvt1 fun x G2 e2 hx => ?_
      refine w_lstD ?_
      walk_at "go"
      refine f_p ⟨F, rfl, rfl⟩ fun v3 G3 e3 hv3 => ?_
      refine w_nil ⟨[F.dat 1], by simp, .cons hv3 .nil, fun y G4 e4 hy => ?_⟩
      obtain ⟨a1, xs, rfl, ha1, hxs⟩ := da_lst (Da.up (e3.trans e4) hx)
      obtain ⟨a2, ys, rfl, ha2, hys⟩ := da_lst hy
      refine r_catG (.inl ha1) (.inl ha2) (by have := daAll_len hxs; have := daAll_len hys; rw [List.length_map] at *; rw [sizeLine_eq]; simp at *; omega) fun l G5 e5 hl5 => ?_
      refine ⟨_, rfl, hd_up (e2.trans (e3.trans (e4.trans e5))) ho1, .list ((us ++ [1]).map F.dat), .lst (.inl hl5) ?_, ?_, fun us' hr => ?_⟩
      · rw [List.map_append]; exact DaAll.up e5 (daAll_app hxs hys)
      · rw [fpl_len rfl (by simp)]; simp
      · have : us' = us ++ [1] := row_inj hr rfl
        subst this
        intro u hu
        rcases List.mem_append.mp hu with hu | hu
        · exact hb u hu
        · simp only [List.mem_singleton] at hu; subst hu; exact Fk.bd_mono Fk.bd_one (Nat.zero_le _)
    intro _
    walk_at "go"
    walk_at "if"
    · intro _
      walk_at "go"
      refine r_listDG hvt1 fun x G2 e2 hx => ?_
      walk_at "go"
      obtain ⟨a1, xs, rfl, ha1, hxs⟩ := da_lst hx
      refine w_part (w_c ⟨1, rfl, w_noPart ?_⟩)
      refine r_slLG (.inl ha1) fun l G3 e3 hl => ?_
      have hxl := daAll_len hxs
      rw [List.length_map] at hxl
      rw [cut1 (by omega)] at hl
      refine ⟨_, rfl, hd_up (e2.trans e3) ho1, .list ((us.drop 1).map F.dat), .lst (.inl hl) ?_, ?_, fun us' hr => ?_⟩
      · rw [List.map_drop]; exact DaAll.up e3 (daAll_drop hxs)
      · rw [fpl_len rfl (by rw [List.length_map, List.length_drop]; omega)]; simp
      · have : us' = us.drop 1 := row_inj hr rfl
        subst this
        exact fun u hu => hb u (List.mem_of_mem_drop hu)
    intro _
    walk_at "go"
    refine r_listD hvt1 fun l xs hxs _ => ?_
    show WS _ _ _ [(h, o1), (l, .lst xs)] _
    walk_at "go"
    refine f_h ho1 ⟨F, rfl, rfl⟩ fun v G2 o2 e2 ho2 hv => ?_
    obtain ⟨d, hd, hbad⟩ := hv
    have hxl := daAll_len hxs
    rw [List.length_map] at hxl
    refine g_sub 1 ?_
    walk_at "go"
    refine r_lenD (ro_up e2 hvt1) ?_
    rw [List.length_map]
    walk_at "go"
    refine f_h ho2 ⟨_, rfl, by omega, by omega, rfl⟩ fun v G3 o3 e3 ho3 hk => ?_
    obtain ⟨j, rfl, hj0, hj1⟩ := hk
    obtain ⟨jn, rfl⟩ : ∃ jn : Nat, j = jn := ⟨j.toNat, by omega⟩
    refine ⟨_, _, _, _, rfl, rfl, rfl, ixN_nat (by omega), ?_⟩
    refine ws_frzD 1 rfl (daAll_set (DaAll.up (e2.trans e3) hxs) (Da.up e3 hd)) fun G4 e4 hx => ?_
    walk_at "go"
    have hjn : jn < us.length := by omega
    refine ⟨_, rfl, hd_up e4 ho3, _, hx, by rw [fpl_bad hjn hbad]; simp, fun us' hr => ?_⟩
    have : us'.length = us.length := by rw [row_len hr, List.length_set, List.length_map]
    have h2 := fpl_row hr this
    rw [fpl_bad hjn hbad] at h2
    cases h2
end
/-! text T6 -/
section
variable {P : Program} {w : World} {K : PySem.W.Frag} {mg : Str → Option Value} {base : Heap}
theorem figU_up {F : Fk} {n m : Nat} {ps : List (Nat × Nat)} {us1 us2 : List F.U} {G G' : Hp} {v : V} (e : Ex G G') (h : FigU K F n m ps us1 us2 G v) : FigU K F n m ps us1 us2 G' v := by
  obtain ⟨i, x, y, h1, h2, h3, h4, h5, h6⟩ := h
  exact ⟨i, x, y, h1, h2, h3, unl_up e h4, nu_up e h5, nu_up e h6⟩
theorem figF_up {F : Fk} {n m : Nat} {ps : List (Nat × Nat)} {us1 us2 : List F.U} {G G' : Hp} {v : V} (e : Ex G G') (h : FigF K F n m ps us1 us2 G v) : FigF K F n m ps us1 us2 G' v := by
  obtain ⟨h0, Pt, Wt, x, y, h1, h2, h3, h4⟩ := h
  exact ⟨h0, Pt, Wt, x, y, fac_up e h1, Da.up e h2, Da.up e h3, h4⟩
/-- what a told-function gives -/
def TOk (o : Option Int) (Post : V → Hp → Prop) (v : V) (G : Hp) : Prop := (∃ l r, v = .ref l ∧ G l = some (.lst [.str "told", r]) ∧ Post r G) ∨ ∃ i, o = some i ∧ Da G [] v (.list [.str "table", .int i])
def PoSame (K : PySem.W.Frag) (F : Fk) (n m : Nat) (ps : List (Nat × Nat)) (d1 d2 : PyData) (v : V) (G : Hp) : Prop := ∃ us1 us2 : List F.U, rowD F d1 us1 ∧ rowD F d2 us2 ∧ us1.length = ps.length ∧ us2.length = ps.length ∧ (FigU K F n m ps us1 us2 G v ∨ FigF K F n m ps us1 us2 G v)
theorem sc_law_same_told : FnScope ["_law_field_here", "_law_made_here", "_law_one_here", "_law_other", "e"] ["_law_field_here", "_law_made_here", "_law_one_here", "_law_other"] (defScope s_law_same_told) := ⟨rfl, rfl, rfl, by decide +kernel, rfl, by decide +kernel, by decide +kernel⟩
def R_same_told (K : PySem.W.Frag) (F : Fk) : Rel := fun ws G post => ∃ (n m : Nat) (ps : List (Nat × Nat)) (vf vp v1 v2 : V) (d1 d2 : PyData), ws = [vf, vp, v1, v2] ∧ FldOk K F G vf ∧ PicOk K n m ps G vp ∧ Da G [] v1 d1 ∧ Da G [] v2 d2 ∧ (∀ us, rowD F d1 us → allBd F 16 us) ∧ (∀ us, rowD F d2 us → allBd F 16 us) ∧ post = TOk ((fpl F d1 ps.length).or (fpl F d2 ps.length)) (PoSame K F n m ps d1 d2)
theorem cal_law_same_told (T : Txt K mg) (F : Fk) : C8.Cal P w K mg base 9 "_law_same_told" (Fn (SP (R_same_told K F))) [] := by
  refine cal_by T.d_law_same_told sc_law_same_told (fun vs G O R h => ?_) (fun f cdv A outer s H vs G O R E hr h => ?_)
  · obtain ⟨_, _, ⟨_, _, _, _, _, _, _, _, _, rfl, _⟩, _⟩ := h; rfl
  · obtain ⟨rfl, post, ⟨n, m, ps, vf, vp, v1, v2, d1, d2, rfl, hf, hp, hd1, hd2, hb1, hb2, rfl⟩, rfl⟩ := h
    refine ⟨_, (pss_one (ps_tryAsK K rfl (i := 4) (Wout := fun _ _ _ _ => False) rfl rfl sc_law_same_told.nd rfl rfl ⟨rfl, by decide, Or.inl T.g_BadTable⟩ takes0
      (fun W pn xe tk _ => (pss_one (ps_ret (pe_lst (pa_cons pe_str (pa_cons (pe_cX (calX_same_figure T F) hr (by omega) rfl tk (pa_cons (pv 0) (pa_cons (pv 1) (pa_cons (pv 2) (pa_cons (pv 3) pa_nil))))) pa_nil))))))
      (fun a oe cls d pn hz hf => (pss_one (ps_ret (pe_lst (pa_cons pe_str (pa_cons (pe_xf T.xf_BadTable T.na_BadTable_index hz hf (pv 4)) pa_nil)))))))), ?_⟩
    show WS _ [some (vf), some (vp), some (v1), some (v2), none] _ _ _
    refine ws_tryAsB (RX := RXT K ((fpl F d1 ps.length).or (fpl F d2 ps.length))) (fun Wq => ?_) (fun cl dd G3 O3 e3 rx => ?_)
    · refine wsx_ret (wx_lstG (wx_cons (wx_of (w_c (wx_cons (wx_callX rfl (wx_of ?_)))))))
      walk_at "go"
      refine ⟨_, _, ⟨rfl, n, m, ps, vf, vp, v1, v2, d1, d2, rfl, hf, hp, hd1, hd2, hb1, hb2, rfl, rfl⟩, fun v3 G3 A3 e3 ⟨hA, us1, us2, h1, h2, h3, h4, h5⟩ => ?_, fun c dd G3 A3 e3 ⟨h1, h2⟩ => ⟨by rw [h1]; rfl, h2⟩⟩
      subst hA
      refine wx_nil ⟨by rw [sizeLine_eq]; simp, fun l G4 e4 hl => ⟨rfl, .inl ⟨l, v3, rfl, hl, us1, us2, h1, h2, h3, h4, h5.imp (figU_up e4) (figF_up e4)⟩⟩⟩
    · obtain ⟨hO, i, a, hi, hsm, rfl, rfl, hg⟩ := rx
      subst hO
      refine ⟨T.xm_BadTable, fun a' => ?_⟩
      refine ws_ret (w_lstD (w_cons (w_c (w_cons (w_xf (w_var rfl ⟨rfl, rfl, _, _, _, rfl, hg, rfl, ?_⟩))))))
      exact w_nil ⟨[.str "table", .int i], by simp, .cons (.str _) (.cons (.int _) .nil), fun x G4 e4 hx => ⟨rfl, .inr ⟨i, hi, hx⟩⟩⟩
def PoPlain (F : Fk) (n m : Nat) (ps : List (Nat × Nat)) (d : PyData) (v : V) (G : Hp) : Prop := ∃ us : List F.U, rowD F d us ∧ us.length = ps.length ∧ Da G [] v (.tuple ((plain n m ps us).map F.dat))
theorem sc_law_plain_told : FnScope ["_law_field_here", "_law_made_here", "_law_table_here", "e"] ["_law_field_here", "_law_made_here", "_law_table_here"] (defScope s_law_plain_told) := ⟨rfl, rfl, rfl, by decide +kernel, rfl, by decide +kernel, by decide +kernel⟩
def R_plain_told (K : PySem.W.Frag) (F : Fk) : Rel := fun ws G post => ∃ (n m : Nat) (ps : List (Nat × Nat)) (vf vp v1 : V) (d : PyData), ws = [vf, vp, v1] ∧ FldOk K F G vf ∧ PicOk K n m ps G vp ∧ Da G [] v1 d ∧ (∀ us, rowD F d us → allBd F 16 us) ∧ post = TOk (fpl F d ps.length) (PoPlain F n m ps d)
theorem cal_law_plain_told (T : Txt K mg) (F : Fk) : C8.Cal P w K mg base 9 "_law_plain_told" (Fn (SP (R_plain_told K F))) [] := by
  refine cal_by T.d_law_plain_told sc_law_plain_told (fun vs G O R h => ?_) (fun f cdv A outer s H vs G O R E hr h => ?_)
  · obtain ⟨_, _, ⟨_, _, _, _, _, _, _, rfl, _⟩, _⟩ := h; rfl
  · obtain ⟨rfl, post, ⟨n, m, ps, vf, vp, v1, d, rfl, hf, hp, hd, hb, rfl⟩, rfl⟩ := h
    refine ⟨_, (pss_one (ps_tryAsK K rfl (i := 3) (Wout := fun _ _ _ _ => False) rfl rfl sc_law_plain_told.nd rfl rfl ⟨rfl, by decide, Or.inl T.g_BadTable⟩ takes0
      (fun W pn xe tk _ => (pss_one (ps_ret (pe_lst (pa_cons pe_str (pa_cons (pe_cX (calX_plain_form T F) hr (by omega) rfl tk (pa_cons (pv 0) (pa_cons (pv 1) (pa_cons (pv 2) pa_nil)))) pa_nil))))))
      (fun a oe cls d pn hz hf => (pss_one (ps_ret (pe_lst (pa_cons pe_str (pa_cons (pe_xf T.xf_BadTable T.na_BadTable_index hz hf (pv 3)) pa_nil)))))))), ?_⟩
    show WS _ [some (vf), some (vp), some (v1), none] _ _ _
    refine ws_tryAsB (RX := RXT K (fpl F d ps.length)) (fun Wq => ?_) (fun cl dd G3 O3 e3 rx => ?_)
    · refine wsx_ret (wx_lstG (wx_cons (wx_of (w_c (wx_cons (wx_callX rfl (wx_of ?_)))))))
      walk_at "go"
      refine ⟨_, _, ⟨rfl, n, m, ps, vf, vp, v1, d, rfl, hf, hp, hd, hb, rfl, rfl⟩, fun v3 G3 A3 e3 ⟨hA, us, h1, h2, h3⟩ => ?_, fun c dd G3 A3 e3 ⟨h1, h2⟩ => ⟨by rw [h1]; rfl, h2⟩⟩
      subst hA
      refine wx_nil ⟨by rw [sizeLine_eq]; simp, fun l G4 e4 hl => ⟨rfl, .inl ⟨l, v3, rfl, hl, us, h1, h2, Da.up e4 h3⟩⟩⟩
    · obtain ⟨hO, i, a, hi, hsm, rfl, rfl, hg⟩ := rx
      subst hO
      refine ⟨T.xm_BadTable, fun a' => ?_⟩
      refine ws_ret (w_lstD (w_cons (w_c (w_cons (w_xf (w_var rfl ⟨rfl, rfl, _, _, _, rfl, hg, rfl, ?_⟩))))))
      exact w_nil ⟨[.str "table", .int i], by simp, .cons (.str _) (.cons (.int _) .nil), fun x G4 e4 hx => ⟨rfl, .inr ⟨i, hi, hx⟩⟩⟩
theorem sc_law_judge_told : FnScope ["_law_which", "_law_field_here", "_law_made_here", "_law_one_here", "_law_other", "e"] ["_law_which", "_law_field_here", "_law_made_here", "_law_one_here", "_law_other"] (defScope s_law_judge_told) := ⟨rfl, rfl, rfl, by decide +kernel, rfl, by decide +kernel, by decide +kernel⟩
def R_judge_told (K : PySem.W.Frag) (F : Fk) : Rel := fun ws G post => ∃ (n m : Nat) (ps : List (Nat × Nat)) (wh : Int) (vf vp v1 v2 : V) (d1 d2 : PyData) (i : Int), ws = [.int wh, vf, vp, v1, v2] ∧ FldOk K F G vf ∧ PicOk K n m ps G vp ∧ Da G [] v1 d1 ∧ Da G [] v2 d2 ∧ (∀ us, rowD F d1 us → allBd F 16 us) ∧ (∀ us, rowD F d2 us → allBd F 16 us) ∧ (fpl F d1 ps.length).or (fpl F d2 ps.length) = some i ∧ post = fun v G' => Da G' [] v (.list [.str "table", .int i])
theorem cal_law_judge_told (T : Txt K mg) (F : Fk) : C8.Cal P w K mg base 9 "_law_judge_told" (Fn (SP (R_judge_told K F))) [] := by
  refine cal_by T.d_law_judge_told sc_law_judge_told (fun vs G O R h => ?_) (fun f cdv A outer s H vs G O R E hr h => ?_)
  · obtain ⟨_, _, ⟨_, _, _, _, _, _, _, _, _, _, _, rfl, _⟩, _⟩ := h; rfl
  · obtain ⟨rfl, post, ⟨n, m, ps, wh, vf, vp, v1, v2, d1, d2, i, rfl, hf, hp, hd1, hd2, hb1, hb2, hi, rfl⟩, rfl⟩ := h
    refine ⟨_, (pss_one (ps_tryAsK K rfl (i := 5) (Wout := fun _ _ _ _ => False) rfl rfl sc_law_judge_told.nd rfl rfl ⟨rfl, by decide, Or.inl T.g_BadTable⟩ takes0
      (fun W pn xe tk _ => (pss_cons (ps_if (pt_cmpR op_eq (pv 0) pe_int (nomark _))
        (pss_one (ps_ret (pe_lst (pa_cons pe_str (pa_cons (pe_cX (calX_factors_fault T F) hr (by omega) rfl tk (pa_cons (pv 1) (pa_cons (pv 2) (pa_cons (pv 3) (pa_cons (pv 4) (pa_cons (C8.pe_mk (mak_Factors T) hr (by omega) rfl (pa_cons (pe_tup pa_nil) (pa_cons (pe_tup pa_nil) pa_nil))) pa_nil)))))) pa_nil)))))
        pss_nil)
      (pss_one (ps_ret (pe_lst (pa_cons pe_str (pa_cons (pe_cX (calX_unlike_fault T F) hr (by omega) rfl tk (pa_cons (pv 1) (pa_cons (pv 2) (pa_cons (pv 3) (pa_cons (pv 4) (pa_cons (C8.pe_mk (mak_Unlike T) hr (by omega) rfl (pa_cons pe_int (pa_cons (pe_fldK K rfl (pv 1) rfl) (pa_cons (pe_fldK K rfl (pv 1) rfl) pa_nil)))) pa_nil)))))) pa_nil)))))))
      (fun a oe cls d pn hz hf => (pss_one (ps_ret (pe_lst (pa_cons pe_str (pa_cons (pe_xf T.xf_BadTable T.na_BadTable_index hz hf (pv 5)) pa_nil)))))))), ?_⟩
    show WS _ [some (.int wh), some (vf), some (vp), some (v1), some (v2), none] _ _ _
    have no : ∀ {us1 us2 : List F.U}, rowD F d1 us1 → rowD F d2 us2 → us1.length = ps.length → us2.length = ps.length → False := fun h1 h2 h3 h4 => by
      rw [fpl_row h1 h3, fpl_row h2 h4] at hi; cases hi
    have emp : ∀ us : List F.U, rowD F (.tuple []) us → allBd F 400 us := fun us h => by
      have h : some [] = some (us.map F.dat) := h
      have := Option.some.inj h
      cases us with
      | nil => exact fun u hu => by cases hu
      | cons a us => cases this
    refine ws_tryAsB (RX := RXT K (some i)) (fun Wq => ?_) (fun cl dd G3 O3 e3 rx => ?_)
    · refine wsx_seq (wsx_if ?_)
      walk_at "go"
      refine ⟨fun _ => ?_, fun _ => wsx_nx ?_⟩
      · refine wsx_ret (wx_lstG (wx_cons (wx_of (w_c (wx_cons (wx_callX rfl (wx_of ?_)))))))
        refine w_cons (w_var rfl (w_cons (w_var rfl (w_cons (w_var rfl (w_cons (w_var rfl (w_cons (w_mkFac ?_)))))))))
        refine w_cons (w_tupD (w_nil ⟨[], by simp, .nil, fun x G1 e1 hx => w_cons (w_tupD (w_nil ⟨[], by simp, .nil, fun y G2 e2 hy => w_nil ⟨x, y, rfl, fun v G3 e3 hv => w_nil ?_⟩⟩))⟩))
        have ee := (e1.trans e2).trans e3
        refine ⟨_, _, ⟨rfl, n, m, ps, vf, vp, v1, v2, v, x, y, d1, d2, _, _, rfl, fld_up ee hf, pic_up ee hp, Da.up ee hd1, Da.up ee hd2, hv, Da.up (e2.trans e3) hx, Da.up e3 hy, hb1, emp, emp, rfl, rfl⟩, fun v3 G4 A3 e4 ⟨hA, us1, us2, h1, h2, h3, h4, _⟩ => (no h1 h2 h3 h4).elim, fun c dd G4 A3 e4 ⟨h1, h2⟩ => ⟨by rw [h1]; rfl, by rw [← hi]; exact h2⟩⟩
      · refine wsx_ret (wx_lstG (wx_cons (wx_of (w_c (wx_cons (wx_callX rfl (wx_of ?_)))))))
        refine w_cons (w_var rfl (w_cons (w_var rfl (w_cons (w_var rfl (w_cons (w_var rfl (w_cons (w_mkUnl ?_)))))))))
        refine w_cons (w_c (w_cons (r_one T (w_var rfl ⟨hf, fun y hy => w_cons (r_one T (w_var rfl ⟨hf, fun z hz => w_nil ⟨_, y, z, rfl, fun v G3 e3 hv => w_nil ?_⟩⟩))⟩))))
        refine ⟨_, _, ⟨rfl, n, m, ps, vf, vp, v1, v2, v, _, y, z, d1, d2, .int 0, 1, 1, rfl, fld_up e3 hf, pic_up e3 hp, Da.up e3 hd1, Da.up e3 hd2, hv, .int _, nu_up e3 hy, nu_up e3 hz, hb1, hb2, rfl, rfl⟩, fun v3 G4 A3 e4 ⟨hA, us1, us2, h1, h2, h3, h4, _⟩ => (no h1 h2 h3 h4).elim, fun c dd G4 A3 e4 ⟨h1, h2⟩ => ⟨by rw [h1]; rfl, by rw [← hi]; exact h2⟩⟩
    · obtain ⟨hO, j, a, hj, hsm, rfl, rfl, hg⟩ := rx
      subst hO
      cases hj
      refine ⟨T.xm_BadTable, fun a' => ?_⟩
      refine ws_ret (w_lstD (w_cons (w_c (w_cons (w_xf (w_var rfl ⟨rfl, rfl, _, _, _, rfl, hg, rfl, ?_⟩))))))
      exact w_nil ⟨[.str "table", .int i], by simp, .cons (.str _) (.cons (.int _) .nil), fun x G4 e4 hx => ⟨rfl, hx⟩⟩
end
/-! text T7 -/
theorem first_at (L : List Nat) (k : Nat) : ∀ i, L.getD i 0 = k → ∃ j, j ≤ i ∧ L.getD j 0 = k ∧ ∀ r, r < j → L.getD r 0 ≠ k := by
  intro i
  induction i using Nat.strongRecOn with
  | ind i ih =>
    intro hi
    by_cases h : ∃ r, r < i ∧ L.getD r 0 = k
    · obtain ⟨r, h1, h2⟩ := h
      obtain ⟨j, a, b, c⟩ := ih r h1 h2
      exact ⟨j, by omega, b, c⟩
    · exact ⟨i, Nat.le_refl _, hi, fun r hr e => h ⟨r, hr, e⟩⟩
theorem w_indexN {K : PySem.W.Frag} {ta te : TE} {σ : L2.St} {G : Hp} {O : OL} {R : V → Hp → OL → Prop} (h : W (ta σ) G O fun x G1 O1 => ∃ L : List Nat, Da G1 [] x (.list (dnats L)) ∧ W (te σ) G1 O1 fun y G2 O2 => ∃ i, i < L.length ∧ y = .int (L.getD i 0 : Nat) ∧ Ex G1 G2 ∧ ∀ j, j ≤ i → L.getD j 0 = L.getD i 0 → (∀ r, r < j → L.getD r 0 ≠ L.getD i 0) → R (.int (j : Nat)) G2 O2) :
    W (tBM K "list" (rIndex K) ta (tCons te tNil) σ) G O R := by
  refine w_index (w_imp h fun x G1 O1 _ ⟨L, hL, z⟩ => ?_)
  obtain ⟨a, xs, rfl, ha, hxs⟩ := da_lst hL
  have e : xs = L.map fun x : Nat => V.int (x : Int) := by
    have : dnats L = (L.map fun x : Nat => (x : Int)).map PyData.int := by rw [List.map_map]; rfl
    rw [this] at hxs
    rw [daAll_ints' hxs, List.map_map]; rfl
  refine ⟨a, xs, rfl, .inl ha, w_imp z fun y G2 O2 e2 ⟨i, hi, ey, eG, q⟩ => ?_⟩
  obtain ⟨j, h1, h2, h3⟩ := first_at L (L.getD i 0) i rfl
  have gt : ∀ {r : Nat}, r < L.length → xs[r]? = some (.int (L.getD r 0 : Nat)) := fun {r} hr => by
    rw [e, List.getElem?_map, List.getElem?_eq_getElem hr, List.getD_eq_getElem?_getD, List.getElem?_eq_getElem hr]; rfl
  refine ⟨j, .int (L.getD j 0 : Nat), .inl (eG _ _ ha), by rw [ey]; rfl, ?_, gt (by omega), ?_, fun r z' hr hz => ?_, q j h1 h2 h3⟩
  · rw [e, List.all_eq_true]; intro x hx; obtain ⟨k, _, rfl⟩ := List.mem_map.mp hx; rfl
  · rw [ey, h2]; exact beq_self_eq_true (α := Int) _
  · rw [gt (by omega)] at hz
    cases hz
    rw [ey]
    have := h3 r hr
    show ((L.getD r 0 : Int) == (L.getD i 0 : Int)) = false
    rw [beq_eq_false_iff_ne]
    intro z; exact this (by omega)
section
variable {P : Program} {w : World} {K : PySem.W.Frag} {mg : Str → Option Value} {base : Heap}
theorem sc_law_leads : FnScope ["_law_prime_here", "_law_picture_here", "_law_one_here", "_law_other", "_law_told", "_law_points", "_law_shuts", "_law_pairs", "_law_zero", "_law_number_here", "_law_marks", "_law_point", "_law_shut_here"] ["_law_prime_here", "_law_picture_here", "_law_one_here", "_law_other", "_law_told"] (defScope s_law_leads) := ⟨rfl, rfl, rfl, by decide +kernel, rfl, by decide +kernel, by decide +kernel⟩
def R_law_leads (K : PySem.W.Frag) : Rel := fun ws G post => ∃ (F : Fk) (n m : Nat) (ps : List (Nat × Nat)) (v0 v1 v2 vt x y : V) (us1 us2 Pt Wt : List F.U), ws = [.int (F.p : Int), v0, v1, v2, vt] ∧ PW n m ps ∧ Da G [] v0 (dpic n m ps) ∧ Ro F G v1 us1 ∧ Ro F G v2 us2 ∧ us1.length = ps.length ∧ us2.length = ps.length ∧ allBd F 16 us1 ∧ FacOk K G vt x y ∧ Da G [] x (.tuple (Pt.map F.dat)) ∧ Da G [] y (.tuple (Wt.map F.dat)) ∧ Pt.length = n ∧ Wt.length = m ∧ allBd F 320 Pt ∧ allBd F 320 Wt ∧ scaled ps us1 Pt Wt = us2 ∧
    (∀ a, a < n → (∀ r, r < a → mu n m ps r ≠ mu n m ps a) → Pt.getD a 1 = 1) ∧ (∀ b, b < m → (∀ r, r < n + b → mu n m ps r ≠ mu n m ps (n + b)) → Wt.getD b 1 = 1) ∧ post = fun v _ => v = .bl true
theorem cal_law_leads (T : Txt K mg) : C8.Cal P w K mg base 5 "_law_leads" (Fn (SP (R_law_leads K))) [] := by
  refine cal_by T.d_law_leads sc_law_leads (fun vs G O R h => ?_) (fun f cdv A outer s H vs G O R E hr h => ?_)
  · obtain ⟨_, _, ⟨_, _, _, _, _, _, _, _, _, _, _, _, _, _, rfl, _⟩, _⟩ := h; rfl
  · obtain ⟨rfl, post, ⟨F, n, m, ps, v0, v1, v2, vt, x, y, us1, us2, Pt, Wt, rfl, pw, hv0, h1, h2, hl1, hl2, bu, hF, hx, hy, hPl, hWl, bP, bW, hsc, lead1, lead2, rfl⟩, rfl⟩ := h
    refine ⟨_, (pss_cons (ps_asg (pv 1) (pg_lstK K rfl (n := 3) rfl (pgs_cons (pg_name (i := 5) sc_law_leads.nd rfl (Or.inl rfl)) (pgs_cons (pg_name (i := 6) sc_law_leads.nd rfl (Or.inl rfl)) (pgs_cons (pg_name (i := 7) sc_law_leads.nd rfl (Or.inl rfl)) pgs_nil)))))
    (pss_cons (ps_if (PW.pt (pw_or (pt_not (pt_val (pe_callB (isiK K rfl) rfl T.b_isinstance PyProof.Rows.boot_isinstance (pa_cons (pe_fldK K rfl (pv 4) rfl) (pa_cons (pe_bltn (v := .ty "tuple") rfl T.b_tuple PyProof.Rows.boot_tuple rfl) pa_nil))))) (pw_or1 (pt_not (pt_val (pe_callB (isiK K rfl) rfl T.b_isinstance PyProof.Rows.boot_isinstance (pa_cons (pe_fldK K rfl (pv 4) rfl) (pa_cons (pe_bltn (v := .ty "tuple") rfl T.b_tuple PyProof.Rows.boot_tuple rfl) pa_nil))))))))
      (pss_one (ps_ret pe_bl))
      pss_nil)
    (pss_cons (ps_if (PW.pt (pw_or (pt_cmpR op_ne (pe_callB (lenK K rfl) rfl T.b_len PySem.boot_len (pa_cons (pe_fldK K rfl (pv 4) rfl) pa_nil)) (pv 5) (nomark _)) (pw_or1 (pt_cmpR op_ne (pe_callB (lenK K rfl) rfl T.b_len PySem.boot_len (pa_cons (pe_fldK K rfl (pv 4) rfl) pa_nil)) (pv 6) (nomark _)))))
      (pss_one (ps_ret pe_bl))
      pss_nil)
    (pss_cons (ps_set (i := 8) sc_law_leads.nd rfl (Or.inl rfl) (pe_ifExp (pt_cmpR op_eq (pv 0) pe_int (nomark _)) (pe_tup (pa_cons pe_int (pa_cons pe_int pa_nil))) pe_int))
    (pss_cons (ps_for PassesOwn.never rfl (pi_tupK K rfl (pe_op (catAK K rfl) (pe_fldK K rfl (pv 4) rfl) (pe_fldK K rfl (pv 4) rfl))) (pg_name (i := 9) sc_law_leads.nd rfl (Or.inl rfl))
      (pss_one (ps_if (PW.pt (pw_or (pt_not (pt_val (C8.pe_c (cal_law_is_number T) hr (by omega) rfl (pa_cons (pv 0) (pa_cons (pv 9) pa_nil))))) (pw_or1 (pt_cmpR (eqDK K rfl hr.units) (pv 9) (pv 8) (nomark _)))))
        (pss_one (ps_ret pe_bl))
        pss_nil)))
    (pss_cons (ps_if (pt_cmpR (neDK K rfl hr.units) (C8.pe_c (cal_law_scaled T) hr (by omega) rfl (pa_cons (pv 0) (pa_cons (pv 1) (pa_cons (pv 2) (pa_cons (pe_fldK K rfl (pv 4) rfl) (pa_cons (pe_fldK K rfl (pv 4) rfl) pa_nil)))))) (pe_callTy (listK K rfl) rfl T.b_list PyProof.Rows.boot_list (pa_cons (pv 3) pa_nil)) (nomark _))
      (pss_one (ps_ret pe_bl))
      pss_nil)
    (pss_cons (ps_set (i := 10) sc_law_leads.nd rfl (Or.inl rfl) (pe_ix (ixK K rfl) (C8.pe_c (cal_law_tree T) hr (by omega) rfl (pa_cons (pv 1) pa_nil)) pe_int (fun _ _ => rfl)))
    (pss_cons (ps_for PassesOwn.never rfl (pi_range1 rfl T.b_range (pa_cons (pv 5) pa_nil)) (pg_name (i := 11) sc_law_leads.nd rfl (Or.inl rfl))
      (pss_one (ps_if (PW.pt (pw_and (pt_cmpR op_eq (pe_bm PySem.F.plainAttrs_list PySem.F.slot_list_index PySem.F.type_list_index mt_index (pv 10) (pa_cons (pe_ix (ixK K rfl) (pv 10) (pv 11) (fun _ _ => rfl)) pa_nil)) (pv 11) (nomark _)) (pw_and1 (pt_cmpR (neDK K rfl hr.units) (pe_ix (ixK K rfl) (pe_fldK K rfl (pv 4) rfl) (pv 11) (fun _ _ => rfl)) (C8.pe_c (cal_law_one T) hr (by omega) rfl (pa_cons (pv 0) pa_nil)) (nomark _)))))
        (pss_one (ps_ret pe_bl))
        pss_nil)))
    (pss_cons (ps_for PassesOwn.never rfl (pi_range1 rfl T.b_range (pa_cons (pv 6) pa_nil)) (pg_name (i := 12) sc_law_leads.nd rfl (Or.inl rfl))
      (pss_one (ps_if (PW.pt (pw_and (pt_cmpR op_eq (pe_bm PySem.F.plainAttrs_list PySem.F.slot_list_index PySem.F.type_list_index mt_index (pv 10) (pa_cons (pe_ix (ixK K rfl) (pv 10) (pe_op op_add (pv 5) (pv 12)) (fun _ _ => rfl)) pa_nil)) (pe_op op_add (pv 5) (pv 12)) (nomark _)) (pw_and1 (pt_cmpR (neDK K rfl hr.units) (pe_ix (ixK K rfl) (pe_fldK K rfl (pv 4) rfl) (pv 12) (fun _ _ => rfl)) (C8.pe_c (cal_law_one T) hr (by omega) rfl (pa_cons (pv 0) pa_nil)) (nomark _)))))
        (pss_one (ps_ret pe_bl))
        pss_nil)))
    (pss_one (ps_ret pe_bl))))))))))), ?_⟩
    show WS _ [some (.int (F.p : Int)), some (v0), some (v1), some (v2), some (vt), none, none, none, none, none, none, none, none] _ _ _
    have n5 := pw.n5
    have m5 := pw.m5
    have l25 := pw.len
    refine ws_seq (ws_asg (w_var rfl ?_))
    refine g_lstD hv0 rfl fun xs hxs => ?_
    obtain ⟨w1, w2, w3, rfl, g1, g2, g3⟩ := da3 hxs
    rw [da_int g1, da_int g2]
    refine g_cons (g_name (g_cons (g_name (g_cons (g_name (g_nil ?_))))))
    walk_at "go"
    refine r_facP T (w_var rfl ⟨_, _, hF, ?_⟩)
    walk_at "go"
    obtain ⟨xa, xxs, ex, hxa, hxxs⟩ := da_tup hx
    obtain ⟨ya, yys, ey, hya, hyys⟩ := da_tup hy
    subst ex ey
    refine r_isiTy (n := "tuple") (b := true) (.tup hxa) rfl ?_
    walk_at "go"
    refine r_facW T (w_var rfl ⟨_, _, hF, ?_⟩)
    walk_at "go"
    refine r_facP T (w_var rfl ⟨_, _, hF, ?_⟩)
    walk_at "go"
    refine r_lenD (.inr hx) ?_
    rw [List.length_map, hPl]
    walk_at "go"
    refine cj_ni (fun h => absurd rfl h) fun _ => ?_
    walk_at "go"
    refine r_facW T (w_var rfl ⟨_, _, hF, ?_⟩)
    walk_at "go"
    refine r_lenD (.inr hy) ?_
    rw [List.length_map, hWl]
    walk_at "go"
    refine cj_ni (fun h => absurd rfl h) fun _ => ?_
    refine ws_nx ?_
    refine ws_seqI (fun σ G' O' => ∃ vz, σ = [some (.int (F.p : Int)), some v0, some v1, some v2, some vt, some (.int (n : Int)), some (.int (m : Int)), some w3, some vz, none, none, none, none] ∧ O' = [] ∧ Da G' [] vz F.zero) ?_ ?_
    · walk_at "go"
      walk_at "if"
      · intro hc
        walk_at "go"
        refine ⟨_, by simp, .cons (.int _) (.cons (.int _) .nil), fun z G3 e3 hz => ⟨_, rfl, rfl, ?_⟩⟩
        cases F with
        | rest p hp => have : (p : Int) = 0 := hc; have := hp.1; omega
        | frac => exact hz
      · intro hc
        walk_at "go"
        refine ⟨_, rfl, rfl, ?_⟩
        cases F with
        | frac => exact absurd rfl hc
        | rest p hp => exact .int _
    rintro σ' G3 O3 e3 ⟨vz, rfl, rfl, hvz⟩
    have hF := fac_up e3 hF
    have hx := Da.up e3 hx
    have hy := Da.up e3 hy
    have hxa := e3 _ _ hxa
    have hya := e3 _ _ hya
    have hxxs := DaAll.up e3 hxxs
    have hyys := DaAll.up e3 hyys
    have hv0 := Da.up e3 hv0
    have h1 := ro_up e3 h1
    have h2 := ro_up e3 h2
    have hxl := daAll_len hxxs
    have hyl := daAll_len hyys
    rw [List.length_map] at hxl hyl
    refine ws_seq ?_
    refine ws_for (i_tup (w_op (r_facP T (w_var rfl ⟨_, _, hF, r_facW T (w_var rfl ⟨_, _, hF, ?_⟩)⟩))))
    refine r_catA hxa hya (by rw [sizeLine_eq]; omega) fun l G4 e4 hl4 => ?_
    refine ⟨l, xxs ++ yys, rfl, hl4, _, _, wk_tup hl4, fun i σ G' O' => ∃ u, σ = [some (.int (F.p : Int)), some v0, some v1, some v2, some vt, some (.int (n : Int)), some (.int (m : Int)), some w3, some vz, u, none, none, none] ∧ O' = [], ⟨_, rfl, rfl⟩, ?_, ?_⟩
    · rintro i z σ' G5 O' hi e5 ⟨u, rfl, rfl⟩ G6 e6 hz
      have hall : DaAll G6 [] (xxs ++ yys) ((Pt ++ Wt).map F.dat) := by
        rw [List.map_append]
        exact DaAll.up (e4.trans (e5.trans e6)) (daAll_app hxxs hyys)
      obtain ⟨d, hd1, hd2⟩ := daAll_of hall hz
      have hil : i < (Pt ++ Wt).length := by rw [List.length_append, ← hxl, ← hyl, ← List.length_append]; exact hi
      rw [ro_get hil] at hd1
      cases hd1
      have bal : allBd F 320 (Pt ++ Wt) := fun u hu => by
        rcases List.mem_append.mp hu with hu | hu
        · exact bP u hu
        · exact bW u hu
      walk_at "go"
      refine f_p ⟨F, _, _, rfl, hd2, Fk.bd_mono (bal.get i) (by decide), rfl⟩ fun v7 G7 e7 hv7 => ?_
      subst hv7
      walk_at "go"
      refine r_eqZ (Da.up e7 hd2) (Da.up (e4.trans (e5.trans (e6.trans e7))) hvz) ?_
      walk_at "go"
      exact ⟨_, rfl, rfl⟩
    rintro σ' G5 O' e5 ⟨u, rfl, rfl⟩
    have ee := e4.trans e5
    have hF := fac_up ee hF
    have hx := Da.up ee hx
    have hy := Da.up ee hy
    have hv0 := Da.up ee hv0
    have h1 := ro_up ee h1
    have h2 := ro_up ee h2
    refine ws_seq (ws_if (t_test (w_op (w_call0 (w_cons (w_var rfl (w_cons (w_var rfl (w_cons (w_var rfl (w_cons (r_facP T (w_var rfl ⟨_, _, hF, w_cons (r_facW T (w_var rfl ⟨_, _, hF, w_nil ?_⟩))⟩)))))))))))))
    refine f_own ⟨rfl, F, n, m, ps, us1, Pt, Wt, _, _, _, _, rfl, pw, hv0, h1, .inr hx, .inr hy, hl1, hPl, hWl, bu.mono (by decide), bP.mono (by decide), bW.mono (by decide), rfl⟩ fun v6 G6 A6 e6 ⟨l6, xs6, ev6, eA6, hxs6⟩ => ?_
    subst ev6 eA6
    refine w_frzD 0 rfl hxs6 fun G7 e7 hsl => ?_
    refine w_cb (w_cons (w_var rfl (w_nil (r_listDG (ro_up (e6.trans e7) h2) fun z8 G8 e8 hz8 => ?_))))
    refine r_neRL (Da.up e8 hsl) hz8 ?_
    rw [decide_eq_true hsc]
    refine ⟨_, rfl, fun z => (by cases z), fun _ => ws_nx ?_⟩
    show WS _ _ _ [] _
    have ee := (e6.trans e7).trans e8
    have hF := fac_up ee hF
    have hx := Da.up ee hx
    have hy := Da.up ee hy
    have hv0 := Da.up ee hv0
    refine ws_seq (ws_set (w_op (w_call0 (w_cons (w_var rfl (w_nil ?_))))))
    refine f_p ⟨n, m, ps, _, pw, rfl, hv0, rfl⟩ fun v9 G9 e9 hv9 => ?_
    walk_at "go"
    refine r_atD (j := 1) (.inl hv9) rfl rfl fun vM hvM => ?_
    walk_at "go"
    have hF := fac_up e9 hF
    have hx := Da.up e9 hx
    have hy := Da.up e9 hy
    have mlen : (tr pmin n m ps ps.length).1.length = n + m := tr_len _
    have mmu : ∀ v, (tr pmin n m ps ps.length).1.getD v 0 = mu n m ps v := fun v => rfl
    refine ws_for (i_range1 ?_)
    walk_at "go"
    refine ⟨by omega, by omega, _, _, wk_range0, fun i σ G' O' => ∃ u2, σ = [some (.int (F.p : Int)), some v0, some v1, some v2, some vt, some (.int (n : Int)), some (.int (m : Int)), some w3, some vz, u, some vM, u2, none] ∧ O' = [], ⟨_, rfl, rfl⟩, ?_, ?_⟩
    · rintro i z σ' G10 O' hi e10 ⟨u2, rfl, rfl⟩ G11 e11 rfl
      have hi : i < n := by omega
      have ee := e10.trans e11
      have hF := fac_up ee hF
      have hx := Da.up ee hx
      have hvM := Da.up ee hvM
      refine g_name ?_
      refine ws_if (t_and (t_test (w_op (w_indexN (w_var rfl ⟨_, hvM, w_op (w_var rfl (w_var rfl ?_))⟩)))))
      refine r_atD (j := i) (.inl hvM) (dn_get (by omega)) rfl fun z hz => ?_
      refine ⟨i, by omega, da_int hz, .refl _, fun j hj hj2 hj3 => ?_⟩
      walk_at "go"
      refine ⟨fun hc => ?_, fun _ => ⟨fun z => (by cases z), fun _ => ?_⟩⟩
      · have hji : j = i := by
          have := V.int.inj (of_decide_eq_true hc)
          omega
        rw [hji] at hj3 hj2
        have hone : Pt.getD i 1 = 1 := lead1 i hi fun r hr => by rw [← mmu, ← mmu]; exact hj3 r hr
        refine t_test (w_op (w_op (r_facP T (w_var rfl ⟨_, _, hF, w_var rfl ?_⟩))))
        refine r_atD (j := i) (.inr hx) (ro_get (by omega)) rfl fun y1 hy1 => ?_
        refine w_call0 (w_cons (w_var rfl (w_nil ?_)))
        refine f_p ⟨F, rfl, rfl⟩ fun v12 G12 e12 hv12 => ?_
        refine r_neN (nu_up e12 hy1) hv12 ?_
        rw [decide_eq_true hone]
        refine ⟨_, rfl, fun z => (by cases z), fun _ => ws_nx ?_⟩
        exact ⟨_, rfl, rfl⟩
      · exact ws_nx ⟨_, rfl, rfl⟩
    rintro σ' G10 O' e10 ⟨u2, rfl, rfl⟩
    have hF := fac_up e10 hF
    have hy := Da.up e10 hy
    have hvM := Da.up e10 hvM
    refine ws_seq ?_
    refine ws_for (i_range1 ?_)
    walk_at "go"
    refine ⟨by omega, by omega, _, _, wk_range0, fun i σ G' O' => ∃ u3, σ = [some (.int (F.p : Int)), some v0, some v1, some v2, some vt, some (.int (n : Int)), some (.int (m : Int)), some w3, some vz, u, some vM, u2, u3] ∧ O' = [], ⟨_, rfl, rfl⟩, ?_, ?_⟩
    · rintro i z σ' G11 O' hi e11 ⟨u3, rfl, rfl⟩ G12 e12 rfl
      have hi : i < m := by omega
      have ee := e11.trans e12
      have hF := fac_up ee hF
      have hy := Da.up ee hy
      have hvM := Da.up ee hvM
      refine g_name ?_
      refine ws_if (t_and (t_test (w_op (w_indexN (w_var rfl ⟨_, hvM, w_op (w_var rfl ?_)⟩)))))
      walk_at "go"
      refine r_atD (j := n + i) (.inl hvM) (dn_get (by omega)) (by omega) fun z hz => ?_
      refine ⟨n + i, by omega, da_int hz, .refl _, fun j hj hj2 hj3 => ?_⟩
      walk_at "go"
      refine ⟨fun hc => ?_, fun _ => ⟨fun z => (by cases z), fun _ => ?_⟩⟩
      · have hji : j = (n + i) := by
          have := V.int.inj (of_decide_eq_true hc)
          omega
        rw [hji] at hj3 hj2
        have hone : Wt.getD i 1 = 1 := lead2 i hi fun r hr => by rw [← mmu, ← mmu]; exact hj3 r hr
        refine t_test (w_op (w_op (r_facW T (w_var rfl ⟨_, _, hF, w_var rfl ?_⟩))))
        refine r_atD (j := i) (.inr hy) (ro_get (by omega)) rfl fun y1 hy1 => ?_
        refine w_call0 (w_cons (w_var rfl (w_nil ?_)))
        refine f_p ⟨F, rfl, rfl⟩ fun v12 G12 e12 hv12 => ?_
        refine r_neN (nu_up e12 hy1) hv12 ?_
        rw [decide_eq_true hone]
        refine ⟨_, rfl, fun z => (by cases z), fun _ => ws_nx ?_⟩
        exact ⟨_, rfl, rfl⟩
      · exact ws_nx ⟨_, rfl, rfl⟩
    rintro σ' G11 O' e11 ⟨u3, rfl, rfl⟩
    walk_at "go"
    exact ⟨rfl, rfl⟩
end
/-! text T8 -/
/-- the factors moved along one piece -/
def movP {U : Type} [Gp U] (mu : Nat → Nat) (M : Nat) (u : U) (off : Nat) (Pt : List U) : List U := (List.range Pt.length).map fun a => if mu (off + a) = M then Pt.getD a 1 * u else Pt.getD a 1
theorem movP_len {U : Type} [Gp U] {mu : Nat → Nat} {M : Nat} {u : U} {off : Nat} {Pt : List U} : (movP mu M u off Pt).length = Pt.length := by simp [movP]
theorem movP_get {U : Type} [Gp U] {mu : Nat → Nat} {M : Nat} {u : U} {off : Nat} {Pt : List U} {a : Nat} (h : a < Pt.length) : (movP mu M u off Pt).getD a 1 = if mu (off + a) = M then Pt.getD a 1 * u else Pt.getD a 1 := by
  rw [movP, List.getD_eq_getElem?_getD, List.getElem?_map, List.getElem?_range h]; rfl
theorem movP_scaled {U : Type} [Gp U] {n m : Nat} {ps : List (Nat × Nat)} {us Pt Wt : List U} {u : U} {M : Nat} (pw : PW n m ps) (hl : us.length = ps.length) (hP : Pt.length = n) (hW : Wt.length = m) : scaled ps us (movP (mu n m ps) M u 0 Pt) (movP (mu n m ps) M u⁻¹ n Wt) = scaled ps us Pt Wt := by
  refine List.map_congr_left fun k hk => ?_
  have hk : k < ps.length := by rw [← hl]; exact List.mem_range.mp hk
  have hin := pa_in pw hk
  rw [movP_get (by omega), movP_get (by omega)]
  have e : mu n m ps (0 + (pa ps k).1) = mu n m ps (n + (pa ps k).2) := by rw [Nat.zero_add]; exact mk_pairs pw ps.length (Nat.le_refl _) k hk
  rw [e]
  split
  · congr 1
    rw [Gp.ma, ← Gp.ma u, mc u, Gp.ma, mi, Gp.mo]
  · rfl
theorem movP_bd {F : Fk} {mu : Nat → Nat} {M : Nat} {u : F.U} {off B C : Nat} {Pt : List F.U} (h : allBd F B Pt) (hu : F.bd C u) : allBd F (B + C) (movP mu M u off Pt) := fun v hv => by
  obtain ⟨a, _, rfl⟩ := List.mem_map.mp hv
  split
  · exact Fk.bd_mul (h.get a) hu
  · exact Fk.bd_mono (h.get a) (Nat.le_add_right _ _)
section
variable {P : Program} {w : World} {K : PySem.W.Frag} {mg : Str → Option Value} {base : Heap}
theorem sc_law_other_factors : FnScope ["_law_hand_here", "_law_prime_here", "_law_picture_here", "_law_points", "_law_shuts", "_law_marks", "_law_mark", "_law_number_here", "_law_back", "_law_more", "_law_less", "_law_k"] ["_law_hand_here", "_law_prime_here", "_law_picture_here", "_law_points", "_law_shuts"] (defScope s_law_other_factors) := ⟨rfl, rfl, rfl, by decide +kernel, rfl, by decide +kernel, by decide +kernel⟩
def R_law_otherf : Rel := fun ws G post => ∃ (F : Fk) (n m : Nat) (ps : List (Nat × Nat)) (v0 vP vW : V) (Pt Wt : List F.U), ws = [.int (F.p : Int), v0, vP, vW] ∧ PW n m ps ∧ Da G [] v0 (dpic n m ps) ∧ Ro F G vP Pt ∧ Ro F G vW Wt ∧ Pt.length = n ∧ Wt.length = m ∧ allBd F 320 Pt ∧ allBd F 320 Wt ∧ post = fun v G' => ∃ Pt' Wt' : List F.U, Da G' [] v (.list [.list (Pt'.map F.dat), .list (Wt'.map F.dat)]) ∧ Pt'.length = n ∧ Wt'.length = m ∧ allBd F 330 Pt' ∧ allBd F 330 Wt' ∧ ∀ us : List F.U, us.length = ps.length → scaled ps us Pt' Wt' = scaled ps us Pt Wt
theorem cal_law_other_factors (T : Txt K mg) : C8.Cal P w K mg base 8 "_law_other_factors" (Fn (SH R_law_otherf)) [] := by
  refine cal_by T.d_law_other_factors sc_law_other_factors (fun vs G O R h => ?_) (fun f cdv A outer s H vs G O R E hr h => ?_)
  · obtain ⟨_, _, _, rfl, _, _, _, ⟨_, _, _, _, _, _, _, _, _, rfl, _⟩, _⟩ := h; rfl
  · obtain ⟨h, o, _, rfl, rfl, ho, post, ⟨F, n, m, ps, v0, vP, vW, Pt, Wt, rfl, pw, hv0, hvP, hvW, hPl, hWl, bP, bW, rfl⟩, rfl⟩ := h
    refine ⟨_, (pss_cons (ps_set (i := 5) sc_law_other_factors.nd rfl (Or.inr rfl) (pe_ix (ixK K rfl) (C8.pe_c (cal_law_tree T) hr (by omega) rfl (pa_cons (pv 2) pa_nil)) pe_int (fun _ _ => rfl)))
    (pss_cons (ps_set (i := 6) sc_law_other_factors.nd rfl (Or.inr rfl) (pe_ix (ixK K rfl) (pv 5) (C8.pe_c (cal_law_draw T) hr (by omega) rfl (pa_cons (pv 0) (pa_cons (pe_callB (lenK K rfl) rfl T.b_len PySem.boot_len (pa_cons (pv 5) pa_nil)) pa_nil))) (fun _ _ => rfl)))
    (pss_cons (ps_set (i := 7) sc_law_other_factors.nd rfl (Or.inr rfl) (C8.pe_c (cal_law_number T) hr (by omega) rfl (pa_cons (pv 0) (pa_cons (pv 1) pa_nil))))
    (pss_cons (ps_set (i := 8) sc_law_other_factors.nd rfl (Or.inl rfl) (C8.pe_c (cal_law_power T) hr (by omega) rfl (pa_cons (pv 1) (pa_cons (pv 7) (pa_cons (pe_op op_sub pe_int pe_int) pa_nil)))))
    (pss_cons (ps_setLc (i := 9) (own := [("_law_k", 11)]) rfl sc_law_other_factors.nd rfl rfl (sw_true rfl rfl rfl (by decide +kernel)) (pi_range1 rfl T.b_range (pa_cons (pe_ix (ixK K rfl) (pv 2) pe_int (fun _ _ => rfl)) pa_nil)) (blkOk_by (N := ["_law_hand_here", "_law_prime_here", "_law_picture_here", "_law_points", "_law_shuts", "_law_marks", "_law_mark", "_law_number_here", "_law_back", "_law_more", "_law_less", "_law_k"]) (sc := defScope s_law_other_factors) (by decide +kernel)) (fun _ _ _ _ _ => (pg_name (i := 11) sc_law_other_factors.nd rfl (Or.inl rfl))) (fun _ _ _ _ _ => pts_nil) (fun _ _ _ _ _ => (pe_ifExp (pt_cmpR op_eq (pe_ix (ixK K rfl) (pv 5) (pv 11) (fun _ _ => rfl)) (pv 6) (nomark _)) (C8.pe_c (cal_law_times T) hr (by omega) rfl (pa_cons (pv 1) (pa_cons (pe_ix (ixK K rfl) (pv 3) (pv 11) (fun _ _ => rfl)) (pa_cons (pv 7) pa_nil)))) (pe_ix (ixK K rfl) (pv 3) (pv 11) (fun _ _ => rfl)))))
    (pss_cons (ps_set (i := 10) sc_law_other_factors.nd rfl (Or.inl rfl) (pe_lst pa_nil))
    (pss_cons (ps_for PassesOwn.never rfl (pi_range1 rfl T.b_range (pa_cons (pe_ix (ixK K rfl) (pv 2) pe_int (fun _ _ => rfl)) pa_nil)) (pg_name (i := 11) sc_law_other_factors.nd rfl (Or.inl rfl))
      (pss_one (ps_expr (pe_bm PySem.F.plainAttrs_list PySem.F.slot_list_append PySem.F.type_list_append mt_append (pv 10) (pa_cons (pe_ifExp (pt_cmpR op_eq (pe_ix (ixK K rfl) (pv 5) (pe_op op_add (pe_ix (ixK K rfl) (pv 2) pe_int (fun _ _ => rfl)) (pv 11)) (fun _ _ => rfl)) (pv 6) (nomark _)) (C8.pe_c (cal_law_times T) hr (by omega) rfl (pa_cons (pv 1) (pa_cons (pe_ix (ixK K rfl) (pv 4) (pv 11) (fun _ _ => rfl)) (pa_cons (pv 8) pa_nil)))) (pe_ix (ixK K rfl) (pv 4) (pv 11) (fun _ _ => rfl))) pa_nil)))))
    (pss_one (ps_ret (pe_lst (pa_cons (pv 9) (pa_cons (pv 10) pa_nil)))))))))))), ?_⟩
    show WS _ [some (.ref h), some (.int (F.p : Int)), some (v0), some (vP), some (vW), none, none, none, none, none, none, none] _ _ _
    have n1 := pw.n1
    have n5 := pw.n5
    have m5 := pw.m5
    have mlen : (tr pmin n m ps ps.length).1.length = n + m := tr_len _
    have mmu : ∀ v, (tr pmin n m ps ps.length).1.getD v 0 = mu n m ps v := fun v => rfl
    walk_at "go"
    refine f_p ⟨n, m, ps, _, pw, rfl, hv0, rfl⟩ fun v9 G1 e1 hv9 => ?_
    walk_at "go"
    refine r_atD (j := 1) (.inl hv9) rfl rfl fun vM hvM => ?_
    walk_at "go"
    refine r_lenD (.inl hvM) ?_
    rw [dn_len, mlen]
    walk_at "go"
    refine f_h (hd_up e1 ho) ⟨_, rfl, by omega, by omega, rfl⟩ fun v G2 o2 e2 ho2 hk => ?_
    obtain ⟨k, rfl, hk0, hk1⟩ := hk
    refine r_atD (j := k.toNat) (.inl (Da.up e2 hvM)) (dn_get (by omega)) (by omega) fun vm hvm => ?_
    rw [da_int hvm, mmu]
    generalize hM : mu n m ps k.toNat = M
    walk_at "go"
    refine f_h ho2 ⟨F, rfl, rfl⟩ fun vu G3 o3 e3 ho3 hku => ?_
    obtain ⟨u, hu, bu⟩ := hku
    walk_at "go"
    refine f_p ⟨F, _, u, (0 : Int) - 1, 4, rfl, hu, bu, by decide, by decide, by decide, fun _ => rfl, rfl⟩ fun vb G4 e4 hvb => ?_
    have ez : zp u ((0 : Int) - 1) = u⁻¹ := by
      rw [zp_of_neg _ _ (by decide)]
      show np u⁻¹ 1 = u⁻¹
      rw [np, np, mc, Gp.mo]
    rw [ez] at hvb
    have e24 := (e2.trans e3).trans e4
    have hv0 := Da.up (e1.trans e24) hv0
    have hvP := ro_up (e1.trans e24) hvP
    have hvW := ro_up (e1.trans e24) hvW
    have hvM := Da.up e24 hvM
    have hu := nu_up e4 hu
    refine ws_seq (ws_set (w_lcRm ?_))
    walk_at "go"
    refine r_atD (j := 0) (.inl hv0) rfl rfl fun z0 hz0 => ?_
    rw [da_int hz0]
    walk_at "go"
    refine ⟨n, rfl, by omega, fun a => F.dat (if mu n m ps (0 + a) = M then Pt.getD a 1 * u else Pt.getD a 1), fun a G5 ha e5 => ⟨rfl, ?_⟩, fun p G5 e5 hq => ?_⟩
    · refine w_ifE (t_test ?_)
      walk_at "go"
      refine r_atD (j := a) (.inl (Da.up e5 hvM)) (dn_get (by omega)) rfl fun z hz => ?_
      rw [da_int hz, mmu]
      refine w_var rfl ?_
      refine r_eq rfl ?_
      refine ⟨_, rfl, fun hc => ?_, fun hc => ?_⟩
      · have hc : mu n m ps a = M := by have := V.int.inj (of_decide_eq_true hc); omega
        walk_at "go"
        refine r_atD (j := a) (ro_up e5 hvP) (ro_get (by omega)) rfl fun y hy => ?_
        walk_at "go"
        refine f_p ⟨F, _, _, _, _, rfl, hy, nu_up e5 hu, Fk.bd_mono (bP.get _) (by decide), Fk.bd_mono bu (by decide), rfl⟩ fun v6 G6 e6 hv6 => ⟨rfl, ?_⟩
        rw [Nat.zero_add, if_pos hc]
        exact hv6
      · have hc : ¬ mu n m ps a = M := fun e => by rw [e] at hc; simp at hc
        walk_at "go"
        refine r_atD (j := a) (ro_up e5 hvP) (ro_get (by omega)) rfl fun y hy => ⟨rfl, ?_⟩
        rw [Nat.zero_add, if_neg hc]
        exact hy
    have hq2 : Da G5 [] (.ref p) (.list ((movP (mu n m ps) M u 0 Pt).map F.dat)) := by
      rw [movP, List.map_map, hPl]
      exact hq
    have hv0 := Da.up e5 hv0
    have hvW := ro_up e5 hvW
    have hvM := Da.up e5 hvM
    have hvb := nu_up e5 hvb
    walk_at "go"
    refine w_lst ?_
    walk_at "go"
    refine ⟨by decide, fun lp hlp => ?_⟩
    show WS _ _ _ [(h, o3), (lp, .lst [])] _
    have ho5 := hd_up (e4.trans e5) ho3
    refine ws_seq ?_
    refine ws_for (i_range1 ?_)
    walk_at "go"
    refine r_atD (j := 1) (.inl hv0) rfl rfl fun z0 hz0 => ?_
    rw [da_int hz0]
    walk_at "go"
    refine ⟨by omega, by omega, _, _, wk_range0, fun i σ G' O' => ∃ (u11 : Option V) (xs : List V), σ = [some (.ref h), some (.int (F.p : Int)), some v0, some vP, some vW, some vM, some (.int (M : Int)), some vu, some vb, some (.ref p), some (.ref lp), u11] ∧ O' = [(h, o3), (lp, .lst xs)] ∧ DaAll G' [] xs (((List.range i).map fun b => if mu n m ps (n + b) = M then Wt.getD b 1 * u⁻¹ else Wt.getD b 1).map F.dat), ⟨_, [], rfl, rfl, .nil⟩, ?_, ?_⟩
    · rintro i x σ' G6 O' hi e6 ⟨u11, xs, rfl, rfl, hxs⟩ G7 e7 rfl
      have hi : i < m := by omega
      have hxs := DaAll.up e7 hxs
      have hlx := daAll_len hxs
      simp only [List.length_map, List.length_range] at hlx
      have ee := e6.trans e7
      have hv0 := Da.up ee hv0
      have hvW := ro_up ee hvW
      have hvM := Da.up ee hvM
      have hvb := nu_up ee hvb
      have fin : ∀ {v : V} {G8 : Hp}, Ex G7 G8 → Nu F G8 v (if mu n m ps (n + i) = M then Wt.getD i 1 * u⁻¹ else Wt.getD i 1) → DaAll G8 [] (xs ++ [v]) (((List.range (i + 1)).map fun b => if mu n m ps (n + b) = M then Wt.getD b 1 * u⁻¹ else Wt.getD b 1).map F.dat) := fun {v G8} e8 hv => by
        rw [List.range_succ, List.map_append, List.map_append]
        exact daAll_snoc (DaAll.up e8 hxs) hv
      walk_at "go"
      refine w_append ?_
      walk_at "go"
      refine ⟨1, lp, xs, rfl, rfl, ?_⟩
      refine w_ifE (t_test ?_)
      walk_at "go"
      refine r_atD (j := 0) (.inl hv0) rfl rfl fun z0 hz0 => ?_
      rw [da_int hz0]
      walk_at "go"
      refine r_atD (j := n + i) (.inl hvM) (dn_get (by omega)) (by omega) fun z hz => ?_
      rw [da_int hz, mmu]
      refine w_var rfl ?_
      refine r_eq rfl ?_
      refine ⟨_, rfl, fun hc => ?_, fun hc => ?_⟩
      · have hc : mu n m ps (n + i) = M := by have := V.int.inj (of_decide_eq_true hc); omega
        walk_at "go"
        refine r_atD (j := i) hvW (ro_get (by omega)) rfl fun y hy => ?_
        walk_at "go"
        refine f_p ⟨F, _, _, _, _, rfl, hy, hvb, Fk.bd_mono (bW.get _) (by decide), Fk.bd_mono (Fk.bd_inv bu) (by decide), rfl⟩ fun v8 G8 e8 hv8 => ⟨rfl, by omega, ?_⟩
        exact ⟨_, _, rfl, rfl, fin e8 (by rw [if_pos hc]; exact hv8)⟩
      · have hc : ¬ mu n m ps (n + i) = M := fun e => by rw [e] at hc; simp at hc
        walk_at "go"
        refine r_atD (j := i) hvW (ro_get (by omega)) rfl fun y hy => ⟨rfl, by omega, ?_⟩
        exact ⟨_, _, rfl, rfl, fin (.refl _) (by rw [if_neg hc]; exact hy)⟩
    · rintro σ' G6 O' e6 ⟨u11, xs, rfl, rfl, hxs⟩
      rw [Int.toNat_natCast] at hxs
      refine ws_frzD 1 rfl hxs fun G7 e7 hx => ?_
      show WS _ _ _ [(h, o3)] _
      refine ws_ret (w_lstD ?_)
      walk_at "go"
      refine ⟨_, by simp, .cons (Da.up (e6.trans e7) hq2) (.cons hx .nil), fun v8 G8 e8 hv8 => ⟨_, rfl, hd_up (e6.trans (e7.trans e8)) ho5, movP (mu n m ps) M u 0 Pt, movP (mu n m ps) M u⁻¹ n Wt, ?_, by rw [movP_len, hPl], by rw [movP_len, hWl], (movP_bd bP bu).mono (by decide), (movP_bd bW (Fk.bd_inv bu)).mono (by decide), fun us hl => movP_scaled pw hl hPl hWl⟩⟩
      have e2 : movP (mu n m ps) M u⁻¹ n Wt = (List.range m).map fun b => if mu n m ps (n + b) = M then Wt.getD b 1 * u⁻¹ else Wt.getD b 1 := by rw [movP, hWl]
      rw [e2]
      exact hv8
end
/-! text T9 -/
/-- a def that may raise, called where it does not -/
theorem w_callX {S : SgX} {EE : L2.St → XK} {t : TA} {σ : L2.St} {G : Hp} {O : OL} {R : V → Hp → OL → Prop} (h : W (t σ) G O fun vs G1 O1 => ∃ R1 RX1, S vs G1 [] R1 RX1 ∧ (∀ v G2 A2, Ex G1 G2 → R1 v G2 A2 → R v G2 (A2 ++ O1)) ∧ ∀ c d G2 A2, RX1 c d G2 A2 → False) :
    W (tCallS (FnX S) EE t σ) G O R := fun H m Q q =>
  h H m _ fun vs H1 G1 O1 m1 u1 ⟨R1, RX1, hS, hr, hx⟩ => by
    have mp : Md H1 G1 ([] ++ O1) := m1
    exact ⟨G1, [], R1, RX1, mp.left, hS, fun v H' G' A' m' u r => let ⟨m2, u2⟩ := mp.frame m' u; q v H' G' (A' ++ O1) m2 (u1.trans m1 u2) (hr v G' A' u.g r),
      fun c d H' G' A' m' u r => (hx c d G' A' r).elim⟩
section
variable {P : Program} {w : World} {K : PySem.W.Frag} {mg : Str → Option Value} {base : Heap}
theorem ff_call {F : Fk} {n m : Nat} {ps : List (Nat × Nat)} {us1 us2 : List F.U} {vf vp v1 v2 vF vP vW : V} {dP dW : PyData} {G : Hp} {O : OL} {R : V → Hp → OL → Prop} (hf : FldOk K F G vf) (hp : PicOk K n m ps G vp) (h1 : Ro F G v1 us1) (h2 : Ro F G v2 us2) (l1 : us1.length = ps.length) (l2 : us2.length = ps.length) (b1 : allBd F 16 us1)
    (hF : FacOk K G vF vP vW) (hdP : Da G [] vP dP) (hdW : Da G [] vW dW) (bP : ∀ Pt, rowD F dP Pt → allBd F 400 Pt) (bW : ∀ Wt, rowD F dW Wt → allBd F 400 Wt) (q : ∀ v G', Ex G G' → FfR F n m ps us1 us2 dP dW v → R v G' O) :
    ∃ R1 RX1, S_factors_fault K F [vf, vp, v1, v2, vF] G [] R1 RX1 ∧ (∀ v G2 A2, Ex G G2 → R1 v G2 A2 → R v G2 (A2 ++ O)) ∧ ∀ c d G2 A2, RX1 c d G2 A2 → False := by
  obtain ⟨d1, hd1, r1⟩ := ro_row h1
  obtain ⟨d2, hd2, r2⟩ := ro_row h2
  refine ⟨_, _, ⟨rfl, n, m, ps, vf, vp, v1, v2, vF, vP, vW, d1, d2, dP, dW, rfl, hf, hp, hd1, hd2, hF, hdP, hdW, fun us h => by rw [row_inj h r1]; exact b1, bP, bW, rfl, rfl⟩, fun v G2 A2 e ⟨hA, us1', us2', a1, a2, _, _, h⟩ => ?_, fun c d G2 A2 ⟨_, i, a, hi, _⟩ => ?_⟩
  · subst hA
    rw [row_inj a1 r1, row_inj a2 r2] at h
    exact q v G2 e h
  · rw [fpl_row r1 l1, fpl_row r2 l2] at hi; cases hi
section
variable {F : Fk} {n m : Nat} {ps : List (Nat × Nat)} {us1 us2 Pt Wt : List F.U} {dP dW : PyData} {v : V}
theorem ff_row (h : FfR F n m ps us1 us2 dP dW v) (h1 : rowD F dP Pt) (l1 : Pt.length = n) (h2 : rowD F dW Wt) (l2 : Wt.length = m) : (scaled ps us1 Pt Wt = us2 ∧ v = .non) ∨ (scaled ps us1 Pt Wt ≠ us2 ∧ v = .str "pair") := by
  rcases h with ⟨s, hs, _⟩ | ⟨_, Pt', Wt', a1, _, a2, _, h⟩
  · rw [whF_row h1 l1 h2 l2] at hs; cases hs
  · rw [row_inj a1 h1, row_inj a2 h2] at h; exact h
theorem ff_points (h : FfR F n m ps us1 us2 dP dW v) (h1 : fpl F dP n ≠ none) : v = .str "points" := by
  have e : whF F n m dP dW = some ("points" : Str) := by unfold whF; rw [if_pos h1]
  rcases h with ⟨s, hs, h⟩ | ⟨hs, _⟩
  · rw [e] at hs; cases hs; exact h
  · rw [e] at hs; cases hs
theorem ff_walls (h : FfR F n m ps us1 us2 dP dW v) (h1 : rowD F dP Pt) (l1 : Pt.length = n) (h2 : fpl F dW m ≠ none) : v = .str "walls" := by
  have e : whF F n m dP dW = some ("walls" : Str) := by unfold whF; rw [fpl_row h1 l1, if_neg (by simp), if_pos h2]
  rcases h with ⟨s, hs, h⟩ | ⟨hs, _⟩
  · rw [e] at hs; cases hs; exact h
  · rw [e] at hs; cases hs
end
theorem w_ff {F : Fk} {EE : L2.St → XK} {t : TA} {σ : L2.St} {G : Hp} {O : OL} {R : V → Hp → OL → Prop} (h : W (t σ) G O fun vs G1 O1 => ∃ (n m : Nat) (ps : List (Nat × Nat)) (us1 us2 : List F.U) (vf vp v1 v2 vF vP vW : V) (dP dW : PyData), vs = [vf, vp, v1, v2, vF] ∧ FldOk K F G1 vf ∧ PicOk K n m ps G1 vp ∧ Ro F G1 v1 us1 ∧ Ro F G1 v2 us2 ∧ us1.length = ps.length ∧ us2.length = ps.length ∧ allBd F 16 us1 ∧ FacOk K G1 vF vP vW ∧ Da G1 [] vP dP ∧ Da G1 [] vW dW ∧ (∀ Pt, rowD F dP Pt → allBd F 400 Pt) ∧ (∀ Wt, rowD F dW Wt → allBd F 400 Wt) ∧ ∀ v G', Ex G1 G' → FfR F n m ps us1 us2 dP dW v → R v G' O1) :
    W (tCallS (FnX (S_factors_fault K F)) EE t σ) G O R :=
  w_callX (w_imp h fun vs G1 O1 _ ⟨n, m, ps, us1, us2, vf, vp, v1, v2, vF, vP, vW, dP, dW, e, a1, a2, a3, a4, a5, a6, a7, a8, a9, a10, a11, a12, q⟩ => by subst e; exact ff_call a1 a2 a3 a4 a5 a6 a7 a8 a9 a10 a11 a12 q)
theorem sc_law_factors_judged : FnScope ["_law_hand_here", "_law_field_here", "_law_prime_here", "_law_picture_here", "_law_made_here", "_law_one_here", "_law_other", "_law_points", "_law_shuts", "_law_more", "_law_less", "_law_wrong", "_law_short", "_law_at", "_law_moved", "_law_right"] ["_law_hand_here", "_law_field_here", "_law_prime_here", "_law_picture_here", "_law_made_here", "_law_one_here", "_law_other", "_law_points", "_law_shuts"] (defScope s_law_factors_judged) := ⟨rfl, rfl, rfl, by decide +kernel, rfl, by decide +kernel, by decide +kernel⟩
def R_law_facj (K : PySem.W.Frag) : Rel := fun ws G post => ∃ (F : Fk) (n m : Nat) (ps : List (Nat × Nat)) (vf v0 vp v1 v2 vP vW : V) (us1 us2 Pt Wt : List F.U), ws = [vf, .int (F.p : Int), v0, vp, v1, v2, vP, vW] ∧ FldOk K F G vf ∧ PicOk K n m ps G vp ∧ Da G [] v0 (dpic n m ps) ∧ Ro F G v1 us1 ∧ Ro F G v2 us2 ∧ us1.length = ps.length ∧ us2.length = ps.length ∧ allBd F 16 us1 ∧ Da G [] vP (.tuple (Pt.map F.dat)) ∧ Da G [] vW (.tuple (Wt.map F.dat)) ∧ Pt.length = n ∧ Wt.length = m ∧ allBd F 320 Pt ∧ allBd F 320 Wt ∧ scaled ps us1 Pt Wt = us2 ∧ post = fun v _ => v = .bl true
theorem cal_law_factors_judged (T : Txt K mg) : C8.Cal P w K mg base 10 "_law_factors_judged" (Fn (SH (R_law_facj K))) [] := by
  refine cal_by T.d_law_factors_judged sc_law_factors_judged (fun vs G O R h => ?_) (fun f cdv A outer s H vs G O R E hr h => ?_)
  · obtain ⟨_, _, _, rfl, _, _, _, ⟨_, _, _, _, _, _, _, _, _, _, _, _, _, _, _, rfl, _⟩, _⟩ := h; rfl
  · obtain ⟨h, o, _, rfl, rfl, ho, post, ⟨F, n, m, ps, vf, v0, vp, v1, v2, vP, vW, us1, us2, Pt, Wt, rfl, hf, hp, hv0, h1, h2, l1, l2, bu, hvP, hvW, hPl, hWl, bP, bW, hsc, rfl⟩, rfl⟩ := h
    refine ⟨_, (pss_cons (ps_if (pt_cmpR op_notNone (pe_cX (calX_factors_fault T F) hr (by omega) rfl takes0 (pa_cons (pv 1) (pa_cons (pv 4) (pa_cons (pv 5) (pa_cons (pv 6) (pa_cons (C8.pe_mk (mak_Factors T) hr (by omega) rfl (pa_cons (pv 7) (pa_cons (pv 8) pa_nil))) pa_nil)))))) pe_non (nomark _))
      (pss_one (ps_ret pe_bl))
      pss_nil)
    (pss_cons (ps_asg (C8.pe_c (cal_law_other_factors T) hr (by omega) rfl (pa_cons (pv 0) (pa_cons (pv 2) (pa_cons (pv 3) (pa_cons (pv 7) (pa_cons (pv 8) pa_nil)))))) (pg_lstK K rfl (n := 2) rfl (pgs_cons (pg_name (i := 9) sc_law_factors_judged.nd rfl (Or.inl rfl)) (pgs_cons (pg_name (i := 10) sc_law_factors_judged.nd rfl (Or.inl rfl)) pgs_nil))))
    (pss_cons (ps_if (pt_cmpR op_notNone (pe_cX (calX_factors_fault T F) hr (by omega) rfl takes0 (pa_cons (pv 1) (pa_cons (pv 4) (pa_cons (C8.pe_c (cal_law_given T) hr (by omega) rfl (pa_cons (pv 0) (pa_cons (pv 5) pa_nil))) (pa_cons (pv 6) (pa_cons (C8.pe_mk (mak_Factors T) hr (by omega) rfl (pa_cons (pv 9) (pa_cons (pe_callTy (tupleK K rfl) rfl T.b_tuple PyProof.Rows.boot_tuple (pa_cons (pv 10) pa_nil)) pa_nil))) pa_nil)))))) pe_non (nomark _))
      (pss_one (ps_ret pe_bl))
      pss_nil)
    (pss_cons (ps_set (i := 11) sc_law_factors_judged.nd rfl (Or.inl rfl) (C8.pe_c (cal_law_wrong_row T) hr (by omega) rfl (pa_cons (pv 0) (pa_cons (pv 2) (pa_cons (pv 7) pa_nil)))))
    (pss_cons (ps_set (i := 12) sc_law_factors_judged.nd rfl (Or.inl rfl) (C8.pe_c (cal_law_wrong_row T) hr (by omega) rfl (pa_cons (pv 0) (pa_cons (pv 2) (pa_cons (pv 8) pa_nil)))))
    (pss_cons (ps_if (pt_cmpR op_ne (pe_cX (calX_factors_fault T F) hr (by omega) rfl takes0 (pa_cons (pv 1) (pa_cons (pv 4) (pa_cons (pv 5) (pa_cons (pv 6) (pa_cons (C8.pe_mk (mak_Factors T) hr (by omega) rfl (pa_cons (pv 11) (pa_cons (pv 12) pa_nil))) pa_nil)))))) pe_str (nomark _))
      (pss_one (ps_ret pe_bl))
      pss_nil)
    (pss_cons (ps_if (pt_cmpR op_ne (pe_cX (calX_factors_fault T F) hr (by omega) rfl takes0 (pa_cons (pv 1) (pa_cons (pv 4) (pa_cons (pv 5) (pa_cons (pv 6) (pa_cons (C8.pe_mk (mak_Factors T) hr (by omega) rfl (pa_cons (pv 9) (pa_cons (pv 12) pa_nil))) pa_nil)))))) pe_str (nomark _))
      (pss_one (ps_ret pe_bl))
      pss_nil)
    (pss_cons (ps_set (i := 13) sc_law_factors_judged.nd rfl (Or.inl rfl) (C8.pe_c (cal_law_draw T) hr (by omega) rfl (pa_cons (pv 0) (pa_cons (pe_ix (ixK K rfl) (pv 3) pe_int (fun _ _ => rfl)) pa_nil))))
    (pss_cons (ps_set (i := 14) sc_law_factors_judged.nd rfl (Or.inl rfl) (pe_callTy (listK K rfl) rfl T.b_list PyProof.Rows.boot_list (pa_cons (pv 7) pa_nil)))
    (pss_cons (ps_asg (C8.pe_c (cal_law_times T) hr (by omega) rfl (pa_cons (pv 2) (pa_cons (pe_ix (ixK K rfl) (pv 14) (pv 13) (fun _ _ => rfl)) (pa_cons (C8.pe_c (cal_law_moving T) hr (by omega) rfl (pa_cons (pv 0) (pa_cons (pv 2) pa_nil))) pa_nil)))) (pg_sub (pv 14) (pv 13) set_list))
    (pss_cons (ps_set (i := 15) sc_law_factors_judged.nd rfl (Or.inl rfl) (pe_cmpR (eqDK K rfl hr.units) (C8.pe_c (cal_law_scaled T) hr (by omega) rfl (pa_cons (pv 2) (pa_cons (pv 3) (pa_cons (pv 5) (pa_cons (pv 14) (pa_cons (pv 8) pa_nil)))))) (pe_callTy (listK K rfl) rfl T.b_list PyProof.Rows.boot_list (pa_cons (pv 6) pa_nil)) (nomark _)))
    (pss_one (ps_ret (pe_cmpR op_eq (pe_cX (calX_factors_fault T F) hr (by omega) rfl takes0 (pa_cons (pv 1) (pa_cons (pv 4) (pa_cons (pv 5) (pa_cons (pv 6) (pa_cons (C8.pe_mk (mak_Factors T) hr (by omega) rfl (pa_cons (pv 14) (pa_cons (pv 8) pa_nil))) pa_nil)))))) (pe_ifExp (pt_val (pv 15)) pe_non pe_str) (nomark _))))))))))))))), ?_⟩
    show WS _ [some (.ref h), some (vf), some (.int (F.p : Int)), some (v0), some (vp), some (v1), some (v2), some (vP), some (vW), none, none, none, none, none, none, none] _ _ _
    have pw := hp.1
    have n1 := pw.n1
    have m1 := pw.m1
    have n5 := pw.n5
    have m5 := pw.m5
    have rP : rowD F (.tuple (Pt.map F.dat)) Pt := rfl
    have rW : rowD F (.tuple (Wt.map F.dat)) Wt := rfl
    have bP4 : ∀ Pt', rowD F (.tuple (Pt.map F.dat)) Pt' → allBd F 400 Pt' := fun Pt' h => by rw [row_inj h rP]; exact bP.mono (by decide)
    have bW4 : ∀ Wt', rowD F (.tuple (Wt.map F.dat)) Wt' → allBd F 400 Wt' := fun Wt' h => by rw [row_inj h rW]; exact bW.mono (by decide)
    -- 1
    refine ws_seq (ws_if (t_test (w_op (w_ff ?_))))
    refine w_cons (w_var rfl (w_cons (w_var rfl (w_cons (w_var rfl (w_cons (w_var rfl (w_cons (w_mkFac (w_cons (w_var rfl (w_cons (w_var rfl (w_nil ⟨_, _, rfl, fun vF G1 e1 hF => w_nil ?_⟩))))))))))))))
    refine ⟨n, m, ps, us1, us2, _, _, _, _, _, _, _, _, _, rfl, fld_up e1 hf, pic_up e1 hp, ro_up e1 h1, ro_up e1 h2, l1, l2, bu, hF, Da.up e1 hvP, Da.up e1 hvW, bP4, bW4, fun v G2 e2 hv => ?_⟩
    rcases ff_row hv rP hPl rW hWl with ⟨_, rfl⟩ | ⟨z, _⟩
    rotate_left
    · exact absurd hsc z
    walk_at "go"
    refine ⟨fun z => by simp at z, fun _ => ws_nx ?_⟩
    have ee := e1.trans e2
    have hf := fld_up ee hf
    have hp := pic_up ee hp
    have hv0 := Da.up ee hv0
    have h1 := ro_up ee h1
    have h2 := ro_up ee h2
    have hvP := Da.up ee hvP
    have hvW := Da.up ee hvW
    have ho := hd_up ee ho
    -- 2
    refine ws_seq (ws_asg ?_)
    walk_at "go"
    refine f_h ho ⟨F, n, m, ps, v0, vP, vW, Pt, Wt, rfl, pw, hv0, .inr hvP, .inr hvW, hPl, hWl, bP, bW, rfl⟩ fun v3 G3 o3 e3 ho3 hk => ?_
    obtain ⟨Pt', Wt', hv3, lP', lW', bP', bW', hsame⟩ := hk
    refine g_lstD hv3 rfl fun xs hxs => ?_
    obtain ⟨w1, w2, rfl, g1, g2⟩ := da2 hxs
    refine g_cons (g_name (g_cons (g_name (g_nil ?_))))
    have hf := fld_up e3 hf
    have hp := pic_up e3 hp
    have hv0 := Da.up e3 hv0
    have h1 := ro_up e3 h1
    have h2 := ro_up e3 h2
    have hvP := Da.up e3 hvP
    have hvW := Da.up e3 hvW
    have rP' : rowD F (.list (Pt'.map F.dat)) Pt' := rfl
    have bP4' : ∀ P2, rowD F (.list (Pt'.map F.dat)) P2 → allBd F 400 P2 := fun P2 h => by rw [row_inj h rP']; exact bP'.mono (by decide)
    have rW' : rowD F (.tuple (Wt'.map F.dat)) Wt' := rfl
    have bW4' : ∀ P2, rowD F (.tuple (Wt'.map F.dat)) P2 → allBd F 400 P2 := fun P2 h => by rw [row_inj h rW']; exact bW'.mono (by decide)
    refine ws_seq (ws_if (t_test (w_op (w_ff ?_))))
    refine w_cons (w_var rfl (w_cons (w_var rfl (w_cons ?_))))
    walk_at "go"
    refine f_h ho3 ⟨_, _, rfl, h1, rfl⟩ fun v4 G4 o4 e4 ho4 hk => ?_
    have h4 : Ro F G4 v4 us1 := hk
    refine w_cons (w_var rfl (w_cons (w_mkFac (w_cons (w_var rfl (w_cons (w_cb (w_cons (w_var rfl (w_nil ?_))))))))))
    refine r_tupleD (.inl (Da.up e4 g2)) fun y5 G5 e5 hy5 => w_nil ⟨_, _, rfl, fun vF G6 e6 hF => w_nil ?_⟩
    have ee := (e4.trans e5).trans e6
    refine ⟨n, m, ps, us1, us2, _, _, _, _, _, _, _, _, _, rfl, fld_up ee hf, pic_up ee hp, ro_up (e5.trans e6) h4, ro_up ee h2, l1, l2, bu, hF, Da.up ee g1, Da.up e6 hy5, bP4', bW4', fun v G7 e7 hv => ?_⟩
    rcases ff_row hv rP' lP' rW' lW' with ⟨_, rfl⟩ | ⟨z, _⟩
    rotate_left
    · exact absurd (by rw [hsame us1 l1]; exact hsc) z
    walk_at "go"
    refine ⟨fun z => by simp at z, fun _ => ws_nx ?_⟩
    have ee := ee.trans e7
    have hf := fld_up ee hf
    have hp := pic_up ee hp
    have hv0 := Da.up ee hv0
    have h1 := ro_up ee h1
    have h2 := ro_up ee h2
    have hvP := Da.up ee hvP
    have hvW := Da.up ee hvW
    have g1 := Da.up ee g1
    have ho7 := hd_up (e5.trans (e6.trans e7)) ho4
    -- 3
    walk_at "go"
    refine f_h ho7 ⟨F, _, Pt, rfl, .inr hvP, by omega, by omega, bP.mono (by decide), rfl⟩ fun v8 G8 o8 e8 ho8 hk => ?_
    obtain ⟨dw, hdw, hbad, hbw⟩ := hk
    walk_at "go"
    refine f_h ho8 ⟨F, _, Wt, rfl, .inr (Da.up e8 hvW), by omega, by omega, bW.mono (by decide), rfl⟩ fun v9 G9 o9 e9 ho9 hk => ?_
    obtain ⟨ds, hds, hbad2, hbs⟩ := hk
    have ee := e8.trans e9
    have hf := fld_up ee hf
    have hp := pic_up ee hp
    have hv0 := Da.up ee hv0
    have h1 := ro_up ee h1
    have h2 := ro_up ee h2
    have hvP := Da.up ee hvP
    have hvW := Da.up ee hvW
    have g1 := Da.up ee g1
    have hdw := Da.up e9 hdw
    rw [hPl] at hbad
    rw [hWl] at hbad2
    refine ws_seq (ws_if (t_test (w_op (w_ff ?_))))
    refine w_cons (w_var rfl (w_cons (w_var rfl (w_cons (w_var rfl (w_cons (w_var rfl (w_cons (w_mkFac (w_cons (w_var rfl (w_cons (w_var rfl (w_nil ⟨_, _, rfl, fun vF G10 e10 hF => w_nil ?_⟩))))))))))))))
    refine ⟨n, m, ps, us1, us2, _, _, _, _, _, _, _, _, _, rfl, fld_up e10 hf, pic_up e10 hp, ro_up e10 h1, ro_up e10 h2, l1, l2, bu, hF, Da.up e10 hdw, Da.up e10 hds, hbw, hbs, fun v G11 e11 hv => ?_⟩
    obtain rfl := ff_points hv hbad
    walk_at "go"
    refine ⟨fun z => by simp at z, fun _ => ws_nx ?_⟩
    have ee := e10.trans e11
    have hf := fld_up ee hf
    have hp := pic_up ee hp
    have hv0 := Da.up ee hv0
    have h1 := ro_up ee h1
    have h2 := ro_up ee h2
    have hvP := Da.up ee hvP
    have hvW := Da.up ee hvW
    have g1 := Da.up ee g1
    have hds := Da.up ee hds
    have ho11 := hd_up ee ho9
    -- 4
    refine ws_seq (ws_if (t_test (w_op (w_ff ?_))))
    refine w_cons (w_var rfl (w_cons (w_var rfl (w_cons (w_var rfl (w_cons (w_var rfl (w_cons (w_mkFac (w_cons (w_var rfl (w_cons (w_var rfl (w_nil ⟨_, _, rfl, fun vF G12 e12 hF => w_nil ?_⟩))))))))))))))
    refine ⟨n, m, ps, us1, us2, _, _, _, _, _, _, _, _, _, rfl, fld_up e12 hf, pic_up e12 hp, ro_up e12 h1, ro_up e12 h2, l1, l2, bu, hF, Da.up e12 g1, Da.up e12 hds, bP4', hbs, fun v G13 e13 hv => ?_⟩
    obtain rfl := ff_walls hv rP' lP' hbad2
    walk_at "go"
    refine ⟨fun z => by simp at z, fun _ => ws_nx ?_⟩
    have ee := e12.trans e13
    have hf := fld_up ee hf
    have hp := pic_up ee hp
    have hv0 := Da.up ee hv0
    have h1 := ro_up ee h1
    have h2 := ro_up ee h2
    have hvP := Da.up ee hvP
    have hvW := Da.up ee hvW
    have ho13 := hd_up ee ho11
    -- 5
    walk_at "go"
    refine r_atD (j := 0) (.inl hv0) rfl rfl fun z0 hz0 => ?_
    rw [da_int hz0]
    walk_at "go"
    refine f_h ho13 ⟨_, rfl, by omega, by omega, rfl⟩ fun v14 G14 o14 e14 ho14 hk => ?_
    obtain ⟨k, rfl, hk0, hk1⟩ := hk
    obtain ⟨kn, rfl⟩ : ∃ kn : Nat, k = kn := ⟨k.toNat, by omega⟩
    walk_at "go"
    refine r_listD (.inr (Da.up e14 hvP)) fun lp xs hxs _ => ?_
    show WS _ _ _ [(h, o14), (lp, .lst xs)] _
    have hxl := daAll_len hxs
    rw [List.length_map] at hxl
    obtain ⟨y, hy, hyd⟩ := daAll_get hxs (ro_get (by omega : kn < Pt.length))
    walk_at "go"
    refine r_own 1 rfl (atI_nat hy) ?_
    walk_at "go"
    refine f_h ho14 ⟨F, rfl, rfl⟩ fun v15 G15 o15 e15 ho15 hk => ?_
    obtain ⟨un, hun, bun⟩ := hk
    walk_at "go"
    refine f_p ⟨F, _, _, _, _, rfl, nu_up e15 hyd, hun, Fk.bd_mono (bP.get _) (by decide), Fk.bd_mono bun (by decide), rfl⟩ fun v16 G16 e16 hv16 => ?_
    refine g_sub 1 ?_
    walk_at "go"
    refine ⟨_, _, _, _, rfl, rfl, rfl, ixN_nat (by omega), ?_⟩
    have hms : DaAll G16 [] (xs.set kn v16) ((Pt.set kn (Pt.getD kn 1 * un)).map F.dat) := by
      rw [List.map_set]
      exact daAll_set (DaAll.up (e15.trans e16) hxs) hv16
    have bM : allBd F 330 (Pt.set kn (Pt.getD kn 1 * un)) := fun u hu => by
      rcases List.mem_or_eq_of_mem_set hu with z | z
      · exact Fk.bd_mono (bP u z) (by decide)
      · rw [z]; exact Fk.bd_mono (Fk.bd_mul (bP.get _) bun) (by decide)
    generalize hPM : Pt.set kn (Pt.getD kn 1 * un) = PM at hms bM
    have lM : PM.length = n := by rw [← hPM, List.length_set, hPl]
    refine ws_frzD 1 rfl hms fun G17 e17 hM => ?_
    show WS _ _ _ [(h, o15)] _
    have ee := ((e14.trans e15).trans e16).trans e17
    have hf := fld_up ee hf
    have hp := pic_up ee hp
    have hv0 := Da.up ee hv0
    have h1 := ro_up ee h1
    have h2 := ro_up ee h2
    have hvP := Da.up ee hvP
    have hvW := Da.up ee hvW
    have ho17 := hd_up (e16.trans e17) ho15
    have rM : rowD F (.list (PM.map F.dat)) PM := rfl
    have bM4 : ∀ P2, rowD F (.list (PM.map F.dat)) P2 → allBd F 400 P2 := fun P2 h => by rw [row_inj h rM]; exact bM.mono (by decide)
    refine ws_seq (ws_set (w_op (w_call0 (w_cons (w_var rfl (w_cons (w_var rfl (w_cons (w_var rfl (w_cons (w_var rfl (w_cons (w_var rfl (w_nil ?_))))))))))))))
    refine f_own ⟨rfl, F, n, m, ps, us1, PM, Wt, _, _, _, _, rfl, pw, hv0, h1, .inl hM, .inr hvW, l1, lM, hWl, bu.mono (by decide), bM.mono (by decide), bW.mono (by decide), rfl⟩ fun v18 G18 A18 e18 ⟨l18, xs18, ev18, eA18, hxs18⟩ => ?_
    subst ev18 eA18
    refine w_frzD 1 rfl hxs18 fun G19 e19 hsl => ?_
    refine w_cb (w_cons (w_var rfl (w_nil (r_listDG (ro_up (e18.trans e19) h2) fun z20 G20 e20 hz20 => ?_))))
    refine r_eqRL (Da.up e20 hsl) hz20 ?_
    show WS _ _ _ [(h, o15)] _
    have ee := (e18.trans e19).trans e20
    have hf := fld_up ee hf
    have hp := pic_up ee hp
    have hv0 := Da.up ee hv0
    have h1 := ro_up ee h1
    have h2 := ro_up ee h2
    have hvP := Da.up ee hvP
    have hvW := Da.up ee hvW
    have hM := Da.up ee hM
    have ho20 := hd_up ee ho17
    refine ws_ret (w_op (w_ff ?_))
    refine w_cons (w_var rfl (w_cons (w_var rfl (w_cons (w_var rfl (w_cons (w_var rfl (w_cons (w_mkFac (w_cons (w_var rfl (w_cons (w_var rfl (w_nil ⟨_, _, rfl, fun vF G21 e21 hF => w_nil ?_⟩))))))))))))))
    refine ⟨n, m, ps, us1, us2, _, _, _, _, _, _, _, _, _, rfl, fld_up e21 hf, pic_up e21 hp, ro_up e21 h1, ro_up e21 h2, l1, l2, bu, hF, Da.up e21 hM, Da.up e21 hvW, bM4, bW4, fun v G22 e22 hv => ?_⟩
    have ho22 := hd_up (e21.trans e22) ho20
    rcases ff_row hv rM lM rW hWl with ⟨hs, rfl⟩ | ⟨hs, rfl⟩
    · rw [decide_eq_true hs]
      walk_at "go"
      exact ⟨_, rfl, ho22, rfl⟩
    · rw [decide_eq_false hs]
      walk_at "go"
      exact ⟨_, rfl, ho22, rfl⟩
end
/-! text U1 -/
section
variable {P : Program} {w : World} {K : PySem.W.Frag} {mg : Str → Option Value} {base : Heap}
theorem uf_call {F : Fk} {n m : Nat} {ps : List (Nat × Nat)} {us1 us2 : List F.U} {vf vp v1 v2 vu x y z : V} {dpl : PyData} {a b : F.U} {G : Hp} {O : OL} {R : V → Hp → OL → Prop} (hf : FldOk K F G vf) (hp : PicOk K n m ps G vp) (h1 : Ro F G v1 us1) (h2 : Ro F G v2 us2) (l1 : us1.length = ps.length) (l2 : us2.length = ps.length) (b1 : allBd F 16 us1) (b2 : allBd F 16 us2)
    (hU : UnlOk K G vu x y z) (hx : Da G [] x dpl) (hy : Nu F G y a) (hz : Nu F G z b) (q : ∀ v G', Ex G G' → UfR F n m ps us1 us2 dpl a b v → R v G' O) :
    ∃ R1 RX1, S_unlike_fault K F [vf, vp, v1, v2, vu] G [] R1 RX1 ∧ (∀ v G2 A2, Ex G G2 → R1 v G2 A2 → R v G2 (A2 ++ O)) ∧ ∀ c d G2 A2, RX1 c d G2 A2 → False := by
  obtain ⟨d1, hd1, r1⟩ := ro_row h1
  obtain ⟨d2, hd2, r2⟩ := ro_row h2
  refine ⟨_, _, ⟨rfl, n, m, ps, vf, vp, v1, v2, vu, x, y, z, d1, d2, dpl, a, b, rfl, hf, hp, hd1, hd2, hU, hx, hy, hz, fun us h => by rw [row_inj h r1]; exact b1, fun us h => by rw [row_inj h r2]; exact b2, rfl, rfl⟩, fun v G2 A2 e ⟨hA, us1', us2', a1, a2, _, _, h⟩ => ?_, fun c d G2 A2 ⟨_, i, a, hi, _⟩ => ?_⟩
  · subst hA
    rw [row_inj a1 r1, row_inj a2 r2] at h
    exact q v G2 e h
  · rw [fpl_row r1 l1, fpl_row r2 l2] at hi; cases hi
theorem w_uf {F : Fk} {EE : L2.St → XK} {t : TA} {σ : L2.St} {G : Hp} {O : OL} {R : V → Hp → OL → Prop} (h : W (t σ) G O fun vs G1 O1 => ∃ (n m : Nat) (ps : List (Nat × Nat)) (us1 us2 : List F.U) (vf vp v1 v2 vu x y z : V) (dpl : PyData) (a b : F.U), vs = [vf, vp, v1, v2, vu] ∧ FldOk K F G1 vf ∧ PicOk K n m ps G1 vp ∧ Ro F G1 v1 us1 ∧ Ro F G1 v2 us2 ∧ us1.length = ps.length ∧ us2.length = ps.length ∧ allBd F 16 us1 ∧ allBd F 16 us2 ∧ UnlOk K G1 vu x y z ∧ Da G1 [] x dpl ∧ Nu F G1 y a ∧ Nu F G1 z b ∧ ∀ v G', Ex G1 G' → UfR F n m ps us1 us2 dpl a b v → R v G' O1) :
    W (tCallS (FnX (S_unlike_fault K F)) EE t σ) G O R :=
  w_callX (w_imp h fun vs G1 O1 _ ⟨n, m, ps, us1, us2, vf, vp, v1, v2, vu, x, y, z, dpl, a, b, e, a1, a2, a3, a4, a5, a6, a7, a8, a9, a10, a11, a12, q⟩ => by subst e; exact uf_call a1 a2 a3 a4 a5 a6 a7 a8 a9 a10 a11 a12 q)
section
variable {F : Fk} {n m : Nat} {ps : List (Nat × Nat)} {us1 us2 : List F.U} {k : Nat} {a b : F.U} {v : V} {d : PyData}
theorem uf_right (h : UfR F n m ps us1 us2 (.int (k : Int)) a b v) (hk : k < (oth n m ps).length) (ha : a = (worths n m ps us1).getD k 1) (hb : b = (worths n m ps us2).getD k 1) : v = if a = b then .str "alike" else .non := by
  rcases h with ⟨h, _⟩ | ⟨i, hi, e, h⟩
  · exact absurd rfl (h k hk)
  · injection e with e
    obtain rfl : k = i := by omega
    rcases h with ⟨h, _⟩ | ⟨_, _, h⟩
    · exact absurd ⟨ha, hb⟩ h
    · exact h
theorem uf_wrong (h : UfR F n m ps us1 us2 (.int (k : Int)) a b v) (hk : k < (oth n m ps).length) (hn : ¬ (a = (worths n m ps us1).getD k 1 ∧ b = (worths n m ps us2).getD k 1)) : v = .str "worths" := by
  rcases h with ⟨h, _⟩ | ⟨i, hi, e, h⟩
  · exact absurd rfl (h k hk)
  · injection e with e
    obtain rfl : k = i := by omega
    rcases h with ⟨_, h⟩ | ⟨h1, h2, _⟩
    · exact h
    · exact absurd ⟨h1, h2⟩ hn
theorem uf_place (h : UfR F n m ps us1 us2 d a b v) (hd : ∀ i : Nat, i < (oth n m ps).length → d ≠ .int i) : v = .str "place" := by
  rcases h with ⟨_, h⟩ | ⟨i, hi, e, _⟩
  · exact h
  · exact absurd e (hd i hi)
end
theorem sc_law_unlike_judged : FnScope ["_law_hand_here", "_law_field_here", "_law_prime_here", "_law_made_here", "_law_one_here", "_law_other", "_law_ours", "_law_theirs", "_law_places", "_law_place", "_law_due", "_law_moved", "_law_odd_here", "_law_k"] ["_law_hand_here", "_law_field_here", "_law_prime_here", "_law_made_here", "_law_one_here", "_law_other", "_law_ours", "_law_theirs"] (defScope s_law_unlike_judged) := ⟨rfl, rfl, rfl, by decide +kernel, rfl, by decide +kernel, by decide +kernel⟩
def R_law_unlj (K : PySem.W.Frag) : Rel := fun ws G post => ∃ (F : Fk) (n m : Nat) (ps : List (Nat × Nat)) (vf vp v1 v2 vo vh : V) (us1 us2 : List F.U), ws = [vf, .int (F.p : Int), vp, v1, v2, vo, vh] ∧ FldOk K F G vf ∧ PicOk K n m ps G vp ∧ Ro F G v1 us1 ∧ Ro F G v2 us2 ∧ us1.length = ps.length ∧ us2.length = ps.length ∧ allBd F 16 us1 ∧ allBd F 16 us2 ∧ Da G [] vo (.list ((worths n m ps us1).map F.dat)) ∧ Da G [] vh (.list ((worths n m ps us2).map F.dat)) ∧ post = fun v _ => v = .bl true
theorem cal_law_unlike_judged (T : Txt K mg) : C8.Cal P w K mg base 10 "_law_unlike_judged" (Fn (SH (R_law_unlj K))) [] := by
  refine cal_by T.d_law_unlike_judged sc_law_unlike_judged (fun vs G O R h => ?_) (fun f cdv A outer s H vs G O R E hr h => ?_)
  · obtain ⟨_, _, _, rfl, _, _, _, ⟨_, _, _, _, _, _, _, _, _, _, _, _, rfl, _⟩, _⟩ := h; rfl
  · obtain ⟨h, o, _, rfl, rfl, ho, post, ⟨F, n, m, ps, vf, vp, v1, v2, vo, vh, us1, us2, rfl, hf, hp, h1, h2, l1, l2, b1, b2, hvo, hvh, rfl⟩, rfl⟩ := h
    refine ⟨_, (pss_cons (ps_set (i := 8) sc_law_unlike_judged.nd rfl (Or.inl rfl) (pe_slice (slLK K rfl) (pe_lc (own := [("_law_k", 13)]) rfl sc_law_unlike_judged.nd (pi_range1 rfl T.b_range (pa_cons (pe_callB (lenK K rfl) rfl T.b_len PySem.boot_len (pa_cons (pv 6) pa_nil)) pa_nil)) (blkOk_by (N := ["_law_hand_here", "_law_field_here", "_law_prime_here", "_law_made_here", "_law_one_here", "_law_other", "_law_ours", "_law_theirs", "_law_places", "_law_place", "_law_due", "_law_moved", "_law_odd_here", "_law_k"]) (sc := defScope s_law_unlike_judged) (by decide +kernel)) (fun _ _ _ _ _ => (pg_name (i := 13) sc_law_unlike_judged.nd rfl (Or.inl rfl))) (fun _ _ _ _ _ => (pts_one (pt_cmpR (neDK K rfl hr.units) (pe_ix (ixK K rfl) (pv 6) (pv 13) (fun _ _ => rfl)) (pe_ix (ixK K rfl) (pv 7) (pv 13) (fun _ _ => rfl)) (nomark _)))) (fun _ _ _ _ _ => (pv 13))) po_none (po_some pe_int)))
    (pss_cons (ps_if (pt_cmpR op_gt (pe_callB (lenK K rfl) rfl T.b_len PySem.boot_len (pa_cons (pv 6) pa_nil)) pe_int (nomark _))
      (pss_one (ps_expr (pe_bm PySem.F.plainAttrs_list PySem.F.slot_list_append PySem.F.type_list_append mt_append (pv 8) (pa_cons (C8.pe_c (cal_law_draw T) hr (by omega) rfl (pa_cons (pv 0) (pa_cons (pe_callB (lenK K rfl) rfl T.b_len PySem.boot_len (pa_cons (pv 6) pa_nil)) pa_nil))) pa_nil))))
      pss_nil)
    (pss_cons (ps_for PassesOwn.never rfl (pi_listK K rfl (pv 8)) (pg_name (i := 9) sc_law_unlike_judged.nd rfl (Or.inl rfl))
      (pss_cons (ps_set (i := 10) sc_law_unlike_judged.nd rfl (Or.inl rfl) (pe_ifExp (pt_cmpR (eqDK K rfl hr.units) (pe_ix (ixK K rfl) (pv 6) (pv 9) (fun _ _ => rfl)) (pe_ix (ixK K rfl) (pv 7) (pv 9) (fun _ _ => rfl)) (nomark _)) pe_str pe_non))
      (pss_cons (ps_if (pt_cmpR op_ne (pe_cX (calX_unlike_fault T F) hr (by omega) rfl takes0 (pa_cons (pv 1) (pa_cons (pv 3) (pa_cons (pv 4) (pa_cons (pv 5) (pa_cons (C8.pe_mk (mak_Unlike T) hr (by omega) rfl (pa_cons (pv 9) (pa_cons (pe_ix (ixK K rfl) (pv 6) (pv 9) (fun _ _ => rfl)) (pa_cons (pe_ix (ixK K rfl) (pv 7) (pv 9) (fun _ _ => rfl)) pa_nil)))) pa_nil)))))) (pv 10) (nomark _))
        (pss_one (ps_ret pe_bl))
        pss_nil)
      (pss_cons (ps_set (i := 11) sc_law_unlike_judged.nd rfl (Or.inl rfl) (C8.pe_c (cal_law_times T) hr (by omega) rfl (pa_cons (pv 2) (pa_cons (pe_ix (ixK K rfl) (pv 6) (pv 9) (fun _ _ => rfl)) (pa_cons (C8.pe_c (cal_law_moving T) hr (by omega) rfl (pa_cons (pv 0) (pa_cons (pv 2) pa_nil))) pa_nil)))))
      (pss_cons (ps_if (PW.pt (pw_and (pt_cmpR (neDK K rfl hr.units) (pv 11) (pe_ix (ixK K rfl) (pv 6) (pv 9) (fun _ _ => rfl)) (nomark _)) (pw_and1 (pt_cmpR op_ne (pe_cX (calX_unlike_fault T F) hr (by omega) rfl takes0 (pa_cons (pv 1) (pa_cons (pv 3) (pa_cons (pv 4) (pa_cons (pv 5) (pa_cons (C8.pe_mk (mak_Unlike T) hr (by omega) rfl (pa_cons (pv 9) (pa_cons (pv 11) (pa_cons (pe_ix (ixK K rfl) (pv 7) (pv 9) (fun _ _ => rfl)) pa_nil)))) pa_nil)))))) pe_str (nomark _)))))
        (pss_one (ps_ret pe_bl))
        pss_nil)
      (pss_cons (ps_set (i := 11) sc_law_unlike_judged.nd rfl (Or.inl rfl) (C8.pe_c (cal_law_times T) hr (by omega) rfl (pa_cons (pv 2) (pa_cons (pe_ix (ixK K rfl) (pv 7) (pv 9) (fun _ _ => rfl)) (pa_cons (C8.pe_c (cal_law_moving T) hr (by omega) rfl (pa_cons (pv 0) (pa_cons (pv 2) pa_nil))) pa_nil)))))
      (pss_one (ps_if (PW.pt (pw_and (pt_cmpR (neDK K rfl hr.units) (pv 11) (pe_ix (ixK K rfl) (pv 7) (pv 9) (fun _ _ => rfl)) (nomark _)) (pw_and1 (pt_cmpR op_ne (pe_cX (calX_unlike_fault T F) hr (by omega) rfl takes0 (pa_cons (pv 1) (pa_cons (pv 3) (pa_cons (pv 4) (pa_cons (pv 5) (pa_cons (C8.pe_mk (mak_Unlike T) hr (by omega) rfl (pa_cons (pv 9) (pa_cons (pe_ix (ixK K rfl) (pv 6) (pv 9) (fun _ _ => rfl)) (pa_cons (pv 11) pa_nil)))) pa_nil)))))) pe_str (nomark _)))))
        (pss_one (ps_ret pe_bl))
        pss_nil))))))))
    (pss_cons (ps_set (i := 12) sc_law_unlike_judged.nd rfl (Or.inl rfl) (pe_ix (ixK K rfl) (pe_tup (pa_cons (pe_op op_sub pe_int pe_int) (pa_cons (pe_callB (lenK K rfl) rfl T.b_len PySem.boot_len (pa_cons (pv 6) pa_nil)) (pa_cons pe_non (pa_cons pe_bl (pa_cons (pe_op op_add (pe_callB (lenK K rfl) rfl T.b_len PySem.boot_len (pa_cons (pv 6) pa_nil)) (pe_op op_pow pe_int pe_int)) (pa_cons (pe_tup (pa_cons pe_int pa_nil)) pa_nil))))))) (C8.pe_c (cal_law_draw T) hr (by omega) rfl (pa_cons (pv 0) (pa_cons pe_int pa_nil))) (fun _ _ => rfl)))
    (pss_one (ps_ret (pe_cmpR op_eq (pe_cX (calX_unlike_fault T F) hr (by omega) rfl takes0 (pa_cons (pv 1) (pa_cons (pv 3) (pa_cons (pv 4) (pa_cons (pv 5) (pa_cons (C8.pe_mk (mak_Unlike T) hr (by omega) rfl (pa_cons (pv 12) (pa_cons (C8.pe_c (cal_law_one T) hr (by omega) rfl (pa_cons (pv 2) pa_nil)) (pa_cons (C8.pe_c (cal_law_minus T) hr (by omega) rfl (pa_cons (pv 2) pa_nil)) pa_nil)))) pa_nil)))))) pe_str (nomark _)))))))), ?_⟩
    show WS _ [some (.ref h), some (vf), some (.int (F.p : Int)), some (vp), some (v1), some (v2), some (vo), some (vh), none, none, none, none, none, none] _ _ _
    have pw := hp.1
    have l25 := pw.len
    have ol := oth_len (n := n) (m := m) (ps := ps)
    have wl : ∀ x : List F.U, (worths n m ps x).length = (oth n m ps).length := fun x => by simp [worths]
    generalize hL : (oth n m ps).length = L at ol wl
    refine ws_seq (ws_set (w_slc (w_lcR ?_)))
    walk_at "go"
    refine r_lenD (.inl hvo) ?_
    rw [List.length_map, wl]
    walk_at "go"
    refine ⟨L, rfl, by omega, fun k => !decide ((worths n m ps us1).getD k 1 = (worths n m ps us2).getD k 1), fun k => .int (k : Int), fun k G2 hk e2 => ⟨rfl, ?_⟩, fun p G2 e2 hq => ?_⟩
    · refine t_test ?_
      walk_at "go"
      refine r_atD (j := k) (.inl (Da.up e2 hvo)) (ro_get (by rw [wl]; exact hk)) rfl fun x hx => ?_
      walk_at "go"
      refine r_atD (j := k) (.inl (Da.up e2 hvh)) (ro_get (by rw [wl]; exact hk)) rfl fun y hy => ?_
      refine r_neN hx hy ?_
      refine ⟨_, rfl, rfl, rfl, fun _ => ?_⟩
      walk_at "go"
      exact ⟨rfl, .int _⟩
    refine w_noPart (w_part (w_c ⟨1, rfl, ?_⟩))
    obtain ⟨pa', xs, epa, hpa, hxs⟩ := da_lst hq
    cases epa
    refine r_slL (.inl hpa) fun lp _ => ?_
    have hpl : (cutV xs none (some 1)).length ≤ 1 := by
      unfold cutV
      rw [List.length_take]
      have : HT.sIx xs.length xs.length (some 1) = min 1 xs.length := HT.sIx_nat _ _ 1
      rw [this]; omega
    have hpm : ∀ x ∈ cutV xs none (some 1), ∃ k : Nat, k < L ∧ x = .int (k : Int) := fun x hx => by
      have hx : x ∈ xs := List.mem_of_mem_drop (List.mem_of_mem_take hx)
      obtain ⟨j, hj, ej⟩ := List.getElem_of_mem hx
      obtain ⟨d, h3, h4⟩ := daAll_of hxs (i := j) (x := x) (by rw [List.getElem?_eq_getElem hj, ej])
      obtain ⟨k, hk, ek⟩ := List.mem_map.mp (List.mem_of_getElem? h3)
      subst ek
      exact ⟨k, List.mem_range.mp (List.mem_filter.mp hk).1, da_int h4⟩
    generalize cutV xs none (some 1) = qs at hpl hpm
    show WS _ _ _ [(h, o), (lp, .lst qs)] _
    have hf := fld_up e2 hf
    have hp := pic_up e2 hp
    have h1 := ro_up e2 h1
    have h2 := ro_up e2 h2
    have hvo := Da.up e2 hvo
    have hvh := Da.up e2 hvh
    have ho := hd_up e2 ho
    refine ws_seqI (fun σ G' O' => ∃ (o' : HO) (qs : List V), σ = [some (.ref h), some vf, some (.int (F.p : Int)), some vp, some v1, some v2, some vo, some vh, some (.ref lp), none, none, none, none, none] ∧ O' = [(h, o'), (lp, .lst qs)] ∧ HdOk G' o' ∧ qs.length ≤ 2 ∧ ∀ x ∈ qs, ∃ k : Nat, k < L ∧ x = .int (k : Int)) ?_ ?_
    · walk_at "go"
      refine r_lenD (.inl hvo) ?_
      rw [List.length_map, wl]
      walk_at "go"
      walk_at "if"
      · intro hl0
        walk_at "go"
        refine w_append ?_
        walk_at "go"
        refine ⟨1, lp, qs, rfl, rfl, ?_⟩
        walk_at "go"
        refine r_lenD (.inl hvo) ?_
        rw [List.length_map, wl]
        walk_at "go"
        refine f_h ho ⟨_, rfl, by omega, by omega, rfl⟩ fun v3 G3 o3 e3 ho3 hk => ?_
        obtain ⟨k, rfl, hk0, hk1⟩ := hk
        refine ⟨rfl, by omega, ?_⟩
        refine ⟨_, qs ++ [.int k], rfl, rfl, ho3, by rw [List.length_append]; simp; omega, fun x hx => ?_⟩
        rcases List.mem_append.mp hx with hx | hx
        · exact hpm x hx
        · simp only [List.mem_singleton] at hx
          exact ⟨k.toNat, by omega, by rw [hx]; congr 1; omega⟩
      · intro _
        walk_at "go"
        exact ⟨_, qs, rfl, rfl, ho, by omega, hpm⟩
    rintro σ' G3 O3 e3 ⟨o3, qs3, rfl, rfl, ho3, hq2, hqm⟩
    refine ws_freeze 1 rfl fun G4 e4 hlp => ?_
    show WS _ _ _ [(h, o3)] _
    have ee := e3.trans e4
    have hf := fld_up ee hf
    have hp := pic_up ee hp
    have h1 := ro_up ee h1
    have h2 := ro_up ee h2
    have hvo := Da.up ee hvo
    have hvh := Da.up ee hvh
    have ho4 := hd_up e4 ho3
    have bw : ∀ (us : List F.U) (k : Nat), us.length = ps.length → allBd F 16 us → k < L → F.bd 800 ((worths n m ps us).getD k 1) := fun us k hl hb hk => by
      rw [worths_get (by rw [hL]; exact hk)]
      refine Fk.bd_mono (bd_worth (N := us.length) hb (btour_small pw (by rw [hL]; exact hk))) ?_
      rw [hl]; omega
    refine ws_seq ?_
    refine ws_for (i_list (w_var rfl ⟨lp, qs3, rfl, .inl hlp, _, _, wk_list hlp, fun i σ G' O' => ∃ (u9 u10 u11 : Option V) (o' : HO), σ = [some (.ref h), some vf, some (.int (F.p : Int)), some vp, some v1, some v2, some vo, some vh, some (.ref lp), u9, u10, u11, none, none] ∧ O' = [(h, o')] ∧ HdOk G' o', ⟨_, _, _, _, rfl, rfl, ho4⟩, ?_, ?_⟩))
    · rintro i x σ' G5 O' hi e5 ⟨u9, u10, u11, o5, rfl, rfl, ho5⟩ G6 e6 hx
      obtain ⟨k, hk, rfl⟩ := hqm x (List.mem_of_getElem? hx)
      have ee := e5.trans e6
      have hf := fld_up ee hf
      have hp := pic_up ee hp
      have h1 := ro_up ee h1
      have h2 := ro_up ee h2
      have hvo := Da.up ee hvo
      have hvh := Da.up ee hvh
      have ho6 := hd_up e6 ho5
      have g1 : ((worths n m ps us1).map F.dat)[k]? = some (F.dat ((worths n m ps us1).getD k 1)) := ro_get (by rw [wl]; exact hk)
      have g2 : ((worths n m ps us2).map F.dat)[k]? = some (F.dat ((worths n m ps us2).getD k 1)) := ro_get (by rw [wl]; exact hk)
      have bA := bw us1 k l1 b1 hk
      have bB := bw us2 k l2 b2 hk
      generalize hA : (worths n m ps us1).getD k 1 = A at g1 bA
      generalize hB : (worths n m ps us2).getD k 1 = B at g2 bB
      have hkL : k < (oth n m ps).length := by rw [hL]; exact hk
      refine g_name ?_
      refine ws_seqI (fun σ G' O' => σ = [some (.ref h), some vf, some (.int (F.p : Int)), some vp, some v1, some v2, some vo, some vh, some (.ref lp), some (.int (k : Int)), some (if A = B then .str "alike" else .non), u11, none, none] ∧ O' = [(h, o5)]) ?_ ?_
      · walk_at "go"
        refine r_atD (j := k) (.inl hvo) g1 rfl fun y1 hy1 => ?_
        walk_at "go"
        refine r_atD (j := k) (.inl hvh) g2 rfl fun y2 hy2 => ?_
        refine r_eqN hy1 hy2 ?_
        refine ⟨_, rfl, fun hc => ?_, fun hc => ?_⟩
        · walk_at "go"
          rw [if_pos (of_decide_eq_true hc)]
          exact ⟨rfl, rfl⟩
        · walk_at "go"
          rw [if_neg (of_decide_eq_false hc)]
          exact ⟨rfl, rfl⟩
      rintro σ' G7 O7 e7 ⟨rfl, rfl⟩
      have ee := e7
      have hf := fld_up ee hf
      have hp := pic_up ee hp
      have h1 := ro_up ee h1
      have h2 := ro_up ee h2
      have hvo := Da.up ee hvo
      have hvh := Da.up ee hvh
      have ho7 := hd_up e7 ho6
      refine ws_seq (ws_if (t_test (w_op (w_uf ?_))))
      refine w_cons (w_var rfl (w_cons (w_var rfl (w_cons (w_var rfl (w_cons (w_var rfl (w_cons (w_mkUnl (w_cons (w_var rfl (w_cons (w_op (w_var rfl (w_var rfl ?_)))))))))))))))
      refine r_atD (j := k) (.inl hvo) g1 rfl fun y1 hy1 => ?_
      refine w_cons (w_op (w_var rfl (w_var rfl ?_)))
      refine r_atD (j := k) (.inl hvh) g2 rfl fun y2 hy2 => ?_
      refine w_nil ⟨_, y1, y2, rfl, fun vu G8 e8 hU => w_nil ?_⟩
      refine ⟨n, m, ps, us1, us2, _, _, _, _, _, _, y1, y2, .int (k : Int), A, B, rfl, fld_up e8 hf, pic_up e8 hp, ro_up e8 h1, ro_up e8 h2, l1, l2, b1, b2, hU, .int _, nu_up e8 hy1, nu_up e8 hy2, fun v9 G9 e9 hv9 => ?_⟩
      obtain rfl := uf_right hv9 hkL hA.symm hB.symm
      refine w_var rfl ?_
      refine r_ne (by split <;> rfl) ?_
      rw [decide_eq_true rfl]
      refine ⟨_, rfl, fun z => (by cases z), fun _ => ws_nx ?_⟩
      have ee := e8.trans e9
      have hf := fld_up ee hf
      have hp := pic_up ee hp
      have h1 := ro_up ee h1
      have h2 := ro_up ee h2
      have hvo := Da.up ee hvo
      have hvh := Da.up ee hvh
      have ho9 := hd_up ee ho7
      walk_at "go"
      refine r_atD (j := k) (.inl hvo) g1 rfl fun y3 hy3 => ?_
      walk_at "go"
      refine f_h ho9 ⟨F, rfl, rfl⟩ fun v10 G10 o10 e10 ho10 hk => ?_
      obtain ⟨un, hun, bun⟩ := hk
      walk_at "go"
      refine f_p ⟨F, _, _, _, _, rfl, nu_up e10 hy3, hun, Fk.bd_mono bA (by decide), Fk.bd_mono bun (by decide), rfl⟩ fun vm G11 e11 hvm => ?_
      have ee := e10.trans e11
      have hf := fld_up ee hf
      have hp := pic_up ee hp
      have h1 := ro_up ee h1
      have h2 := ro_up ee h2
      have hvo := Da.up ee hvo
      have hvh := Da.up ee hvh
      have ho10 := hd_up e11 ho10
      have done : ∀ (Gz : Hp), Ex G11 Gz → HdOk Gz o10 := fun Gz ez => hd_up ez ho10
      refine ws_seqI (fun σ G2 O2 => Ex G11 G2 ∧ σ = [some (.ref h), some vf, some (.int (F.p : Int)), some vp, some v1, some v2, some vo, some vh, some (.ref lp), some (.int (k : Int)), some (if A = B then .str "alike" else .non), some vm, none, none] ∧ O2 = [(h, o10)]) (ws_if (t_and (t_test (w_op (w_var rfl (w_op (w_var rfl (w_var rfl ?_)))))))) ?_
      · refine r_atD (j := k) (.inl hvo) g1 rfl fun y5 hy5 => ?_
        refine r_neN hvm hy5 ?_
        refine ⟨_, rfl, fun hc => ?_, fun hc => ?_⟩
        · have hne : A * un ≠ A := by simpa using hc
          refine t_test (w_op (w_uf ?_))
          refine w_cons (w_var rfl (w_cons (w_var rfl (w_cons (w_var rfl (w_cons (w_var rfl (w_cons (w_mkUnl (w_cons (w_var rfl (w_cons (w_var rfl (w_cons (w_op (w_var rfl (w_var rfl ?_)))))))))))))))))
          refine r_atD (j := k) (.inl hvh) g2 rfl fun y4 hy4 => ?_
          refine w_nil ⟨_, _, y4, rfl, fun vu Gx ex hU => w_nil ?_⟩
          refine ⟨n, m, ps, us1, us2, _, _, _, _, _, _, _, y4, .int (k : Int), A * un, B, rfl, fld_up ex hf, pic_up ex hp, ro_up ex h1, ro_up ex h2, l1, l2, b1, b2, hU, .int _, nu_up ex hvm, nu_up ex hy4, fun v9 Gy ey hv9 => ?_⟩
          obtain rfl := uf_wrong hv9 hkL fun z => hne (z.1.trans hA)
          refine w_c ?_
          refine r_ne rfl ?_
          refine ⟨_, rfl, fun z => (by simp at z), fun _ => ws_nx ?_⟩
          exact ⟨ex.trans ey, rfl, rfl⟩
        · refine ⟨fun z => (by cases z), fun _ => ws_nx ?_⟩
          exact ⟨.refl _, rfl, rfl⟩
      rintro σ' GA OA eA ⟨exA, rfl, rfl⟩
      have hoB := done _ exA
      have ee := eA
      have hf := fld_up ee hf
      have hp := pic_up ee hp
      have h1 := ro_up ee h1
      have h2 := ro_up ee h2
      have hvo := Da.up ee hvo
      have hvh := Da.up ee hvh
      walk_at "go"
      refine r_atD (j := k) (.inl hvh) g2 rfl fun y3 hy3 => ?_
      walk_at "go"
      refine f_h hoB ⟨F, rfl, rfl⟩ fun v20 G20 o20 e20 ho20 hk => ?_
      obtain ⟨un, hun, bun⟩ := hk
      walk_at "go"
      refine f_p ⟨F, _, _, _, _, rfl, nu_up e20 hy3, hun, Fk.bd_mono bB (by decide), Fk.bd_mono bun (by decide), rfl⟩ fun vm G21 e21 hvm => ?_
      have ee := e20.trans e21
      have hf := fld_up ee hf
      have hp := pic_up ee hp
      have h1 := ro_up ee h1
      have h2 := ro_up ee h2
      have hvo := Da.up ee hvo
      have hvh := Da.up ee hvh
      have ho20 := hd_up e21 ho20
      have done : ∀ (Gz : Hp), Ex G21 Gz → HdOk Gz o20 := fun Gz ez => hd_up ez ho20
      refine ws_if (t_and (t_test (w_op (w_var rfl (w_op (w_var rfl (w_var rfl ?_)))))))
      refine r_atD (j := k) (.inl hvh) g2 rfl fun y5 hy5 => ?_
      refine r_neN hvm hy5 ?_
      refine ⟨_, rfl, fun hc => ?_, fun hc => ?_⟩
      · have hne : B * un ≠ B := by simpa using hc
        refine t_test (w_op (w_uf ?_))
        refine w_cons (w_var rfl (w_cons (w_var rfl (w_cons (w_var rfl (w_cons (w_var rfl (w_cons (w_mkUnl (w_cons (w_var rfl (w_cons (w_op (w_var rfl (w_var rfl ?_)))))))))))))))
        refine r_atD (j := k) (.inl hvo) g1 rfl fun y4 hy4 => ?_
        refine w_cons (w_var rfl (w_nil ⟨_, y4, _, rfl, fun vu Gx ex hU => w_nil ?_⟩))
        refine ⟨n, m, ps, us1, us2, _, _, _, _, _, _, y4, _, .int (k : Int), A, B * un, rfl, fld_up ex hf, pic_up ex hp, ro_up ex h1, ro_up ex h2, l1, l2, b1, b2, hU, .int _, nu_up ex hy4, nu_up ex hvm, fun v9 Gy ey hv9 => ?_⟩
        obtain rfl := uf_wrong hv9 hkL fun z => hne (z.2.trans hB)
        refine w_c ?_
        refine r_ne rfl ?_
        refine ⟨_, rfl, fun z => (by simp at z), fun _ => ws_nx ?_⟩
        exact ⟨_, _, _, _, rfl, rfl, done _ (ex.trans ey)⟩
      · refine ⟨fun z => (by cases z), fun _ => ws_nx ?_⟩
        exact ⟨_, _, _, _, rfl, rfl, done _ (.refl _)⟩
    rintro σ' G5 O5 e5 ⟨u9, u10, u11, o5, rfl, rfl, ho5⟩
    have ee := e5
    have hf := fld_up ee hf
    have hp := pic_up ee hp
    have h1 := ro_up ee h1
    have h2 := ro_up ee h2
    have hvo := Da.up ee hvo
    refine ws_seq (ws_set (w_op ?_))
    walk_at "go"
    refine r_lenD (.inl hvo) ?_
    rw [List.length_map, wl]
    walk_at "go"
    refine r_lenD (.inl hvo) ?_
    rw [List.length_map, wl]
    walk_at "go"
    refine ⟨_, by simp, .cons (.int _) .nil, fun x6 G6 e6 hx6 => ?_⟩
    walk_at "go"
    refine ⟨[.int (0 - 1), .int (L : Int), .none, .bool true, .int ((L : Int) + 10 ^ 20), .tuple [.int 0]], by simp, .cons (.int _) (.cons (.int _) (.cons .non (.cons (.bl _) (.cons (.int _) (.cons hx6 .nil))))), fun vt G7 e7 hvt => ?_⟩
    walk_at "go"
    refine f_h (hd_up (e6.trans e7) ho5) ⟨_, rfl, by decide, by decide, rfl⟩ fun v8 G8 o8 e8 ho8 hk => ?_
    obtain ⟨k, rfl, hk0, hk1⟩ := hk
    have key : ∀ j : Nat, j < 6 → ∃ d, ([.int (0 - 1), .int (L : Int), .none, .bool true, .int ((L : Int) + 10 ^ 20), .tuple [.int 0]] : List PyData)[j]? = some d ∧ ∀ i : Nat, i < L → d ≠ .int i := fun j hj => by
      match j, hj with
      | 0, _ => exact ⟨_, rfl, fun i hi e => by injection e; omega⟩
      | 1, _ => exact ⟨_, rfl, fun i hi e => by injection e; omega⟩
      | 2, _ => exact ⟨_, rfl, fun i hi e => by cases e⟩
      | 3, _ => exact ⟨_, rfl, fun i hi e => by cases e⟩
      | 4, _ => exact ⟨_, rfl, fun i hi e => by injection e; omega⟩
      | 5, _ => exact ⟨_, rfl, fun i hi e => by cases e⟩
    obtain ⟨d, hd1, hd2⟩ := key k.toNat (by omega)
    refine r_atD (j := k.toNat) (.inr (Da.up e8 hvt)) hd1 (by omega) fun z hz => ?_
    have ee := (e6.trans e7).trans e8
    have hf := fld_up ee hf
    have hp := pic_up ee hp
    have h1 := ro_up ee h1
    have h2 := ro_up ee h2
    refine ws_ret (w_op (w_uf ?_))
    refine w_cons (w_var rfl (w_cons (w_var rfl (w_cons (w_var rfl (w_cons (w_var rfl (w_cons (w_mkUnl (w_cons (w_var rfl (w_cons (w_call0 (w_cons (w_var rfl (w_nil ?_))))))))))))))))
    refine f_p ⟨F, rfl, rfl⟩ fun v9 G9 e9 hv9 => ?_
    refine w_cons (w_call0 (w_cons (w_var rfl (w_nil ?_))))
    refine f_p ⟨F, rfl, rfl⟩ fun v10 G10 e10 hv10 => ?_
    refine w_nil ⟨_, _, _, rfl, fun vu G11 e11 hU => w_nil ?_⟩
    have ee := (e9.trans e10).trans e11
    refine ⟨n, m, ps, us1, us2, _, _, _, _, _, _, _, _, d, 1, F.minus, rfl, fld_up ee hf, pic_up ee hp, ro_up ee h1, ro_up ee h2, l1, l2, b1, b2, hU, Da.up ee hz, nu_up (e10.trans e11) hv9, nu_up e11 hv10, fun v12 G12 e12 hv12 => ?_⟩
    obtain rfl := uf_place hv12 fun i hi => hd2 i (by rw [← hL]; exact hi)
    walk_at "go"
    exact ⟨_, rfl, hd_up (ee.trans e12) ho8, rfl⟩
end
/-! text U2 -/
def tabD (i : Int) : PyData := .list [.str "table", .int i]
theorem eqv_tab (i : Int) : PyData.eqv (tabD i) (tabD i) = true := by
  simp [tabD, PyData.eqv, PyData.eqvAll]
theorem shp_tab (i : Int) : SeqAt.shaped (tabD i) = true := shp ⟨by simp [tabD, PyData.canLay0, PyData.canLayAll0]; decide +kernel, by simp [tabD, PyData.depth, PyData.depthAll]⟩
section
variable {P : Program} {w : World} {K : PySem.W.Frag} {mg : Str → Option Value} {base : Heap}
theorem w_tabL {σ : L2.St} {k : Nat} {i : Int} {G : Hp} {O : OL} {R : V → Hp → OL → Prop} (h : σ[k]? = some (some (.int i))) (q : ∀ x G', Ex G G' → Da G' [] x (tabD i) → R x G' O) : W (tLst (tCons (tC (.str "table")) (tCons (tVar k) tNil)) σ) G O R :=
  w_lstD (w_cons (w_c (w_cons (w_var h (w_nil ⟨[.str "table", .int i], by simp, .cons (.str _) (.cons (.int _) .nil), fun x G' e hx => q x G' e hx⟩)))))
theorem r_neTab {i : Int} {x y : V} {G : Hp} {O : OL} {R : V → Hp → OL → Prop} (hx : Da G [] x (tabD i)) (hy : Da G [] y (tabD i)) (r : R (.bl false) G O) : W (rNeD K x y) G O R := r_neD (da_wk _ hx) (da_wk _ hy) (shp_tab _) (shp_tab _) (by rw [eqv_tab]; exact r)
theorem r_eqTab {i : Int} {x y : V} {G : Hp} {O : OL} {R : V → Hp → OL → Prop} (hx : Da G [] x (tabD i)) (hy : Da G [] y (tabD i)) (r : R (.bl true) G O) : W (rEqD K x y) G O R := r_eqD (da_wk _ hx) (da_wk _ hy) (shp_tab _) (shp_tab _) (by rw [eqv_tab]; exact r)
theorem tok_bad {o : Option Int} {i : Int} {Po : V → Hp → Prop} {v : V} {G : Hp} (h : TOk o Po v G) (e : o = some i) (hno : ∀ r G, ¬ Po r G) : Da G [] v (tabD i) := by
  rcases h with ⟨l, r, _, _, h⟩ | ⟨j, hj, h⟩
  · exact absurd h (hno r G)
  · rw [e] at hj; cases hj; exact h
theorem sc_law_refusals_hold : FnScope ["_law_hand_here", "_law_field_here", "_law_prime_here", "_law_made_here", "_law_one_here", "_law_other", "_law_many", "_law_low", "_law_high", "_law_bad", "_law_worse", "_law_which"] ["_law_hand_here", "_law_field_here", "_law_prime_here", "_law_made_here", "_law_one_here", "_law_other"] (defScope s_law_refusals_hold) := ⟨rfl, rfl, rfl, by decide +kernel, rfl, by decide +kernel, by decide +kernel⟩
def R_law_refh (K : PySem.W.Frag) : Rel := fun ws G post => ∃ (F : Fk) (n m : Nat) (ps : List (Nat × Nat)) (vf vp v1 v2 : V) (us1 us2 : List F.U), ws = [vf, .int (F.p : Int), vp, v1, v2] ∧ FldOk K F G vf ∧ PicOk K n m ps G vp ∧ Ro F G v1 us1 ∧ Ro F G v2 us2 ∧ us1.length = ps.length ∧ us2.length = ps.length ∧ allBd F 16 us1 ∧ allBd F 16 us2 ∧ post = fun v _ => v = .bl true
theorem cal_law_refusals_hold (T : Txt K mg) : C8.Cal P w K mg base 10 "_law_refusals_hold" (Fn (SH (R_law_refh K))) [] := by
  refine cal_by T.d_law_refusals_hold sc_law_refusals_hold (fun vs G O R h => ?_) (fun f cdv A outer s H vs G O R E hr h => ?_)
  · obtain ⟨_, _, _, rfl, _, _, _, ⟨_, _, _, _, _, _, _, _, _, _, rfl, _⟩, _⟩ := h; rfl
  · obtain ⟨h, o, _, rfl, rfl, ho, post, ⟨F, n, m, ps, vf, vp, v1, v2, us1, us2, rfl, hf, hp, h1, h2, l1, l2, b1, b2, rfl⟩, rfl⟩ := h
    refine ⟨_, (pss_cons (ps_set (i := 6) sc_law_refusals_hold.nd rfl (Or.inl rfl) (pe_callB (lenK K rfl) rfl T.b_len PySem.boot_len (pa_cons (pv 4) pa_nil)))
    (pss_cons (ps_if (pt_cmpR op_eq (pv 6) pe_int (nomark _))
      (pss_one (ps_ret (pe_cmpR (eqDK K rfl hr.units) (C8.pe_c (cal_law_same_told T F) hr (by omega) rfl (pa_cons (pv 1) (pa_cons (pv 3) (pa_cons (pe_lst (pa_cons (C8.pe_c (cal_law_one T) hr (by omega) rfl (pa_cons (pv 2) pa_nil)) pa_nil)) (pa_cons pe_non pa_nil))))) (pe_lst (pa_cons pe_str (pa_cons (pe_op op_sub pe_int pe_int) pa_nil))) (nomark _))))
      pss_nil)
    (pss_cons (ps_set (i := 7) sc_law_refusals_hold.nd rfl (Or.inl rfl) (C8.pe_c (cal_law_draw T) hr (by omega) rfl (pa_cons (pv 0) (pa_cons (pv 6) pa_nil))))
    (pss_cons (ps_set (i := 8) sc_law_refusals_hold.nd rfl (Or.inl rfl) (C8.pe_c (cal_law_draw T) hr (by omega) rfl (pa_cons (pv 0) (pa_cons (pv 6) pa_nil))))
    (pss_cons (ps_set (i := 9) sc_law_refusals_hold.nd rfl (Or.inl rfl) (C8.pe_c (cal_law_spoilt_at T) hr (by omega) rfl (pa_cons (pv 0) (pa_cons (pv 2) (pa_cons (pv 4) (pa_cons (pv 7) pa_nil))))))
    (pss_cons (ps_set (i := 10) sc_law_refusals_hold.nd rfl (Or.inl rfl) (C8.pe_c (cal_law_spoilt_at T) hr (by omega) rfl (pa_cons (pv 0) (pa_cons (pv 2) (pa_cons (pv 5) (pa_cons (pv 8) pa_nil))))))
    (pss_cons (ps_if (PW.pt (pw_or (pt_cmpR (neDK K rfl hr.units) (C8.pe_c (cal_law_same_told T F) hr (by omega) rfl (pa_cons (pv 1) (pa_cons (pv 3) (pa_cons (pv 9) (pa_cons (pv 10) pa_nil))))) (pe_lst (pa_cons pe_str (pa_cons (pv 7) pa_nil))) (nomark _)) (pw_or1 (pt_cmpR (neDK K rfl hr.units) (C8.pe_c (cal_law_same_told T F) hr (by omega) rfl (pa_cons (pv 1) (pa_cons (pv 3) (pa_cons (pv 4) (pa_cons (pv 10) pa_nil))))) (pe_lst (pa_cons pe_str (pa_cons (pv 8) pa_nil))) (nomark _)))))
      (pss_one (ps_ret pe_bl))
      pss_nil)
    (pss_cons (ps_for PassesOwn.never rfl (pi_tupK K rfl (pe_tup (pa_cons pe_int (pa_cons pe_int pa_nil)))) (pg_name (i := 11) sc_law_refusals_hold.nd rfl (Or.inl rfl))
      (pss_cons (ps_if (pt_cmpR (neDK K rfl hr.units) (C8.pe_c (cal_law_judge_told T F) hr (by omega) rfl (pa_cons (pv 11) (pa_cons (pv 1) (pa_cons (pv 3) (pa_cons (pv 9) (pa_cons (pv 10) pa_nil)))))) (pe_lst (pa_cons pe_str (pa_cons (pv 7) pa_nil))) (nomark _))
        (pss_one (ps_ret pe_bl))
        pss_nil)
      (pss_one (ps_if (pt_cmpR (neDK K rfl hr.units) (C8.pe_c (cal_law_judge_told T F) hr (by omega) rfl (pa_cons (pv 11) (pa_cons (pv 1) (pa_cons (pv 3) (pa_cons (pv 4) (pa_cons (pv 10) pa_nil)))))) (pe_lst (pa_cons pe_str (pa_cons (pv 8) pa_nil))) (nomark _))
        (pss_one (ps_ret pe_bl))
        pss_nil))))
    (pss_one (ps_ret (pe_cmpR (eqDK K rfl hr.units) (C8.pe_c (cal_law_plain_told T F) hr (by omega) rfl (pa_cons (pv 1) (pa_cons (pv 3) (pa_cons (pv 9) pa_nil)))) (pe_lst (pa_cons pe_str (pa_cons (pv 7) pa_nil))) (nomark _)))))))))))), ?_⟩
    show WS _ [some (.ref h), some (vf), some (.int (F.p : Int)), some (vp), some (v1), some (v2), none, none, none, none, none, none] _ _ _
    have pw := hp.1
    have l25 := pw.len
    walk_at "go"
    refine r_lenD h1 ?_
    rw [List.length_map]
    walk_at "go"
    have r1' : ∀ {d : PyData} {us : List F.U}, rowD F d us → us.length = ps.length → fpl F d ps.length = none := fun h l => fpl_row h l
    walk_at "if"
    · intro h0
      walk_at "go"
      refine w_lstD (w_cons (w_call0 (w_cons (w_var rfl (w_nil ?_)))))
      refine f_p ⟨F, rfl, rfl⟩ fun v3 G3 e3 hv3 => ?_
      refine w_nil ⟨[F.dat 1], by simp, .cons hv3 .nil, fun x4 G4 e4 hx4 => ?_⟩
      walk_at "go"
      have e34 := e3.trans e4
      have hrow : rowD F (.list [F.dat 1]) [(1 : F.U)] := rfl
      have hbad : (fpl F (.list [F.dat 1]) ps.length).or (fpl F .none ps.length) = some (-1) := by
        rw [fpl_len rfl (by simp; omega)]; rfl
      refine f_p ⟨n, m, ps, vf, vp, _, _, .list [F.dat 1], .none, rfl, fld_up e34 hf, pic_up e34 hp, hx4, .non, fun us h => by rw [row_inj h hrow]; intro u hu; simp only [List.mem_singleton] at hu; subst hu; exact Fk.bd_mono Fk.bd_one (Nat.zero_le _), fun us h => (by cases h), rfl⟩ fun v5 G5 e5 hv5 => ?_
      have hv5 := tok_bad hv5 hbad fun r G ⟨a, b, _, hb, _⟩ => by cases hb
      refine w_lstD (w_cons (w_c (w_cons ?_)))
      walk_at "go"
      refine ⟨[.str "table", .int (0 - 1)], by simp, .cons (.str _) (.cons (.int _) .nil), fun x6 G6 e6 hx6 => ?_⟩
      refine r_eqD (da_wk _ (Da.up e6 hv5)) (da_wk _ hx6) (shp_tab _) (shp_tab _) ⟨_, rfl, hd_up (e34.trans (e5.trans e6)) ho, ?_⟩
      exact congrArg V.bl (eqv_tab _)
    intro h0
    refine ws_nx ?_
    walk_at "go"
    refine f_h ho ⟨_, rfl, by omega, by omega, rfl⟩ fun v3 G3 o3 e3 ho3 hk => ?_
    obtain ⟨lo, rfl, hlo0, hlo1⟩ := hk
    obtain ⟨lo, rfl⟩ : ∃ n : Nat, lo = n := ⟨lo.toNat, by omega⟩
    walk_at "go"
    refine f_h ho3 ⟨_, rfl, by omega, by omega, rfl⟩ fun v4 G4 o4 e4 ho4 hk => ?_
    obtain ⟨hi, rfl, hhi0, hhi1⟩ := hk
    obtain ⟨hi, rfl⟩ : ∃ n : Nat, hi = n := ⟨hi.toNat, by omega⟩
    walk_at "go"
    have e34 := e3.trans e4
    refine f_h ho4 ⟨F, v1, us1, lo, rfl, ro_up e34 h1, by omega, by omega, rfl⟩ fun v5 G5 o5 e5 ho5 hk => ?_
    obtain ⟨db, hdb, hfb, hnb⟩ := hk
    walk_at "go"
    refine f_h ho5 ⟨F, v2, us2, hi, rfl, ro_up (e34.trans e5) h2, by omega, by omega, rfl⟩ fun v6 G6 o6 e6 ho6 hk => ?_
    obtain ⟨dw, hdw, hfw, hnw⟩ := hk
    have ee := (e34.trans e5).trans e6
    have hf := fld_up ee hf
    have hp := pic_up ee hp
    have h1 := ro_up ee h1
    have h2 := ro_up ee h2
    have hdb := Da.up e6 hdb
    obtain ⟨d1, hd1, r1⟩ := ro_row h1
    rw [l1] at hfb
    rw [l2] at hfw
    have o1 : (fpl F db ps.length).or (fpl F dw ps.length) = some (lo : Int) := by rw [hfb]; rfl
    have o2 : (fpl F d1 ps.length).or (fpl F dw ps.length) = some (hi : Int) := by rw [fpl_row r1 l1, hfw]; rfl
    have bb : ∀ us, rowD F db us → allBd F 16 us := fun us h => absurd h (hnb us)
    have bww : ∀ us, rowD F dw us → allBd F 16 us := fun us h => absurd h (hnw us)
    have bd1 : ∀ us, rowD F d1 us → allBd F 16 us := fun us h => by rw [row_inj h r1]; exact b1
    refine ws_seq (ws_if (t_or (t_test (w_op (w_call0 (w_cons (w_var rfl (w_cons (w_var rfl (w_cons (w_var rfl (w_cons (w_var rfl (w_nil ?_))))))))))))))
    refine f_p ⟨n, m, ps, vf, vp, v5, v6, db, dw, rfl, hf, hp, hdb, hdw, bb, bww, rfl⟩ fun v7 G7 e7 hv7 => ?_
    have hv7 := tok_bad hv7 o1 fun r G ⟨a, b, hb, _⟩ => hnb a hb
    refine w_tabL rfl fun x8 G8 e8 hx8 => ?_
    refine r_neTab (Da.up e8 hv7) hx8 ?_
    refine ⟨_, rfl, fun z => (by cases z), fun _ => ?_⟩
    have ee := e7.trans e8
    have hf := fld_up ee hf
    have hp := pic_up ee hp
    have hd1 := Da.up ee hd1
    have hdb := Da.up ee hdb
    have hdw := Da.up ee hdw
    have ho8 := hd_up ee ho6
    refine t_test (w_op (w_call0 (w_cons (w_var rfl (w_cons (w_var rfl (w_cons (w_var rfl (w_cons (w_var rfl (w_nil ?_)))))))))))
    refine f_p ⟨n, m, ps, vf, vp, v1, v6, d1, dw, rfl, hf, hp, hd1, hdw, bd1, bww, rfl⟩ fun v9 G9 e9 hv9 => ?_
    have hv9 := tok_bad hv9 o2 fun r G ⟨a, b, _, hb, _⟩ => hnw b hb
    refine w_tabL rfl fun x10 G10 e10 hx10 => ?_
    refine r_neTab (Da.up e10 hv9) hx10 ?_
    refine ⟨_, rfl, fun z => (by cases z), fun _ => ws_nx ?_⟩
    have ee := e9.trans e10
    have hf := fld_up ee hf
    have hp := pic_up ee hp
    have hd1 := Da.up ee hd1
    have hdb := Da.up ee hdb
    have hdw := Da.up ee hdw
    have ho10 := hd_up ee ho8
    refine ws_seq ?_
    refine ws_for (i_tup ((td_tup (ds := [.int 0, .int 1]) (tds_cons td_int (tds_cons td_int tds_nil)) (by decide)) _ _ _ fun vt G11 e11 hvt => ?_))
    obtain ⟨ta, xs, rfl, hta, hxs⟩ := da_tup hvt
    refine ⟨ta, xs, rfl, hta, _, _, wk_tup hta, fun i σ G' O' => ∃ u11 : Option V, σ = [some (.ref h), some vf, some (.int (F.p : Int)), some vp, some v1, some v2, some (.int (us1.length : Int)), some (.int (lo : Int)), some (.int (hi : Int)), some v5, some v6, u11] ∧ O' = [(h, o6)], ⟨_, rfl, rfl⟩, ?_, ?_⟩
    · rintro i x σ' G12 O' hi' e12 ⟨u11, rfl, rfl⟩ G13 e13 hx
      obtain ⟨wh, rfl⟩ : ∃ wh : Int, x = .int wh := by
        obtain ⟨d, hd1, hd2⟩ := daAll_of hxs hx
        match i, hd1 with
        | 0, hd1 => cases hd1; exact ⟨_, da_int hd2⟩
        | 1, hd1 => cases hd1; exact ⟨_, da_int hd2⟩
      have ee := (e11.trans e12).trans e13
      have hf := fld_up ee hf
      have hp := pic_up ee hp
      have hd1 := Da.up ee hd1
      have hdb := Da.up ee hdb
      have hdw := Da.up ee hdw
      refine g_name ?_
      refine ws_seq (ws_if (t_test (w_op (w_call0 (w_cons (w_var rfl (w_cons (w_var rfl (w_cons (w_var rfl (w_cons (w_var rfl (w_cons (w_var rfl (w_nil ?_)))))))))))))))
      refine f_p ⟨n, m, ps, wh, vf, vp, v5, v6, db, dw, (lo : Int), rfl, hf, hp, hdb, hdw, bb, bww, o1, rfl⟩ fun v14 G14 e14 hv14 => ?_
      refine w_tabL rfl fun x15 G15 e15 hx15 => ?_
      refine r_neTab (Da.up e15 hv14) hx15 ?_
      refine ⟨_, rfl, fun z => (by cases z), fun _ => ws_nx ?_⟩
      have ee := e14.trans e15
      refine ws_if (t_test (w_op (w_call0 (w_cons (w_var rfl (w_cons (w_var rfl (w_cons (w_var rfl (w_cons (w_var rfl (w_cons (w_var rfl (w_nil ?_))))))))))))))
      refine f_p ⟨n, m, ps, wh, vf, vp, v1, v6, d1, dw, (hi : Int), rfl, fld_up ee hf, pic_up ee hp, Da.up ee hd1, Da.up ee hdw, bd1, bww, o2, rfl⟩ fun v16 G16 e16 hv16 => ?_
      refine w_tabL rfl fun x17 G17 e17 hx17 => ?_
      refine r_neTab (Da.up e17 hv16) hx17 ?_
      refine ⟨_, rfl, fun z => (by cases z), fun _ => ws_nx ?_⟩
      exact ⟨_, rfl, rfl⟩
    rintro σ' G12 O' e12 ⟨u11, rfl, rfl⟩
    have ee := e11.trans e12
    walk_at "go"
    refine f_p ⟨n, m, ps, vf, vp, v5, db, rfl, fld_up ee hf, pic_up ee hp, Da.up ee hdb, bb, rfl⟩ fun v14 G14 e14 hv14 => ?_
    have hv14 := tok_bad hv14 hfb fun r G ⟨a, hb, _⟩ => hnb a hb
    refine w_tabL rfl fun x15 G15 e15 hx15 => ?_
    exact r_eqTab (Da.up e15 hv14) hx15 ⟨_, rfl, hd_up (ee.trans (e14.trans e15)) ho10, rfl⟩
end
/-! text U3 -/
theorem filt_first {L i : Nat} {b : Nat → Bool} (hi : i < L) (h : b i = true) (hb : ∀ j, j < i → b j = false) : ((List.range L).filter b)[0]? = some i := by
  rw [← List.head?_eq_getElem?, List.head?_filter, List.find?_range_eq_some]
  exact ⟨h, List.mem_range.mpr hi, fun j hj => by rw [hb j hj]; rfl⟩
theorem lay_app1 {F : Fk} : ∀ us : List F.U, PyData.canLayAll0 (us.map F.dat ++ [.int 1]) = true ∧ PyData.depthAll (us.map F.dat ++ [.int 1]) ≤ 1
  | [] => ⟨rfl, Nat.zero_le _⟩
  | a :: us => by
    have h := Fk.shaped_dat a
    have ih := lay_app1 us
    refine ⟨?_, ?_⟩
    · exact Bool.and_eq_true_iff.mpr ⟨h.1, ih.1⟩
    · exact Nat.max_le.mpr ⟨h.2, ih.2⟩
theorem shp_app1 {F : Fk} (us : List F.U) : SeqAt.shaped (.tuple (us.map F.dat ++ [.int 1])) = true := shp ⟨by rw [PyData.canLay0]; exact (lay_app1 us).1, by rw [PyData.depth]; have := (lay_app1 us).2; omega⟩
theorem eqv_app1 {F : Fk} : ∀ us : List F.U, PyData.eqvAll (us.map F.dat) (us.map F.dat ++ [.int 1]) = false
  | [] => rfl
  | a :: us => by
    show (PyData.eqv _ _ && PyData.eqvAll (us.map F.dat) (us.map F.dat ++ [.int 1])) = false
    rw [eqv_app1 us, Bool.and_false]
theorem r_catAD {K : PySem.W.Frag} {G : Hp} {O : OL} {x y : V} {ds es : List PyData} {R : V → Hp → OL → Prop} (h : Da G [] x (.tuple ds)) (h2 : Da G [] y (.tuple es)) (hz : ds.length + es.length ≤ 1000) (q : ∀ z G', Ex G G' → Da G' [] z (.tuple (ds ++ es)) → R z G' O) : W (rCatA K x y) G O R := by
  obtain ⟨a, xs, rfl, ha, hxs⟩ := da_tup h
  obtain ⟨b, ys, rfl, hb, hys⟩ := da_tup h2
  refine r_catA ha hb (by rw [sizeLine_eq, daAll_len hxs, daAll_len hys]; omega) fun l G' e hl => q _ G' e (.tup hl (daAll_app (DaAll.up e hxs) (DaAll.up e hys)))
section
variable {P : Program} {w : World} {K : PySem.W.Frag} {mg : Str → Option Value} {base : Heap}
theorem sc_law_verdict_holds : FnScope ["_law_hand_here", "_law_field_here", "_law_prime_here", "_law_picture_here", "_law_made_here", "_law_one_here", "_law_other", "_law_judged", "_law_basis_here", "_law_ours", "_law_theirs", "_law_first", "_law_told", "_law_place", "_law_twin", "_law_tour_here", "_law_k"] ["_law_hand_here", "_law_field_here", "_law_prime_here", "_law_picture_here", "_law_made_here", "_law_one_here", "_law_other", "_law_judged"] (defScope s_law_verdict_holds) := ⟨rfl, rfl, rfl, by decide +kernel, rfl, by decide +kernel, by decide +kernel⟩
def R_law_verd (K : PySem.W.Frag) : Rel := fun ws G post => ∃ (F : Fk) (n m : Nat) (ps : List (Nat × Nat)) (vf v0 vp v1 v2 : V) (us1 us2 : List F.U) (jd : Bool), ws = [vf, .int (F.p : Int), v0, vp, v1, v2, .bl jd] ∧ FldOk K F G vf ∧ PicOk K n m ps G vp ∧ Da G [] v0 (dpic n m ps) ∧ Ro F G v1 us1 ∧ Ro F G v2 us2 ∧ us1.length = ps.length ∧ us2.length = ps.length ∧ allBd F 16 us1 ∧ allBd F 16 us2 ∧ post = fun v _ => v = .bl true
theorem cal_law_verdict_holds (T : Txt K mg) : C8.Cal P w K mg base 12 "_law_verdict_holds" (Fn (SH (R_law_verd K))) [] := by
  refine cal_by T.d_law_verdict_holds sc_law_verdict_holds (fun vs G O R h => ?_) (fun f cdv A outer s H vs G O R E hr h => ?_)
  · obtain ⟨_, _, _, rfl, _, _, _, ⟨_, _, _, _, _, _, _, _, _, _, _, _, rfl, _⟩, _⟩ := h; rfl
  · obtain ⟨h, o, _, rfl, rfl, ho, post, ⟨F, n, m, ps, vf, v0, vp, v1, v2, us1, us2, jd, rfl, hf, hp, hv0, h1, h2, l1, l2, b1, b2, rfl⟩, rfl⟩ := h
    refine ⟨_, (pss_cons (ps_set (i := 8) sc_law_verdict_holds.nd rfl (Or.inl rfl) (C8.pe_c (cal_law_basis T) hr (by omega) rfl (pa_cons (pv 3) pa_nil)))
    (pss_cons (ps_set (i := 9) sc_law_verdict_holds.nd rfl (Or.inr rfl) (pe_lc (own := [("_law_tour_here", 15)]) rfl sc_law_verdict_holds.nd (pi_listK K rfl (pv 8)) (blkOk_by (N := ["_law_hand_here", "_law_field_here", "_law_prime_here", "_law_picture_here", "_law_made_here", "_law_one_here", "_law_other", "_law_judged", "_law_basis_here", "_law_ours", "_law_theirs", "_law_first", "_law_told", "_law_place", "_law_twin", "_law_tour_here", "_law_k"]) (sc := defScope s_law_verdict_holds) (by decide +kernel)) (fun _ _ _ _ _ => (pg_name (i := 15) sc_law_verdict_holds.nd rfl (Or.inl rfl))) (fun _ _ _ _ _ => pts_nil) (fun _ _ _ _ _ => (C8.pe_c (cal_law_worth T) hr (by omega) rfl (pa_cons (pv 2) (pa_cons (pv 5) (pa_cons (pv 15) pa_nil)))))))
    (pss_cons (ps_set (i := 10) sc_law_verdict_holds.nd rfl (Or.inr rfl) (pe_lc (own := [("_law_tour_here", 15)]) rfl sc_law_verdict_holds.nd (pi_listK K rfl (pv 8)) (blkOk_by (N := ["_law_hand_here", "_law_field_here", "_law_prime_here", "_law_picture_here", "_law_made_here", "_law_one_here", "_law_other", "_law_judged", "_law_basis_here", "_law_ours", "_law_theirs", "_law_first", "_law_told", "_law_place", "_law_twin", "_law_tour_here", "_law_k"]) (sc := defScope s_law_verdict_holds) (by decide +kernel)) (fun _ _ _ _ _ => (pg_name (i := 15) sc_law_verdict_holds.nd rfl (Or.inl rfl))) (fun _ _ _ _ _ => pts_nil) (fun _ _ _ _ _ => (C8.pe_c (cal_law_worth T) hr (by omega) rfl (pa_cons (pv 2) (pa_cons (pv 6) (pa_cons (pv 15) pa_nil)))))))
    (pss_cons (ps_setLc (i := 11) (own := [("_law_k", 16)]) rfl sc_law_verdict_holds.nd rfl rfl (sw_true rfl rfl rfl (by decide +kernel)) (pi_range1 rfl T.b_range (pa_cons (pe_callB (lenK K rfl) rfl T.b_len PySem.boot_len (pa_cons (pv 8) pa_nil)) pa_nil)) (blkOk_by (N := ["_law_hand_here", "_law_field_here", "_law_prime_here", "_law_picture_here", "_law_made_here", "_law_one_here", "_law_other", "_law_judged", "_law_basis_here", "_law_ours", "_law_theirs", "_law_first", "_law_told", "_law_place", "_law_twin", "_law_tour_here", "_law_k"]) (sc := defScope s_law_verdict_holds) (by decide +kernel)) (fun _ _ _ _ _ => (pg_name (i := 16) sc_law_verdict_holds.nd rfl (Or.inl rfl))) (fun _ _ _ _ _ => (pts_one (pt_cmpR (neDK K rfl hr.units) (pe_ix (ixK K rfl) (pv 9) (pv 16) (fun _ _ => rfl)) (pe_ix (ixK K rfl) (pv 10) (pv 16) (fun _ _ => rfl)) (nomark _)))) (fun _ _ _ _ _ => (pv 16)))
    (pss_cons (ps_set (i := 12) sc_law_verdict_holds.nd rfl (Or.inl rfl) (C8.pe_c (cal_law_same_told T F) hr (by omega) rfl (pa_cons (pv 1) (pa_cons (pv 4) (pa_cons (C8.pe_c (cal_law_given T) hr (by omega) rfl (pa_cons (pv 0) (pa_cons (pv 5) pa_nil))) (pa_cons (C8.pe_c (cal_law_given T) hr (by omega) rfl (pa_cons (pv 0) (pa_cons (pv 6) pa_nil))) pa_nil))))))
    (pss_cons (ps_if (pt_cmpR op_ne (pe_ix (ixK K rfl) (pv 12) pe_int (fun _ _ => rfl)) pe_str (nomark _))
      (pss_one (ps_ret pe_bl))
      pss_nil)
    (pss_cons (ps_if (pt_cmpR op_gt (pe_callB (lenK K rfl) rfl T.b_len PySem.boot_len (pa_cons (pv 11) pa_nil)) pe_int (nomark _))
      (pss_cons (ps_set (i := 13) sc_law_verdict_holds.nd rfl (Or.inl rfl) (pe_ix (ixK K rfl) (pv 11) pe_int (fun _ _ => rfl)))
      (pss_cons (ps_if (PW.pt (pw_or (pt_not (pt_val (pe_callB (isiK K rfl) rfl T.b_isinstance PyProof.Rows.boot_isinstance (pa_cons (pe_ix (ixK K rfl) (pv 12) pe_int (fun _ _ => rfl)) (pa_cons (pe_glob (v := .ref (ga K "Unlike")) rfl T.g_Unlike rfl) pa_nil))))) (pw_or (pt_not (pt_val (C8.pe_c (cal_law_whole T) hr (by omega) rfl (pa_cons (pe_fldK K rfl (pe_ix (ixK K rfl) (pv 12) pe_int (fun _ _ => rfl)) rfl) pa_nil)))) (pw_or1 (pt_cmpR op_ne (pe_fldK K rfl (pe_ix (ixK K rfl) (pv 12) pe_int (fun _ _ => rfl)) rfl) (pv 13) (nomark _))))))
        (pss_one (ps_ret pe_bl))
        pss_nil)
      (pss_cons (ps_if (PW.pt (pw_or (pt_not (pt_val (C8.pe_c (cal_law_same T) hr (by omega) rfl (pa_cons (pv 2) (pa_cons (pe_fldK K rfl (pe_ix (ixK K rfl) (pv 12) pe_int (fun _ _ => rfl)) rfl) (pa_cons (pe_ix (ixK K rfl) (pv 9) (pv 13) (fun _ _ => rfl)) pa_nil)))))) (pw_or1 (pt_not (pt_val (C8.pe_c (cal_law_same T) hr (by omega) rfl (pa_cons (pv 2) (pa_cons (pe_fldK K rfl (pe_ix (ixK K rfl) (pv 12) pe_int (fun _ _ => rfl)) rfl) (pa_cons (pe_ix (ixK K rfl) (pv 10) (pv 13) (fun _ _ => rfl)) pa_nil)))))))))
        (pss_one (ps_ret pe_bl))
        pss_nil)
      (pss_one (ps_if (PW.pt (pw_or (pt_not (pt_cmpR (op_eqC (eq_Unlike T F) hr (by omega)) (pe_ix (ixK K rfl) (pv 12) pe_int (fun _ _ => rfl)) (C8.pe_mk (mak_Unlike T) hr (by omega) rfl (pa_cons (pv 13) (pa_cons (pe_ix (ixK K rfl) (pv 9) (pv 13) (fun _ _ => rfl)) (pa_cons (pe_ix (ixK K rfl) (pv 10) (pv 13) (fun _ _ => rfl)) pa_nil)))) (nomark _))) (pw_or1 (pt_cmpR (op_eqC (eq_Unlike T F) hr (by omega)) (pe_ix (ixK K rfl) (pv 12) pe_int (fun _ _ => rfl)) (C8.pe_mk (mak_Unlike T) hr (by omega) rfl (pa_cons (pv 13) (pa_cons (pe_ix (ixK K rfl) (pv 10) (pv 13) (fun _ _ => rfl)) (pa_cons (pe_ix (ixK K rfl) (pv 9) (pv 13) (fun _ _ => rfl)) pa_nil)))) (nomark _)))))
        (pss_one (ps_ret pe_bl))
        pss_nil)))))
      (pss_cons (ps_if (PW.pt (pw_or (pt_not (pt_val (pe_callB (isiK K rfl) rfl T.b_isinstance PyProof.Rows.boot_isinstance (pa_cons (pe_ix (ixK K rfl) (pv 12) pe_int (fun _ _ => rfl)) (pa_cons (pe_glob (v := .ref (ga K "Factors")) rfl T.g_Factors rfl) pa_nil))))) (pw_or1 (pt_not (pt_val (C8.pe_c (cal_law_leads T) hr (by omega) rfl (pa_cons (pv 2) (pa_cons (pv 3) (pa_cons (pv 5) (pa_cons (pv 6) (pa_cons (pe_ix (ixK K rfl) (pv 12) pe_int (fun _ _ => rfl)) pa_nil)))))))))))
        (pss_one (ps_ret pe_bl))
        pss_nil)
      (pss_cons (ps_set (i := 14) sc_law_verdict_holds.nd rfl (Or.inl rfl) (C8.pe_mk (mak_Factors T) hr (by omega) rfl (pa_cons (pe_callTy (tupleK K rfl) rfl T.b_tuple PyProof.Rows.boot_tuple (pa_cons (pe_callTy (listK K rfl) rfl T.b_list PyProof.Rows.boot_list (pa_cons (pe_fldK K rfl (pe_ix (ixK K rfl) (pv 12) pe_int (fun _ _ => rfl)) rfl) pa_nil)) pa_nil)) (pa_cons (pe_callTy (tupleK K rfl) rfl T.b_tuple PyProof.Rows.boot_tuple (pa_cons (pe_callTy (listK K rfl) rfl T.b_list PyProof.Rows.boot_list (pa_cons (pe_fldK K rfl (pe_ix (ixK K rfl) (pv 12) pe_int (fun _ _ => rfl)) rfl) pa_nil)) pa_nil)) pa_nil))))
      (pss_cons (ps_if (PW.pt (pw_or (pt_not (pt_cmpR (op_eqC (eq_Factors T) hr (by omega)) (pe_ix (ixK K rfl) (pv 12) pe_int (fun _ _ => rfl)) (pv 14) (nomark _))) (pw_or1 (pt_cmpR (op_eqC (eq_Factors T) hr (by omega)) (pe_ix (ixK K rfl) (pv 12) pe_int (fun _ _ => rfl)) (C8.pe_mk (mak_Factors T) hr (by omega) rfl (pa_cons (pe_op (catAK K rfl) (pe_fldK K rfl (pe_ix (ixK K rfl) (pv 12) pe_int (fun _ _ => rfl)) rfl) (pe_tup (pa_cons pe_int pa_nil))) (pa_cons (pe_fldK K rfl (pe_ix (ixK K rfl) (pv 12) pe_int (fun _ _ => rfl)) rfl) pa_nil))) (nomark _)))))
        (pss_one (ps_ret pe_bl))
        pss_nil)
      (pss_one (ps_if (pt_not (pt_val (C8.pe_c (cal_law_factors_judged T) hr (by omega) rfl (pa_cons (pv 0) (pa_cons (pv 1) (pa_cons (pv 2) (pa_cons (pv 3) (pa_cons (pv 4) (pa_cons (pv 5) (pa_cons (pv 6) (pa_cons (pe_fldK K rfl (pe_ix (ixK K rfl) (pv 12) pe_int (fun _ _ => rfl)) rfl) (pa_cons (pe_fldK K rfl (pe_ix (ixK K rfl) (pv 12) pe_int (fun _ _ => rfl)) rfl) pa_nil))))))))))))
        (pss_one (ps_ret pe_bl))
        pss_nil))))))
    (pss_cons (ps_if (pt_not (pt_val (pv 7)))
      (pss_one (ps_ret pe_bl))
      pss_nil)
    (pss_one (ps_ret (C8.pe_c (cal_law_unlike_judged T) hr (by omega) rfl (pa_cons (pv 0) (pa_cons (pv 1) (pa_cons (pv 2) (pa_cons (pv 4) (pa_cons (pv 5) (pa_cons (pv 6) (pa_cons (pv 9) (pa_cons (pv 10) pa_nil))))))))))))))))))), ?_⟩
    show WS _ [some (.ref h), some (vf), some (.int (F.p : Int)), some (v0), some (vp), some (v1), some (v2), some (.bl jd), none, none, none, none, none, none, none, none, none] _ _ _
    have pw := hp.1
    have l25 := pw.len
    have ol := oth_len (n := n) (m := m) (ps := ps)
    have wl : ∀ x : List F.U, (worths n m ps x).length = (oth n m ps).length := fun x => by simp [worths]
    have bl : (dtours (basis n m ps)).length = (oth n m ps).length := by simp [dtours, basis]
    refine ws_seq (ws_set (w_call0 (w_cons (w_var rfl (w_nil ?_)))))
    refine f_p ⟨n, m, ps, v0, pw, rfl, hv0, rfl⟩ fun vb G1 e1 hvb => ?_
    have worths_map : ∀ us : List F.U, (List.range (oth n m ps).length).map (fun i => F.dat (worth us.length us (btour n m ps i))) = (worths n m ps us).map F.dat := fun us => by rw [worths, List.map_map]; rfl
    have h1 := ro_up e1 h1
    have h2 := ro_up e1 h2
    -- ours
    refine ws_seq (ws_set (w_lcLm (w_var rfl ⟨_, by rw [bl]; omega, hvb, fun i => F.dat (worth us1.length us1 (btour n m ps i)), ?_, fun p2 G2 e2 hours => ?_⟩)))
    · intro i y d' G4 hd' e4 hy
      have hi : i < (oth n m ps).length := by
        obtain ⟨h1, _⟩ := List.getElem?_eq_some_iff.mp hd'
        rwa [bl] at h1
      rw [basis_get hi] at hd'
      cases hd'
      refine ⟨rfl, ?_⟩
      walk_at "go"
      exact f_p ⟨F, us1, _, _, _, rfl, ro_up e4 h1, hy, by rw [btour_len, l1], by omega, btour_small pw hi, b1, rfl⟩ fun v5 G5 e5 hv5 => ⟨rfl, hv5⟩
    rw [bl, worths_map] at hours
    have h1 := ro_up e2 h1
    have h2 := ro_up e2 h2
    have hvb2 := Da.up e2 hvb
    -- theirs
    refine ws_seq (ws_set (w_lcLm (w_var rfl ⟨_, by rw [bl]; omega, hvb2, fun i => F.dat (worth us2.length us2 (btour n m ps i)), ?_, fun p3 G3 e3 htheirs => ?_⟩)))
    · intro i y d' G4 hd' e4 hy
      have hi : i < (oth n m ps).length := by
        obtain ⟨h1, _⟩ := List.getElem?_eq_some_iff.mp hd'
        rwa [bl] at h1
      rw [basis_get hi] at hd'
      cases hd'
      refine ⟨rfl, ?_⟩
      walk_at "go"
      exact f_p ⟨F, us2, _, _, _, rfl, ro_up e4 h2, hy, by rw [btour_len, l2], by omega, btour_small pw hi, b2, rfl⟩ fun v5 G5 e5 hv5 => ⟨rfl, hv5⟩
    rw [bl, worths_map] at htheirs
    have hours := Da.up e3 hours
    have hvb3 := Da.up e3 hvb2
    have h1 := ro_up e3 h1
    have h2 := ro_up e3 h2
    generalize hL : (oth n m ps).length = L at ol wl bl
    let df : Nat → Bool := fun k => !decide ((worths n m ps us1).getD k 1 = (worths n m ps us2).getD k 1)
    refine ws_seq (ws_set (w_lcR ?_))
    walk_at "go"
    refine r_lenD (.inl hvb3) ?_
    rw [bl]
    walk_at "go"
    refine ⟨L, rfl, by omega, df, fun k => .int (k : Int), fun k G4 hk e4 => ⟨rfl, ?_⟩, fun p4 G4 e4 hfirst => ?_⟩
    · refine t_test ?_
      walk_at "go"
      refine r_atD (j := k) (.inl (Da.up e4 hours)) (ro_get (by rw [wl]; exact hk)) rfl fun x hx => ?_
      walk_at "go"
      refine r_atD (j := k) (.inl (Da.up e4 htheirs)) (ro_get (by rw [wl]; exact hk)) rfl fun y hy => ?_
      refine r_neN hx hy ?_
      refine ⟨_, rfl, rfl, rfl, fun _ => ?_⟩
      walk_at "go"
      exact ⟨rfl, .int _⟩
    have hours := Da.up e4 hours
    have htheirs := Da.up e4 htheirs
    have h1 := ro_up e4 h1
    have h2 := ro_up e4 h2
    have e04 := ((e1.trans e2).trans e3).trans e4
    have hf := fld_up e04 hf
    have hp := pic_up e04 hp
    have hv0 := Da.up e04 hv0
    have ho := hd_up e04 ho
    -- told
    refine ws_seq (ws_set (w_call0 (w_cons (w_var rfl (w_cons (w_var rfl (w_cons ?_)))))))
    walk_at "go"
    refine f_h ho ⟨_, _, rfl, h1, rfl⟩ fun v5 G5 o5 e5 ho5 hk => ?_
    have h5 : Ro F G5 v5 us1 := hk
    walk_at "go"
    refine f_h ho5 ⟨_, _, rfl, ro_up e5 h2, rfl⟩ fun v6 G6 o6 e6 ho6 hk => ?_
    have h6 : Ro F G6 v6 us2 := hk
    obtain ⟨d1, hd1, r1⟩ := ro_row (ro_up e6 h5)
    obtain ⟨d2, hd2, r2⟩ := ro_row h6
    have e56 := e5.trans e6
    walk_at "go"
    refine f_p ⟨n, m, ps, vf, vp, v5, v6, d1, d2, rfl, fld_up e56 hf, pic_up e56 hp, hd1, hd2, fun us h => by rw [row_inj h r1]; exact b1, fun us h => by rw [row_inj h r2]; exact b2, rfl⟩ fun v7 G7 e7 hv7 => ?_
    have ee := e56.trans e7
    have hf := fld_up ee hf
    have hp := pic_up ee hp
    have hv0 := Da.up ee hv0
    have h1 := ro_up ee h1
    have h2 := ro_up ee h2
    have hours := Da.up ee hours
    have htheirs := Da.up ee htheirs
    have hfirst := Da.up ee hfirst
    have ho7 := hd_up e7 ho6
    rcases hv7 with ⟨lt, r, rfl, hlt, us1', us2', q1, q2, _, _, hfig⟩ | ⟨i, hi, _⟩
    rotate_left
    · rw [fpl_row r1 l1, fpl_row r2 l2] at hi; cases hi
    rw [row_inj q1 r1, row_inj q2 r2] at hfig
    have bw : ∀ (us : List F.U) (k : Nat), us.length = ps.length → allBd F 16 us → k < L → F.bd 1900 ((worths n m ps us).getD k 1) := fun us k hl hb hk => by
      rw [worths_get (by rw [hL]; exact hk)]
      refine Fk.bd_mono (bd_worth (N := us.length) hb (btour_small pw (by rw [hL]; exact hk))) ?_
      rw [hl]; omega
    walk_at "go"
    refine r_atS (.inr (.inl hlt)) rfl ?_
    walk_at "go"
    refine ⟨fun z => by simp at z, fun _ => ws_nx ?_⟩
    refine ws_seqI (fun σ G' O' => ∃ (u13 u14 : Option V) (o' : HO), σ = [some (.ref h), some vf, some (.int (F.p : Int)), some v0, some vp, some v1, some v2, some (.bl jd), some vb, some (.ref p2), some (.ref p3), some (.ref p4), some (.ref lt), u13, u14, none, none] ∧ O' = [(h, o')] ∧ HdOk G' o') ?_ ?_
    · walk_at "go"
      refine r_lenD (.inl hfirst) ?_
      rw [List.length_map]
      walk_at "go"
      rcases hfig with ⟨i, x, y, hi, hne, hfst, hU, hx, hy⟩ | ⟨hw, Pt, Wt, x, y, hFac, hx, hy, hPl, hWl, bP, bW, hsc, lead1, lead2⟩
      · -- unlike
        have hi : i < L := by rw [← hL]; exact hi
        have hf0 : ((List.range L).filter df)[0]? = some i := filt_first hi (by show (!decide _) = true; rw [decide_eq_false hne]; rfl) fun j hj => by show (!decide _) = false; rw [decide_eq_true (hfst j hj)]; rfl
        have hln : 0 < ((List.range L).filter df).length := (List.getElem?_eq_some_iff.mp hf0).1
        have g1 : ((worths n m ps us1).map F.dat)[i]? = some (F.dat ((worths n m ps us1).getD i 1)) := ro_get (by rw [wl]; exact hi)
        have g2 : ((worths n m ps us2).map F.dat)[i]? = some (F.dat ((worths n m ps us2).getD i 1)) := ro_get (by rw [wl]; exact hi)
        have bA := bw us1 i l1 b1 hi
        have bB := bw us2 i l2 b2 hi
        generalize (worths n m ps us1).getD i 1 = A at *
        generalize (worths n m ps us2).getD i 1 = B at *
        refine ⟨fun _ => ?_, fun z => ?_⟩
        rotate_left
        · exfalso; have := of_decide_eq_false z; omega
        walk_at "go"
        refine r_atD (j := 0) (.inl hfirst) (by rw [List.getElem?_map, hf0]; rfl) rfl fun z hz => ?_
        rw [da_int hz]
        walk_at "go"
        refine r_atS (.inr (.inl hlt)) rfl ?_
        walk_at "go"
        refine r_isi (.own _) (unl_ty T hU) T.in_Unlike.me ?_
        walk_at "go"
        refine r_unlP T ?_
        walk_at "go"
        refine r_atS (.inr (.inl hlt)) rfl ?_
        refine ⟨_, _, _, hU, ?_⟩
        walk_at "go"
        refine f_p ⟨_, rfl, rfl⟩ fun v8 G8 e8 hv8 => ?_
        subst hv8
        have hlt := e8 _ _ hlt
        have hU := unl_up e8 hU
        have hours := Da.up e8 hours
        have htheirs := Da.up e8 htheirs
        have hx := nu_up e8 hx
        have hy := nu_up e8 hy
        have ho8 := hd_up e8 ho7
        walk_at "go"
        refine r_unlP T ?_
        walk_at "go"
        refine r_atS (.inr (.inl hlt)) rfl ?_
        refine ⟨_, _, _, hU, ?_⟩
        walk_at "go"
        refine cj_ni (fun h => absurd rfl h) fun _ => ?_
        refine ws_nx ?_
        walk_at "go"
        refine r_unlF T ?_
        walk_at "go"
        refine r_atS (.inr (.inl hlt)) rfl ?_
        refine ⟨_, _, _, hU, ?_⟩
        walk_at "go"
        refine r_atD (j := i) (.inl hours) g1 rfl fun a1 ha1 => ?_
        walk_at "go"
        refine f_p ⟨F, _, _, _, _, rfl, hx, ha1, bA, rfl⟩ fun v9 G9 e9 hv9 => ?_
        subst hv9
        rw [decide_eq_true rfl]
        have hlt := e9 _ _ hlt
        have hU := unl_up e9 hU
        have hours := Da.up e9 hours
        have htheirs := Da.up e9 htheirs
        have hx := nu_up e9 hx
        have hy := nu_up e9 hy
        have ho9 := hd_up e9 ho8
        walk_at "go"
        refine r_unlS T ?_
        walk_at "go"
        refine r_atS (.inr (.inl hlt)) rfl ?_
        refine ⟨_, _, _, hU, ?_⟩
        walk_at "go"
        refine r_atD (j := i) (.inl htheirs) g2 rfl fun a2 ha2 => ?_
        walk_at "go"
        refine f_p ⟨F, _, _, _, _, rfl, hy, ha2, bB, rfl⟩ fun v10 G10 e10 hv10 => ?_
        subst hv10
        rw [decide_eq_true rfl]
        have hlt := e10 _ _ hlt
        have hU := unl_up e10 hU
        have hours := Da.up e10 hours
        have htheirs := Da.up e10 htheirs
        have hx := nu_up e10 hx
        have hy := nu_up e10 hy
        have ho10 := hd_up e10 ho9
        walk_at "go"
        refine r_atS (.inr (.inl hlt)) rfl ?_
        refine w_mkUnl ?_
        walk_at "go"
        refine r_atD (j := i) (.inl hours) g1 rfl fun y1 hy1 => ?_
        walk_at "go"
        refine r_atD (j := i) (.inl htheirs) g2 rfl fun y2 hy2 => ?_
        walk_at "go"
        refine ⟨_, y1, y2, rfl, fun vu G11 e11 hU2 => ?_⟩
        refine r_ownEq (unl_ins (unl_up e11 hU)) (unl_ins hU2) ?_
        refine f_p ⟨_, _, x, y, y1, y2, (i : Int), (i : Int), A, B, A, B, rfl, unl_up e11 hU, hU2, nu_up e11 hx, nu_up e11 hy, nu_up e11 hy1, nu_up e11 hy2, rfl⟩ fun v12 G12 e12 hv12 => ?_
        subst hv12
        rw [show (decide ((i : Int) = (i : Int)) && decide (A = A) && decide (B = B)) = true by simp]
        have ee := e11.trans e12
        have hlt := ee _ _ hlt
        have hU := unl_up ee hU
        have hours := Da.up ee hours
        have htheirs := Da.up ee htheirs
        have hx := nu_up ee hx
        have hy := nu_up ee hy
        have ho12 := hd_up ee ho10
        walk_at "go"
        refine r_atS (.inr (.inl hlt)) rfl ?_
        refine w_mkUnl ?_
        walk_at "go"
        refine r_atD (j := i) (.inl htheirs) g2 rfl fun y3 hy3 => ?_
        walk_at "go"
        refine r_atD (j := i) (.inl hours) g1 rfl fun y4 hy4 => ?_
        walk_at "go"
        refine ⟨_, y3, y4, rfl, fun vu2 G13 e13 hU3 => ?_⟩
        refine r_ownEq (unl_ins (unl_up e13 hU)) (unl_ins hU3) ?_
        refine f_p ⟨_, _, x, y, y3, y4, (i : Int), (i : Int), A, B, B, A, rfl, unl_up e13 hU, hU3, nu_up e13 hx, nu_up e13 hy, nu_up e13 hy3, nu_up e13 hy4, rfl⟩ fun v14 G14 e14 hv14 => ?_
        subst hv14
        rw [show (decide ((i : Int) = (i : Int)) && decide (A = B) && decide (B = A)) = false by rw [decide_eq_false hne]; simp]
        walk_at "go"
        exact ⟨_, _, _, rfl, rfl, hd_up (e13.trans e14) ho12⟩
      · -- factors
        have hemp : (List.range L).filter df = [] := List.filter_eq_nil_iff.mpr fun k _ => by show ¬ (!decide _) = true; rw [decide_eq_true (by rw [hw])]; decide
        rw [hemp]
        refine ⟨fun z => ?_, fun _ => ?_⟩
        · exact absurd (of_decide_eq_true z) (by decide)
        walk_at "go"
        refine r_atS (.inr (.inl hlt)) rfl ?_
        walk_at "go"
        refine r_isi (.own _) (fac_ty T hFac) T.in_Factors.me ?_
        walk_at "go"
        refine r_atS (.inr (.inl hlt)) rfl ?_
        walk_at "go"
        refine f_p ⟨F, n, m, ps, v0, v1, v2, r, x, y, us1, us2, Pt, Wt, rfl, pw, hv0, h1, h2, l1, l2, b1, hFac, hx, hy, hPl, hWl, bP, bW, hsc, lead1, lead2, rfl⟩ fun v8 G8 e8 hv8 => ?_
        subst hv8
        have hlt := e8 _ _ hlt
        have hFac := fac_up e8 hFac
        have hx := Da.up e8 hx
        have hy := Da.up e8 hy
        have ho8 := hd_up e8 ho7
        walk_at "go"
        refine w_mkFac ?_
        walk_at "go"
        refine r_facP T ?_
        walk_at "go"
        refine r_atS (.inr (.inl hlt)) rfl ?_
        refine ⟨_, _, hFac, ?_⟩
        walk_at "go"
        refine r_listDG (.inr hx) fun z9 G9 e9 hz9 => ?_
        walk_at "go"
        refine r_tupleD (.inl hz9) fun z10 G10 e10 hz10 => ?_
        have ee := e9.trans e10
        have hlt := ee _ _ hlt
        have hFac := fac_up ee hFac
        have hx := Da.up ee hx
        have hy := Da.up ee hy
        have ho10 := hd_up ee ho8
        walk_at "go"
        refine r_facW T ?_
        walk_at "go"
        refine r_atS (.inr (.inl hlt)) rfl ?_
        refine ⟨_, _, hFac, ?_⟩
        walk_at "go"
        refine r_listDG (.inr hy) fun z11 G11 e11 hz11 => ?_
        walk_at "go"
        refine r_tupleD (.inl hz11) fun z12 G12 e12 hz12 => ?_
        have ee := e11.trans e12
        have hz10 := Da.up ee hz10
        have hlt := ee _ _ hlt
        have hFac := fac_up ee hFac
        have hx := Da.up ee hx
        have hy := Da.up ee hy
        have ho12 := hd_up ee ho10
        walk_at "go"
        refine ⟨_, _, rfl, fun vF G13 e13 hF13 => ?_⟩
        have hz10 := Da.up e13 hz10
        have hz12 := Da.up e13 hz12
        have hlt := e13 _ _ hlt
        have hFac := fac_up e13 hFac
        have hx := Da.up e13 hx
        have hy := Da.up e13 hy
        have ho13 := hd_up e13 ho12
        walk_at "go"
        refine r_atS (.inr (.inl hlt)) rfl ?_
        walk_at "go"
        refine r_ownEq (fac_ins hFac) (fac_ins hF13) ?_
        refine f_p ⟨_, _, x, y, z10, z12, _, _, _, _, rfl, hFac, hF13, hx, hy, hz10, hz12, shp_tup Pt, shp_tup Wt, shp_tup Pt, shp_tup Wt, rfl⟩ fun v14 G14 e14 hv14 => ?_
        subst hv14
        rw [show (PyData.eqv (.tuple (Pt.map F.dat)) (.tuple (Pt.map F.dat)) && PyData.eqv (.tuple (Wt.map F.dat)) (.tuple (Wt.map F.dat))) = true by rw [PyData.eqv, eqvAll_dat, PyData.eqv, eqvAll_dat, decide_eq_true rfl, decide_eq_true rfl]; rfl]
        have hlt := e14 _ _ hlt
        have hFac := fac_up e14 hFac
        have hx := Da.up e14 hx
        have hy := Da.up e14 hy
        have ho14 := hd_up e14 ho13
        walk_at "go"
        refine r_atS (.inr (.inl hlt)) rfl ?_
        refine w_mkFac ?_
        walk_at "go"
        refine r_facP T ?_
        walk_at "go"
        refine r_atS (.inr (.inl hlt)) rfl ?_
        refine ⟨_, _, hFac, ?_⟩
        walk_at "go"
        refine ⟨[.int 1], by simp, .cons (.int _) .nil, fun z15 G15 e15 hz15 => ?_⟩
        refine r_catAD (Da.up e15 hx) hz15 (by have := pw.n5; simp; omega) fun z16 G16 e16 hz16 => ?_
        have ee := e15.trans e16
        have hlt := ee _ _ hlt
        have hFac := fac_up ee hFac
        have hx := Da.up ee hx
        have hy := Da.up ee hy
        have ho16 := hd_up ee ho14
        walk_at "go"
        refine r_facW T ?_
        walk_at "go"
        refine r_atS (.inr (.inl hlt)) rfl ?_
        refine ⟨_, _, hFac, ?_⟩
        walk_at "go"
        refine ⟨_, _, rfl, fun vF2 G17 e17 hF17 => ?_⟩
        have hlt := e17 _ _ hlt
        have hFac := fac_up e17 hFac
        have hx := Da.up e17 hx
        have hy := Da.up e17 hy
        have ho17 := hd_up e17 ho16
        refine r_ownEq (fac_ins hFac) (fac_ins hF17) ?_
        refine f_p ⟨_, _, x, y, _, y, _, _, _, _, rfl, hFac, hF17, hx, hy, Da.up e17 hz16, hy, shp_tup Pt, shp_tup Wt, shp_app1 Pt, shp_tup Wt, rfl⟩ fun v18 G18 e18 hv18 => ?_
        subst hv18
        rw [show (PyData.eqv (.tuple (Pt.map F.dat)) (.tuple (Pt.map F.dat ++ [.int 1])) && PyData.eqv (.tuple (Wt.map F.dat)) (.tuple (Wt.map F.dat))) = false by rw [PyData.eqv, eqv_app1]; rfl]
        have hlt := e18 _ _ hlt
        have hFac := fac_up e18 hFac
        have hx := Da.up e18 hx
        have hy := Da.up e18 hy
        have ho18 := hd_up e18 ho17
        walk_at "go"
        refine r_facP T ?_
        walk_at "go"
        refine r_atS (.inr (.inl hlt)) rfl ?_
        refine ⟨_, _, hFac, ?_⟩
        walk_at "go"
        refine r_facW T ?_
        walk_at "go"
        refine r_atS (.inr (.inl hlt)) rfl ?_
        refine ⟨_, _, hFac, ?_⟩
        walk_at "go"
        have ee : Ex G7 G18 := e8.trans (e9.trans (e10.trans (e11.trans (e12.trans (e13.trans (e14.trans (e15.trans (e16.trans (e17.trans e18)))))))))
        refine f_h ho18 ⟨F, n, m, ps, vf, v0, vp, v1, v2, x, y, us1, us2, Pt, Wt, rfl, fld_up ee hf, pic_up ee hp, Da.up ee hv0, ro_up ee h1, ro_up ee h2, l1, l2, b1, hx, hy, hPl, hWl, bP, bW, hsc, rfl⟩ fun v19 G19 o19 e19 ho19 hk => ?_
        obtain rfl : v19 = .bl true := hk
        walk_at "go"
        exact ⟨_, _, _, rfl, rfl, ho19⟩
    rintro σ' G8 O8 e8 ⟨u13, u14, o8, rfl, rfl, ho8⟩
    walk_at "go"
    walk_at "if"
    · intro _
      walk_at "go"
      exact ⟨_, rfl, ho8, rfl⟩
    · intro _
      walk_at "go"
      exact f_h ho8 ⟨F, n, m, ps, vf, vp, v1, v2, _, _, us1, us2, rfl, fld_up e8 hf, pic_up e8 hp, ro_up e8 h1, ro_up e8 h2, l1, l2, b1, b2, Da.up e8 hours, Da.up e8 htheirs, rfl⟩ fun v G o e ho hk => ⟨_, rfl, ho, hk⟩
end
/-! text U4 -/
theorem putU_bd {F : Fk} {B N : Nat} {os : List Nat} {ws : List F.U} (hw : ∀ k, F.bd B (ws.getD k 1)) (i : Nat) : allBd F B (putU os ws N i) := by
  induction i with
  | zero =>
    intro u hu
    have : putU os ws N 0 = List.replicate N 1 := rfl
    rw [this] at hu
    rw [(List.mem_replicate.mp hu).2]
    exact Fk.bd_mono Fk.bd_one (Nat.zero_le _)
  | succ i ih =>
    intro u hu
    rw [putU_succ] at hu
    rcases List.mem_or_eq_of_mem_set hu with z | z
    · exact ih u z
    · rw [z]; exact hw i
theorem plain_bd {F : Fk} {n m : Nat} {ps : List (Nat × Nat)} {us : List F.U} (pw : PW n m ps) (hl : us.length = ps.length) (hb : allBd F 16 us) : allBd F 1900 (plain n m ps us) := by
  refine putU_bd (fun k => ?_) _
  by_cases hk : k < (oth n m ps).length
  · rw [worths_get hk]
    refine Fk.bd_mono (bd_worth (N := us.length) hb (btour_small pw hk)) ?_
    have := pw.len
    rw [hl]; omega
  · have : (worths n m ps us).getD k 1 = 1 := by
      rw [List.getD_eq_getElem?_getD, List.getElem?_eq_none (by simp [worths]; omega)]; rfl
    rw [this]
    exact Fk.bd_mono Fk.bd_one (Nat.zero_le _)
section
variable {P : Program} {w : World} {K : PySem.W.Frag} {mg : Str → Option Value} {base : Heap}
/-- the told-function, its field not named ahead -/
def R_plain_toldE (K : PySem.W.Frag) : Rel := fun ws G post => ∃ F : Fk, R_plain_told K F ws G post
theorem cal_plain_toldE (T : Txt K mg) : C8.Cal P w K mg base 9 "_law_plain_told" (Fn (SP (R_plain_toldE K))) [] := by
  refine cal_by T.d_law_plain_told sc_law_plain_told (fun vs G O R h => ?_) (fun f cdv A outer s H vs G O R E hr h => ?_)
  · obtain ⟨_, _, ⟨_, _, _, _, _, _, _, _, rfl, _⟩, _⟩ := h; rfl
  · obtain ⟨rfl, post, ⟨F, n, m, ps, vf, vp, v1, d, rfl, hf, hp, hd, hb, rfl⟩, rfl⟩ := h
    refine ⟨_, (pss_one (ps_tryAsK K rfl (i := 3) (Wout := fun _ _ _ _ => False) rfl rfl sc_law_plain_told.nd rfl rfl ⟨rfl, by decide, Or.inl T.g_BadTable⟩ takes0
      (fun W pn xe tk _ => (pss_one (ps_ret (pe_lst (pa_cons pe_str (pa_cons (pe_cX (calX_plain_form T F) hr (by omega) rfl tk (pa_cons (pv 0) (pa_cons (pv 1) (pa_cons (pv 2) pa_nil)))) pa_nil))))))
      (fun a oe cls d pn hz hf => (pss_one (ps_ret (pe_lst (pa_cons pe_str (pa_cons (pe_xf T.xf_BadTable T.na_BadTable_index hz hf (pv 3)) pa_nil)))))))), ?_⟩
    show WS _ [some (vf), some (vp), some (v1), none] _ _ _
    refine ws_tryAsB (RX := RXT K (fpl F d ps.length)) (fun Wq => ?_) (fun cl dd G3 O3 e3 rx => ?_)
    · refine wsx_ret (wx_lstG (wx_cons (wx_of (w_c (wx_cons (wx_callX rfl (wx_of ?_)))))))
      walk_at "go"
      refine ⟨_, _, ⟨rfl, n, m, ps, vf, vp, v1, d, rfl, hf, hp, hd, hb, rfl, rfl⟩, fun v3 G3 A3 e3 ⟨hA, us, h1, h2, h3⟩ => ?_, fun c dd G3 A3 e3 ⟨h1, h2⟩ => ⟨by rw [h1]; rfl, h2⟩⟩
      subst hA
      refine wx_nil ⟨by rw [sizeLine_eq]; simp, fun l G4 e4 hl => ⟨rfl, .inl ⟨l, v3, rfl, hl, us, h1, h2, Da.up e4 h3⟩⟩⟩
    · obtain ⟨hO, i, a, hi, hsm, rfl, rfl, hg⟩ := rx
      subst hO
      refine ⟨T.xm_BadTable, fun a' => ?_⟩
      refine ws_ret (w_lstD (w_cons (w_c (w_cons (w_xf (w_var rfl ⟨rfl, rfl, _, _, _, rfl, hg, rfl, ?_⟩))))))
      exact w_nil ⟨[.str "table", .int i], by simp, .cons (.str _) (.cons (.int _) .nil), fun x G4 e4 hx => ⟨rfl, .inr ⟨i, hi, hx⟩⟩⟩
theorem sc_law : FnScope ["_law_script", "_law_hand_here", "_law_prime_here", "_law_field_here", "_law_picture_here", "_law_made_here", "_law_one_here", "_law_turn", "_law_other", "_law_told"] ["_law_script"] (defScope s_law) := ⟨rfl, rfl, rfl, by decide +kernel, rfl, by decide +kernel, by decide +kernel⟩
def S_law (K : PySem.W.Frag) : Sg := fun vs G O R => O = [] ∧ ∃ (a : Addr) (ns : List Int), vs = [.ref a] ∧ SqL K G a (ns.map V.int) ∧ ns.length ≤ 63 ∧ R = fun v _ _ => v = .bl true
theorem fn_law (T : Txt K mg) {f : Addr} {fd : FuncData} (F : L2.Fun K "law" "law" s_law f fd) : FnOk P w K mg base CX0 13 f fd ["_law_script"] (Fn (S_law K)) := by
  refine fn_by F sc_law (fun vs G O R h => ?_) (fun cdv A outer s H vs G O R E hr h => ?_)
  · obtain ⟨_, _, _, rfl, _⟩ := h; rfl
  · obtain ⟨rfl, a, ns, rfl, hS, hn, rfl⟩ := h
    refine ⟨_, (pss_cons (ps_set (i := 1) sc_law.nd rfl (Or.inl rfl) (C8.pe_c (cal_law_hand T) hr (by omega) rfl (pa_cons (pv 0) pa_nil)))
    (pss_cons (ps_set (i := 2) sc_law.nd rfl (Or.inl rfl) (C8.pe_c (cal_law_field T) hr (by omega) rfl (pa_cons (pv 1) pa_nil)))
    (pss_cons (ps_set (i := 3) sc_law.nd rfl (Or.inl rfl) (C8.pe_c (cal_law_made_field T) hr (by omega) rfl (pa_cons (pv 2) pa_nil)))
    (pss_cons (ps_set (i := 4) sc_law.nd rfl (Or.inl rfl) (C8.pe_c (cal_law_picture T) hr (by omega) rfl (pa_cons (pv 1) (pa_cons pe_int pa_nil))))
    (pss_cons (ps_set (i := 5) sc_law.nd rfl (Or.inl rfl) (C8.pe_c (cal_law_made T) hr (by omega) rfl (pa_cons (pv 1) (pa_cons (pv 4) pa_nil))))
    (pss_cons (ps_set (i := 6) sc_law.nd rfl (Or.inl rfl) (C8.pe_c (cal_law_table T) hr (by omega) rfl (pa_cons (pv 1) (pa_cons (pv 2) (pa_cons (pe_callB (lenK K rfl) rfl T.b_len PySem.boot_len (pa_cons (pe_ix (ixK K rfl) (pv 4) pe_int (fun _ _ => rfl)) pa_nil)) pa_nil)))))
    (pss_cons (ps_for PassesOwn.never rfl (pi_range1 rfl T.b_range (pa_cons pe_int pa_nil)) (pg_name (i := 7) sc_law.nd rfl (Or.inl rfl))
      (pss_cons (ps_set (i := 8) sc_law.nd rfl (Or.inl rfl) (C8.pe_c (cal_law_second_table T) hr (by omega) rfl (pa_cons (pv 1) (pa_cons (pv 2) (pa_cons (pv 4) (pa_cons (pv 6) pa_nil))))))
      (pss_cons (ps_if (pt_not (pt_val (C8.pe_c (cal_law_verdict_holds T) hr (by omega) rfl (pa_cons (pv 1) (pa_cons (pv 3) (pa_cons (pv 2) (pa_cons (pv 4) (pa_cons (pv 5) (pa_cons (pv 6) (pa_cons (pv 8) (pa_cons (pe_cmpR op_eq (pv 7) pe_int (nomark _)) pa_nil)))))))))))
        (pss_one (ps_ret pe_bl))
        pss_nil)
      (pss_cons (ps_set (i := 9) sc_law.nd rfl (Or.inl rfl) (C8.pe_c (cal_plain_toldE T) hr (by omega) rfl (pa_cons (pv 3) (pa_cons (pv 5) (pa_cons (C8.pe_c (cal_law_given T) hr (by omega) rfl (pa_cons (pv 1) (pa_cons (pv 8) pa_nil))) pa_nil)))))
      (pss_one (ps_if (PW.pt (pw_or (pt_cmpR op_ne (pe_ix (ixK K rfl) (pv 9) pe_int (fun _ _ => rfl)) pe_str (nomark _)) (pw_or1 (pt_not (pt_val (C8.pe_c (cal_law_same_row T) hr (by omega) rfl (pa_cons (pv 2) (pa_cons (pe_ix (ixK K rfl) (pv 9) pe_int (fun _ _ => rfl)) (pa_cons (C8.pe_c (cal_law_plain T) hr (by omega) rfl (pa_cons (pv 2) (pa_cons (pv 4) (pa_cons (pv 8) pa_nil)))) pa_nil)))))))))
        (pss_one (ps_ret pe_bl))
        pss_nil))))))
    (pss_one (ps_ret (C8.pe_c (cal_law_refusals_hold T) hr (by omega) rfl (pa_cons (pv 1) (pa_cons (pv 3) (pa_cons (pv 2) (pa_cons (pv 5) (pa_cons (pv 6) (pa_cons (pv 8) pa_nil)))))))))))))))), ?_⟩
    show WS _ [some (.ref a), none, none, none, none, none, none, none, none, none] _ _ _
    walk_at "go"
    refine f_own ⟨rfl, a, ns, rfl, hS, hn, rfl⟩ fun v1 G1 A1 e1 ⟨h, o, ev, eA, ho⟩ => ?_
    subst ev eA
    show WS _ _ _ [(h, o)] _
    walk_at "go"
    refine f_h ho ⟨rfl, rfl⟩ fun v2 G2 o2 e2 ho2 hk => ?_
    obtain ⟨F, rfl⟩ := hk
    walk_at "go"
    refine f_p ⟨F, rfl, rfl⟩ fun vf G3 e3 hf => ?_
    have ho3 := hd_up e3 ho2
    walk_at "go"
    refine f_h ho3 ⟨rfl, rfl⟩ fun v0 G4 o4 e4 ho4 hk => ?_
    obtain ⟨n, m, ps, pw, hv0⟩ := hk
    have hf := fld_up e4 hf
    walk_at "go"
    refine f_h ho4 ⟨n, m, ps, v0, rfl, pw, hv0, rfl⟩ fun vp G5 o5 e5 ho5 hp => ?_
    have hf := fld_up e5 hf
    have hv0 := Da.up e5 hv0
    have l25 := pw.len
    walk_at "go"
    refine r_atD (j := 2) (.inl hv0) rfl rfl fun vq hq => ?_
    walk_at "go"
    refine r_lenD (.inl hq) ?_
    rw [List.length_map]
    walk_at "go"
    refine f_h ho5 ⟨F, ps.length, rfl, by omega, rfl⟩ fun v1 G6 o6 e6 ho6 hk => ?_
    obtain ⟨us1, l1, h1, b1⟩ := hk
    have hf := fld_up e6 hf
    have hv0 := Da.up e6 hv0
    have hp : PicOk K n m ps G6 vp := pic_up e6 hp
    refine ws_seq ?_
    refine ws_for (i_range1 ?_)
    walk_at "go"
    refine ⟨by decide, by decide, _, _, wk_range0, fun i σ G' O' => ∃ (u7 u8 u9 : Option V) (o' : HO) (v2 : V) (us2 : List F.U), σ = [some (.ref a), some (.ref h), some (.int (F.p : Int)), some vf, some v0, some vp, some v1, u7, u8, u9] ∧ O' = [(h, o')] ∧ HdOk G' o' ∧ (0 < i → u8 = some v2 ∧ us2.length = ps.length ∧ Da G' [] v2 (.list (us2.map F.dat)) ∧ allBd F 16 us2), ⟨_, _, _, _, .non, [], rfl, rfl, ho6, fun z => by omega⟩, ?_, ?_⟩
    · rintro i x σ' G7 O' hi e7 ⟨u7, u8, u9, o7, _, _, rfl, rfl, ho7, _⟩ G8 e8 rfl
      have ee := e7.trans e8
      have hf := fld_up ee hf
      have hp := pic_up ee hp
      have hv0 := Da.up ee hv0
      have h1 := Da.up ee h1
      have ho8 := hd_up e8 ho7
      walk_at "go"
      refine f_h ho8 ⟨F, n, m, ps, us1, v0, v1, rfl, pw, hv0, h1, l1, b1, rfl⟩ fun v2 G9 o9 e9 ho9 hk => ?_
      obtain ⟨us2, l2, h2, b2⟩ := hk
      have hf := fld_up e9 hf
      have hp := pic_up e9 hp
      have hv0 := Da.up e9 hv0
      have h1 := Da.up e9 h1
      walk_at "go"
      refine f_h ho9 ⟨F, n, m, ps, vf, v0, vp, v1, v2, us1, us2, _, rfl, hf, hp, hv0, .inl h1, .inl h2, l1, l2, b1.mono (by decide), b2, rfl⟩ fun v3 G10 o10 e10 ho10 hk => ?_
      obtain rfl : v3 = .bl true := hk
      have hf := fld_up e10 hf
      have hp := pic_up e10 hp
      have hv0 := Da.up e10 hv0
      have h1 := Da.up e10 h1
      have h2 := Da.up e10 h2
      walk_at "go"
      refine f_h ho10 ⟨_, _, rfl, .inl h2, rfl⟩ fun v11 G11 o11 e11 ho11 hk => ?_
      have h11 : Ro F G11 v11 us2 := hk
      obtain ⟨d2, hd2, r2⟩ := ro_row h11
      walk_at "go"
      refine f_p ⟨F, n, m, ps, vf, vp, v11, d2, rfl, fld_up e11 hf, pic_up e11 hp, hd2, fun us h => by rw [row_inj h r2]; exact b2, rfl⟩ fun v12 G12 e12 hv12 => ?_
      rcases hv12 with ⟨lt, r, rfl, hlt, us2', q2, _, hr2⟩ | ⟨i, hi, _⟩
      rotate_left
      · rw [fpl_row r2 l2] at hi; cases hi
      rw [row_inj q2 r2] at hr2
      have ee := e11.trans e12
      have hv0 := Da.up ee hv0
      have h2 := Da.up ee h2
      have ho12 := hd_up e12 ho11
      walk_at "go"
      refine r_atS (.inr (.inl hlt)) rfl ?_
      walk_at "go"
      refine ⟨fun z => by simp at z, fun _ => ?_⟩
      walk_at "go"
      refine r_atS (.inr (.inl hlt)) rfl ?_
      walk_at "go"
      refine f_p ⟨F, n, m, ps, us2, v0, v2, rfl, pw, hv0, .inl h2, l2, b2, rfl⟩ fun v13 G13 e13 hv13 => ?_
      walk_at "go"
      refine f_p ⟨F, r, v13, plain n m ps us2, rfl, Da.up e13 hr2, hv13, plain_bd pw l2 b2, by rw [plain, putU_len]; exact l25, rfl⟩ fun v14 G14 e14 hv14 => ?_
      subst hv14
      have ee := e13.trans e14
      walk_at "go"
      exact ⟨_, _, _, _, v2, us2, rfl, rfl, hd_up ee ho12, fun _ => ⟨rfl, l2, Da.up ee h2, b2⟩⟩
    · rintro σ' G7 O' e7 ⟨u7, u8, u9, o7, v2, us2, rfl, rfl, ho7, hh⟩
      obtain ⟨rfl, l2, h2, b2⟩ := hh (by decide)
      walk_at "go"
      exact f_h ho7 ⟨F, n, m, ps, vf, vp, v1, v2, us1, us2, rfl, fld_up e7 hf, pic_up e7 hp, .inl (Da.up e7 h1), .inl h2, l1, l2, b1.mono (by decide), b2, rfl⟩ fun v8 G8 o8 e8 ho8 hk => hk
end
end K6
/-! text V1 -/
set_option Elab.async false
set_option linter.all false
set_option maxRecDepth 100000
set_option maxHeartbeats 0
namespace K6
open PySem L2 K3 PySem.Spec PyProof.Rows
theorem exB_at {K : PySem.W.Frag} (c : exB K = true) (i : Nat) {b : Bool} (h : (exL K)[i]? = some b := by rfl) : b = true := List.all_eq_true.mp c b (List.mem_of_getElem? h)
theorem fun_of {K : PySem.W.Frag} {x qual : Str} {st : Stmt} {f : Addr} {fd : FuncData} (F : FunD K x qual (defArgs st) (defBody st) (defScope st) [] [] f fd) : L2.Fun K x qual st f fd := by
  obtain ⟨oc, od, dV, kV, doc, pm, an, cdv, ct, osl, e, lk, hc, hD, _⟩ := F.ex
  rcases hD with ⟨_, rfl⟩ | ⟨z, _⟩
  · exact ⟨⟨oc, od, kV, doc, pm, an, cdv, ct, osl, e, lk, hc⟩, F.kp⟩
  · exact absurd rfl z
section
variable {K : PySem.W.Frag} {mg : Str → Option Value} {h : Heap}
theorem def_of {x : Str} {st : Stmt} {ps : List Str} (X : K.In h) (G : h.Ns mainGlobals mg) (g : (He.Fa.glo x).ok K = true) (F : ∃ fd, FunD K x x (defArgs st) (defBody st) (defScope st) [] [] (ga K x) fd)
    (b : ∀ (kV doc pm : Value) (an : Option Addr) (cdv ct : Value) (us : List Value), us.length = ps.length → bindArgs (PySem.W.fnOf x x (defArgs st) (defBody st) (defScope st) .none kV doc pm an cdv ct) ⟨us, []⟩ = pure (ps.zip us)) : DefAt K mg x st ps := by
  obtain ⟨fd, F⟩ := F
  exact ⟨_, fd, fun_of F, He.glo_ok X G g, F.kp, F.bindsN b⟩
theorem mth_of {x qual : Str} {st : Stmt} {ps : List Str} {f : Addr} (F : ∃ fd, FunD K x qual (defArgs st) (defBody st) (defScope st) [] [] f fd)
    (b : ∀ (kV doc pm : Value) (an : Option Addr) (cdv ct : Value) (us : List Value), us.length = ps.length → bindArgs (PySem.W.fnOf x qual (defArgs st) (defBody st) (defScope st) .none kV doc pm an cdv ct) ⟨us, []⟩ = pure (ps.zip us)) : ∃ fd, L2.Fun K x qual st f fd ∧ Binds K fd ps [] := by
  obtain ⟨fd, F⟩ := F
  exact ⟨fd, fun_of F, F.bindsN b⟩
theorem tx_common_divisor (X : K.In h) (G : h.Ns mainGlobals mg) (c : He.SaysD faL fnL K) : DefAt K mg "common_divisor" s_common_divisor ["one", "other"] := def_of X G (c.fact 0 (f := .glo "common_divisor") rfl) (c.def_ 0 (d := dd_common_divisor) rfl) (fun _ _ _ _ _ _ us hl => match us, hl with | [_, _], _ => rfl)
theorem tx_power_of (X : K.In h) (G : h.Ns mainGlobals mg) (c : He.SaysD faL fnL K) : DefAt K mg "power_of" s_power_of ["base", "exponent"] := def_of X G (c.fact 1 (f := .glo "power_of") rfl) (c.def_ 1 (d := dd_power_of) rfl) (fun _ _ _ _ _ _ us hl => match us, hl with | [_, _], _ => rfl)
theorem tx_tree_places (X : K.In h) (G : h.Ns mainGlobals mg) (c : He.SaysD faL fnL K) : DefAt K mg "tree_places" s_tree_places ["picture"] := def_of X G (c.fact 2 (f := .glo "tree_places") rfl) (c.def_ 2 (d := dd_tree_places) rfl) (fun _ _ _ _ _ _ us hl => match us, hl with | [_], _ => rfl)
theorem tx_other_places (X : K.In h) (G : h.Ns mainGlobals mg) (c : He.SaysD faL fnL K) : DefAt K mg "other_places" s_other_places ["picture"] := def_of X G (c.fact 3 (f := .glo "other_places") rfl) (c.def_ 3 (d := dd_other_places) rfl) (fun _ _ _ _ _ _ us hl => match us, hl with | [_], _ => rfl)
theorem tx_completed_tour (X : K.In h) (G : h.Ns mainGlobals mg) (c : He.SaysD faL fnL K) : DefAt K mg "completed_tour" s_completed_tour ["picture", "tree", "numbers"] := def_of X G (c.fact 4 (f := .glo "completed_tour") rfl) (c.def_ 4 (d := dd_completed_tour) rfl) (fun _ _ _ _ _ _ us hl => match us, hl with | [_, _, _], _ => rfl)
theorem tx_meets_end (X : K.In h) (G : h.Ns mainGlobals mg) (c : He.SaysD faL fnL K) : DefAt K mg "meets_end" s_meets_end ["pair", "end"] := def_of X G (c.fact 5 (f := .glo "meets_end") rfl) (c.def_ 5 (d := dd_meets_end) rfl) (fun _ _ _ _ _ _ us hl => match us, hl with | [_, _], _ => rfl)
theorem tx_loose_ends (X : K.In h) (G : h.Ns mainGlobals mg) (c : He.SaysD faL fnL K) : DefAt K mg "loose_ends" s_loose_ends ["picture", "left", "place"] := def_of X G (c.fact 6 (f := .glo "loose_ends") rfl) (c.def_ 6 (d := dd_loose_ends) rfl) (fun _ _ _ _ _ _ us hl => match us, hl with | [_, _, _], _ => rfl)
theorem tx_tour_of (X : K.In h) (G : h.Ns mainGlobals mg) (c : He.SaysD faL fnL K) : DefAt K mg "tour_of" s_tour_of ["picture", "row"] := def_of X G (c.fact 7 (f := .glo "tour_of") rfl) (c.def_ 7 (d := dd_tour_of) rfl) (fun _ _ _ _ _ _ us hl => match us, hl with | [_, _], _ => rfl)
theorem tx_basis_tours (X : K.In h) (G : h.Ns mainGlobals mg) (c : He.SaysD faL fnL K) : DefAt K mg "basis_tours" s_basis_tours ["picture"] := def_of X G (c.fact 8 (f := .glo "basis_tours") rfl) (c.def_ 8 (d := dd_basis_tours) rfl) (fun _ _ _ _ _ _ us hl => match us, hl with | [_], _ => rfl)
theorem tx_is_prime (X : K.In h) (G : h.Ns mainGlobals mg) (c : He.SaysD faL fnL K) : DefAt K mg "is_prime" s_is_prime ["number"] := def_of X G (c.fact 9 (f := .glo "is_prime") rfl) (c.def_ 9 (d := dd_is_prime) rfl) (fun _ _ _ _ _ _ us hl => match us, hl with | [_], _ => rfl)
theorem tx_rest_power (X : K.In h) (G : h.Ns mainGlobals mg) (c : He.SaysD faL fnL K) : DefAt K mg "rest_power" s_rest_power ["number", "exponent", "prime"] := def_of X G (c.fact 10 (f := .glo "rest_power") rfl) (c.def_ 10 (d := dd_rest_power) rfl) (fun _ _ _ _ _ _ us hl => match us, hl with | [_, _, _], _ => rfl)
theorem tx_lowest_terms (X : K.In h) (G : h.Ns mainGlobals mg) (c : He.SaysD faL fnL K) : DefAt K mg "lowest_terms" s_lowest_terms ["top", "bottom"] := def_of X G (c.fact 11 (f := .glo "lowest_terms") rfl) (c.def_ 11 (d := dd_lowest_terms) rfl) (fun _ _ _ _ _ _ us hl => match us, hl with | [_, _], _ => rfl)
theorem tx_is_factor (X : K.In h) (G : h.Ns mainGlobals mg) (c : He.SaysD faL fnL K) : DefAt K mg "is_factor" s_is_factor ["field", "thing"] := def_of X G (c.fact 12 (f := .glo "is_factor") rfl) (c.def_ 12 (d := dd_is_factor) rfl) (fun _ _ _ _ _ _ us hl => match us, hl with | [_, _], _ => rfl)
theorem tx_factors_place (X : K.In h) (G : h.Ns mainGlobals mg) (c : He.SaysD faL fnL K) : DefAt K mg "factors_place" s_factors_place ["field", "things", "many"] := def_of X G (c.fact 13 (f := .glo "factors_place") rfl) (c.def_ 13 (d := dd_factors_place) rfl) (fun _ _ _ _ _ _ us hl => match us, hl with | [_, _, _], _ => rfl)
theorem tx_check_table (X : K.In h) (G : h.Ns mainGlobals mg) (c : He.SaysD faL fnL K) : DefAt K mg "check_table" s_check_table ["field", "picture", "table"] := def_of X G (c.fact 14 (f := .glo "check_table") rfl) (c.def_ 14 (d := dd_check_table) rfl) (fun _ _ _ _ _ _ us hl => match us, hl with | [_, _, _], _ => rfl)
theorem tx_plain_worth (X : K.In h) (G : h.Ns mainGlobals mg) (c : He.SaysD faL fnL K) : DefAt K mg "plain_worth" s_plain_worth ["field", "table", "tour"] := def_of X G (c.fact 15 (f := .glo "plain_worth") rfl) (c.def_ 15 (d := dd_plain_worth) rfl) (fun _ _ _ _ _ _ us hl => match us, hl with | [_, _, _], _ => rfl)
theorem tx_basis_worths (X : K.In h) (G : h.Ns mainGlobals mg) (c : He.SaysD faL fnL K) : DefAt K mg "basis_worths" s_basis_worths ["field", "picture", "table"] := def_of X G (c.fact 16 (f := .glo "basis_worths") rfl) (c.def_ 16 (d := dd_basis_worths) rfl) (fun _ _ _ _ _ _ us hl => match us, hl with | [_, _, _], _ => rfl)
theorem tx_scaled_table (X : K.In h) (G : h.Ns mainGlobals mg) (c : He.SaysD faL fnL K) : DefAt K mg "scaled_table" s_scaled_table ["field", "picture", "table", "point_factors", "wall_factors"] := def_of X G (c.fact 17 (f := .glo "scaled_table") rfl) (c.def_ 17 (d := dd_scaled_table) rfl) (fun _ _ _ _ _ _ us hl => match us, hl with | [_, _, _, _, _], _ => rfl)
theorem tx_table_of (X : K.In h) (G : h.Ns mainGlobals mg) (c : He.SaysD faL fnL K) : DefAt K mg "table_of" s_table_of ["field", "picture", "numbers"] := def_of X G (c.fact 18 (f := .glo "table_of") rfl) (c.def_ 18 (d := dd_table_of) rfl) (fun _ _ _ _ _ _ us hl => match us, hl with | [_, _, _], _ => rfl)
theorem tx_spread_factors (X : K.In h) (G : h.Ns mainGlobals mg) (c : He.SaysD faL fnL K) : DefAt K mg "spread_factors" s_spread_factors ["field", "picture", "quotients", "points", "walls"] := def_of X G (c.fact 19 (f := .glo "spread_factors") rfl) (c.def_ 19 (d := dd_spread_factors) rfl) (fun _ _ _ _ _ _ us hl => match us, hl with | [_, _, _, _, _], _ => rfl)
theorem tx_same_figure (X : K.In h) (G : h.Ns mainGlobals mg) (c : He.SaysD faL fnL K) : DefAt K mg "same_figure" s_same_figure ["field", "picture", "one", "other"] := def_of X G (c.fact 20 (f := .glo "same_figure") rfl) (c.def_ 20 (d := dd_same_figure) rfl) (fun _ _ _ _ _ _ us hl => match us, hl with | [_, _, _, _], _ => rfl)
theorem tx_factors_fault (X : K.In h) (G : h.Ns mainGlobals mg) (c : He.SaysD faL fnL K) : DefAt K mg "factors_fault" s_factors_fault ["field", "picture", "one", "other", "factors"] := def_of X G (c.fact 21 (f := .glo "factors_fault") rfl) (c.def_ 21 (d := dd_factors_fault) rfl) (fun _ _ _ _ _ _ us hl => match us, hl with | [_, _, _, _, _], _ => rfl)
theorem tx_unlike_fault (X : K.In h) (G : h.Ns mainGlobals mg) (c : He.SaysD faL fnL K) : DefAt K mg "unlike_fault" s_unlike_fault ["field", "picture", "one", "other", "unlike"] := def_of X G (c.fact 22 (f := .glo "unlike_fault") rfl) (c.def_ 22 (d := dd_unlike_fault) rfl) (fun _ _ _ _ _ _ us hl => match us, hl with | [_, _, _, _, _], _ => rfl)
theorem tx_same_numbers (X : K.In h) (G : h.Ns mainGlobals mg) (c : He.SaysD faL fnL K) : DefAt K mg "same_numbers" s_same_numbers ["field", "thing", "number"] := def_of X G (c.fact 23 (f := .glo "same_numbers") rfl) (c.def_ 23 (d := dd_same_numbers) rfl) (fun _ _ _ _ _ _ us hl => match us, hl with | [_, _, _], _ => rfl)
theorem tx_plain_form (X : K.In h) (G : h.Ns mainGlobals mg) (c : He.SaysD faL fnL K) : DefAt K mg "plain_form" s_plain_form ["field", "picture", "table"] := def_of X G (c.fact 24 (f := .glo "plain_form") rfl) (c.def_ 24 (d := dd_plain_form) rfl) (fun _ _ _ _ _ _ us hl => match us, hl with | [_, _, _], _ => rfl)
theorem tx_is_couple (X : K.In h) (G : h.Ns mainGlobals mg) (c : He.SaysD faL fnL K) : DefAt K mg "is_couple" s_is_couple ["points", "walls", "thing"] := def_of X G (c.fact 25 (f := .glo "is_couple") rfl) (c.def_ 25 (d := dd_is_couple) rfl) (fun _ _ _ _ _ _ us hl => match us, hl with | [_, _, _], _ => rfl)
theorem tx_law_mixed (X : K.In h) (G : h.Ns mainGlobals mg) (c : He.SaysD faL fnL K) : DefAt K mg "_law_mixed" s_law_mixed ["_law_number_here", "_law_turn"] := def_of X G (c.fact 26 (f := .glo "_law_mixed") rfl) (c.def_ 26 (d := dd_law_mixed) rfl) (fun _ _ _ _ _ _ us hl => match us, hl with | [_, _], _ => rfl)
theorem tx_law_hand (X : K.In h) (G : h.Ns mainGlobals mg) (c : He.SaysD faL fnL K) : DefAt K mg "_law_hand" s_law_hand ["_law_script"] := def_of X G (c.fact 27 (f := .glo "_law_hand") rfl) (c.def_ 27 (d := dd_law_hand) rfl) (fun _ _ _ _ _ _ us hl => match us, hl with | [_], _ => rfl)
theorem tx_law_draw (X : K.In h) (G : h.Ns mainGlobals mg) (c : He.SaysD faL fnL K) : DefAt K mg "_law_draw" s_law_draw ["_law_hand_here", "_law_many"] := def_of X G (c.fact 28 (f := .glo "_law_draw") rfl) (c.def_ 28 (d := dd_law_draw) rfl) (fun _ _ _ _ _ _ us hl => match us, hl with | [_, _], _ => rfl)
theorem tx_law_whole (X : K.In h) (G : h.Ns mainGlobals mg) (c : He.SaysD faL fnL K) : DefAt K mg "_law_whole" s_law_whole ["_law_thing"] := def_of X G (c.fact 29 (f := .glo "_law_whole") rfl) (c.def_ 29 (d := dd_law_whole) rfl) (fun _ _ _ _ _ _ us hl => match us, hl with | [_], _ => rfl)
theorem tx_law_given (X : K.In h) (G : h.Ns mainGlobals mg) (c : He.SaysD faL fnL K) : DefAt K mg "_law_given" s_law_given ["_law_hand_here", "_law_things"] := def_of X G (c.fact 30 (f := .glo "_law_given") rfl) (c.def_ 30 (d := dd_law_given) rfl) (fun _ _ _ _ _ _ us hl => match us, hl with | [_, _], _ => rfl)
theorem tx_law_divisor (X : K.In h) (G : h.Ns mainGlobals mg) (c : He.SaysD faL fnL K) : DefAt K mg "_law_divisor" s_law_divisor ["_law_one_here", "_law_other"] := def_of X G (c.fact 31 (f := .glo "_law_divisor") rfl) (c.def_ 31 (d := dd_law_divisor) rfl) (fun _ _ _ _ _ _ us hl => match us, hl with | [_, _], _ => rfl)
theorem tx_law_lowest (X : K.In h) (G : h.Ns mainGlobals mg) (c : He.SaysD faL fnL K) : DefAt K mg "_law_lowest" s_law_lowest ["_law_top", "_law_bottom"] := def_of X G (c.fact 32 (f := .glo "_law_lowest") rfl) (c.def_ 32 (d := dd_law_lowest) rfl) (fun _ _ _ _ _ _ us hl => match us, hl with | [_, _], _ => rfl)
theorem tx_law_prime (X : K.In h) (G : h.Ns mainGlobals mg) (c : He.SaysD faL fnL K) : DefAt K mg "_law_prime" s_law_prime ["_law_number_here"] := def_of X G (c.fact 33 (f := .glo "_law_prime") rfl) (c.def_ 33 (d := dd_law_prime) rfl) (fun _ _ _ _ _ _ us hl => match us, hl with | [_], _ => rfl)
theorem tx_law_next_prime (X : K.In h) (G : h.Ns mainGlobals mg) (c : He.SaysD faL fnL K) : DefAt K mg "_law_next_prime" s_law_next_prime ["_law_number_here"] := def_of X G (c.fact 34 (f := .glo "_law_next_prime") rfl) (c.def_ 34 (d := dd_law_next_prime) rfl) (fun _ _ _ _ _ _ us hl => match us, hl with | [_], _ => rfl)
theorem tx_law_field (X : K.In h) (G : h.Ns mainGlobals mg) (c : He.SaysD faL fnL K) : DefAt K mg "_law_field" s_law_field ["_law_hand_here"] := def_of X G (c.fact 35 (f := .glo "_law_field") rfl) (c.def_ 35 (d := dd_law_field) rfl) (fun _ _ _ _ _ _ us hl => match us, hl with | [_], _ => rfl)
theorem tx_law_made_field (X : K.In h) (G : h.Ns mainGlobals mg) (c : He.SaysD faL fnL K) : DefAt K mg "_law_made_field" s_law_made_field ["_law_prime_here"] := def_of X G (c.fact 36 (f := .glo "_law_made_field") rfl) (c.def_ 36 (d := dd_law_made_field) rfl) (fun _ _ _ _ _ _ us hl => match us, hl with | [_], _ => rfl)
theorem tx_law_one (X : K.In h) (G : h.Ns mainGlobals mg) (c : He.SaysD faL fnL K) : DefAt K mg "_law_one" s_law_one ["_law_prime_here"] := def_of X G (c.fact 37 (f := .glo "_law_one") rfl) (c.def_ 37 (d := dd_law_one) rfl) (fun _ _ _ _ _ _ us hl => match us, hl with | [_], _ => rfl)
theorem tx_law_minus (X : K.In h) (G : h.Ns mainGlobals mg) (c : He.SaysD faL fnL K) : DefAt K mg "_law_minus" s_law_minus ["_law_prime_here"] := def_of X G (c.fact 38 (f := .glo "_law_minus") rfl) (c.def_ 38 (d := dd_law_minus) rfl) (fun _ _ _ _ _ _ us hl => match us, hl with | [_], _ => rfl)
theorem tx_law_times (X : K.In h) (G : h.Ns mainGlobals mg) (c : He.SaysD faL fnL K) : DefAt K mg "_law_times" s_law_times ["_law_prime_here", "_law_a", "_law_b"] := def_of X G (c.fact 39 (f := .glo "_law_times") rfl) (c.def_ 39 (d := dd_law_times) rfl) (fun _ _ _ _ _ _ us hl => match us, hl with | [_, _, _], _ => rfl)
theorem tx_law_power (X : K.In h) (G : h.Ns mainGlobals mg) (c : He.SaysD faL fnL K) : DefAt K mg "_law_power" s_law_power ["_law_prime_here", "_law_a", "_law_exponent"] := def_of X G (c.fact 40 (f := .glo "_law_power") rfl) (c.def_ 40 (d := dd_law_power) rfl) (fun _ _ _ _ _ _ us hl => match us, hl with | [_, _, _], _ => rfl)
theorem tx_law_number (X : K.In h) (G : h.Ns mainGlobals mg) (c : He.SaysD faL fnL K) : DefAt K mg "_law_number" s_law_number ["_law_hand_here", "_law_prime_here"] := def_of X G (c.fact 41 (f := .glo "_law_number") rfl) (c.def_ 41 (d := dd_law_number) rfl) (fun _ _ _ _ _ _ us hl => match us, hl with | [_, _], _ => rfl)
theorem tx_law_is_number (X : K.In h) (G : h.Ns mainGlobals mg) (c : He.SaysD faL fnL K) : DefAt K mg "_law_is_number" s_law_is_number ["_law_prime_here", "_law_thing"] := def_of X G (c.fact 42 (f := .glo "_law_is_number") rfl) (c.def_ 42 (d := dd_law_is_number) rfl) (fun _ _ _ _ _ _ us hl => match us, hl with | [_, _], _ => rfl)
theorem tx_law_same (X : K.In h) (G : h.Ns mainGlobals mg) (c : He.SaysD faL fnL K) : DefAt K mg "_law_same" s_law_same ["_law_prime_here", "_law_thing", "_law_due"] := def_of X G (c.fact 43 (f := .glo "_law_same") rfl) (c.def_ 43 (d := dd_law_same) rfl) (fun _ _ _ _ _ _ us hl => match us, hl with | [_, _, _], _ => rfl)
theorem tx_law_same_row (X : K.In h) (G : h.Ns mainGlobals mg) (c : He.SaysD faL fnL K) : DefAt K mg "_law_same_row" s_law_same_row ["_law_prime_here", "_law_thing", "_law_due"] := def_of X G (c.fact 44 (f := .glo "_law_same_row") rfl) (c.def_ 44 (d := dd_law_same_row) rfl) (fun _ _ _ _ _ _ us hl => match us, hl with | [_, _, _], _ => rfl)
theorem tx_law_odd (X : K.In h) (G : h.Ns mainGlobals mg) (c : He.SaysD faL fnL K) : DefAt K mg "_law_odd" s_law_odd ["_law_hand_here", "_law_prime_here"] := def_of X G (c.fact 45 (f := .glo "_law_odd") rfl) (c.def_ 45 (d := dd_law_odd) rfl) (fun _ _ _ _ _ _ us hl => match us, hl with | [_, _], _ => rfl)
theorem tx_law_picture (X : K.In h) (G : h.Ns mainGlobals mg) (c : He.SaysD faL fnL K) : DefAt K mg "_law_picture" s_law_picture ["_law_hand_here", "_law_high"] := def_of X G (c.fact 46 (f := .glo "_law_picture") rfl) (c.def_ 46 (d := dd_law_picture) rfl) (fun _ _ _ _ _ _ us hl => match us, hl with | [_, _], _ => rfl)
theorem tx_law_tree (X : K.In h) (G : h.Ns mainGlobals mg) (c : He.SaysD faL fnL K) : DefAt K mg "_law_tree" s_law_tree ["_law_picture_here"] := def_of X G (c.fact 47 (f := .glo "_law_tree") rfl) (c.def_ 47 (d := dd_law_tree) rfl) (fun _ _ _ _ _ _ us hl => match us, hl with | [_], _ => rfl)
theorem tx_law_others (X : K.In h) (G : h.Ns mainGlobals mg) (c : He.SaysD faL fnL K) : DefAt K mg "_law_others" s_law_others ["_law_picture_here"] := def_of X G (c.fact 48 (f := .glo "_law_others") rfl) (c.def_ 48 (d := dd_law_others) rfl) (fun _ _ _ _ _ _ us hl => match us, hl with | [_], _ => rfl)
theorem tx_law_leaf (X : K.In h) (G : h.Ns mainGlobals mg) (c : He.SaysD faL fnL K) : DefAt K mg "_law_leaf" s_law_leaf ["_law_pairs", "_law_left"] := def_of X G (c.fact 49 (f := .glo "_law_leaf") rfl) (c.def_ 49 (d := dd_law_leaf) rfl) (fun _ _ _ _ _ _ us hl => match us, hl with | [_, _], _ => rfl)
theorem tx_law_tour (X : K.In h) (G : h.Ns mainGlobals mg) (c : He.SaysD faL fnL K) : DefAt K mg "_law_tour" s_law_tour ["_law_picture_here", "_law_row"] := def_of X G (c.fact 50 (f := .glo "_law_tour") rfl) (c.def_ 50 (d := dd_law_tour) rfl) (fun _ _ _ _ _ _ us hl => match us, hl with | [_, _], _ => rfl)
theorem tx_law_basis (X : K.In h) (G : h.Ns mainGlobals mg) (c : He.SaysD faL fnL K) : DefAt K mg "_law_basis" s_law_basis ["_law_picture_here"] := def_of X G (c.fact 51 (f := .glo "_law_basis") rfl) (c.def_ 51 (d := dd_law_basis) rfl) (fun _ _ _ _ _ _ us hl => match us, hl with | [_], _ => rfl)
theorem tx_law_table (X : K.In h) (G : h.Ns mainGlobals mg) (c : He.SaysD faL fnL K) : DefAt K mg "_law_table" s_law_table ["_law_hand_here", "_law_prime_here", "_law_many"] := def_of X G (c.fact 52 (f := .glo "_law_table") rfl) (c.def_ 52 (d := dd_law_table) rfl) (fun _ _ _ _ _ _ us hl => match us, hl with | [_, _, _], _ => rfl)
theorem tx_law_worth (X : K.In h) (G : h.Ns mainGlobals mg) (c : He.SaysD faL fnL K) : DefAt K mg "_law_worth" s_law_worth ["_law_prime_here", "_law_table_here", "_law_tour_here"] := def_of X G (c.fact 53 (f := .glo "_law_worth") rfl) (c.def_ 53 (d := dd_law_worth) rfl) (fun _ _ _ _ _ _ us hl => match us, hl with | [_, _, _], _ => rfl)
theorem tx_law_scaled (X : K.In h) (G : h.Ns mainGlobals mg) (c : He.SaysD faL fnL K) : DefAt K mg "_law_scaled" s_law_scaled ["_law_prime_here", "_law_picture_here", "_law_table_here", "_law_points", "_law_shuts"] := def_of X G (c.fact 54 (f := .glo "_law_scaled") rfl) (c.def_ 54 (d := dd_law_scaled) rfl) (fun _ _ _ _ _ _ us hl => match us, hl with | [_, _, _, _, _], _ => rfl)
theorem tx_law_plain (X : K.In h) (G : h.Ns mainGlobals mg) (c : He.SaysD faL fnL K) : DefAt K mg "_law_plain" s_law_plain ["_law_prime_here", "_law_picture_here", "_law_table_here"] := def_of X G (c.fact 55 (f := .glo "_law_plain") rfl) (c.def_ 55 (d := dd_law_plain) rfl) (fun _ _ _ _ _ _ us hl => match us, hl with | [_, _, _], _ => rfl)
theorem tx_law_made (X : K.In h) (G : h.Ns mainGlobals mg) (c : He.SaysD faL fnL K) : DefAt K mg "_law_made" s_law_made ["_law_hand_here", "_law_picture_here"] := def_of X G (c.fact 56 (f := .glo "_law_made") rfl) (c.def_ 56 (d := dd_law_made) rfl) (fun _ _ _ _ _ _ us hl => match us, hl with | [_, _], _ => rfl)
theorem tx_law_factors (X : K.In h) (G : h.Ns mainGlobals mg) (c : He.SaysD faL fnL K) : DefAt K mg "_law_factors" s_law_factors ["_law_hand_here", "_law_prime_here", "_law_many"] := def_of X G (c.fact 57 (f := .glo "_law_factors") rfl) (c.def_ 57 (d := dd_law_factors) rfl) (fun _ _ _ _ _ _ us hl => match us, hl with | [_, _, _], _ => rfl)
theorem tx_law_moving (X : K.In h) (G : h.Ns mainGlobals mg) (c : He.SaysD faL fnL K) : DefAt K mg "_law_moving" s_law_moving ["_law_hand_here", "_law_prime_here"] := def_of X G (c.fact 58 (f := .glo "_law_moving") rfl) (c.def_ 58 (d := dd_law_moving) rfl) (fun _ _ _ _ _ _ us hl => match us, hl with | [_, _], _ => rfl)
theorem tx_law_second_table (X : K.In h) (G : h.Ns mainGlobals mg) (c : He.SaysD faL fnL K) : DefAt K mg "_law_second_table" s_law_second_table ["_law_hand_here", "_law_prime_here", "_law_picture_here", "_law_table_here"] := def_of X G (c.fact 59 (f := .glo "_law_second_table") rfl) (c.def_ 59 (d := dd_law_second_table) rfl) (fun _ _ _ _ _ _ us hl => match us, hl with | [_, _, _, _], _ => rfl)
theorem tx_law_same_told (X : K.In h) (G : h.Ns mainGlobals mg) (c : He.SaysD faL fnL K) : DefAt K mg "_law_same_told" s_law_same_told ["_law_field_here", "_law_made_here", "_law_one_here", "_law_other"] := def_of X G (c.fact 60 (f := .glo "_law_same_told") rfl) (c.def_ 60 (d := dd_law_same_told) rfl) (fun _ _ _ _ _ _ us hl => match us, hl with | [_, _, _, _], _ => rfl)
theorem tx_law_leads (X : K.In h) (G : h.Ns mainGlobals mg) (c : He.SaysD faL fnL K) : DefAt K mg "_law_leads" s_law_leads ["_law_prime_here", "_law_picture_here", "_law_one_here", "_law_other", "_law_told"] := def_of X G (c.fact 61 (f := .glo "_law_leads") rfl) (c.def_ 61 (d := dd_law_leads) rfl) (fun _ _ _ _ _ _ us hl => match us, hl with | [_, _, _, _, _], _ => rfl)
theorem tx_law_other_factors (X : K.In h) (G : h.Ns mainGlobals mg) (c : He.SaysD faL fnL K) : DefAt K mg "_law_other_factors" s_law_other_factors ["_law_hand_here", "_law_prime_here", "_law_picture_here", "_law_points", "_law_shuts"] := def_of X G (c.fact 62 (f := .glo "_law_other_factors") rfl) (c.def_ 62 (d := dd_law_other_factors) rfl) (fun _ _ _ _ _ _ us hl => match us, hl with | [_, _, _, _, _], _ => rfl)
theorem tx_law_wrong_row (X : K.In h) (G : h.Ns mainGlobals mg) (c : He.SaysD faL fnL K) : DefAt K mg "_law_wrong_row" s_law_wrong_row ["_law_hand_here", "_law_prime_here", "_law_row"] := def_of X G (c.fact 63 (f := .glo "_law_wrong_row") rfl) (c.def_ 63 (d := dd_law_wrong_row) rfl) (fun _ _ _ _ _ _ us hl => match us, hl with | [_, _, _], _ => rfl)
theorem tx_law_factors_judged (X : K.In h) (G : h.Ns mainGlobals mg) (c : He.SaysD faL fnL K) : DefAt K mg "_law_factors_judged" s_law_factors_judged ["_law_hand_here", "_law_field_here", "_law_prime_here", "_law_picture_here", "_law_made_here", "_law_one_here", "_law_other", "_law_points", "_law_shuts"] := def_of X G (c.fact 64 (f := .glo "_law_factors_judged") rfl) (c.def_ 64 (d := dd_law_factors_judged) rfl) (fun _ _ _ _ _ _ us hl => match us, hl with | [_, _, _, _, _, _, _, _, _], _ => rfl)
theorem tx_law_unlike_judged (X : K.In h) (G : h.Ns mainGlobals mg) (c : He.SaysD faL fnL K) : DefAt K mg "_law_unlike_judged" s_law_unlike_judged ["_law_hand_here", "_law_field_here", "_law_prime_here", "_law_made_here", "_law_one_here", "_law_other", "_law_ours", "_law_theirs"] := def_of X G (c.fact 65 (f := .glo "_law_unlike_judged") rfl) (c.def_ 65 (d := dd_law_unlike_judged) rfl) (fun _ _ _ _ _ _ us hl => match us, hl with | [_, _, _, _, _, _, _, _], _ => rfl)
theorem tx_law_verdict_holds (X : K.In h) (G : h.Ns mainGlobals mg) (c : He.SaysD faL fnL K) : DefAt K mg "_law_verdict_holds" s_law_verdict_holds ["_law_hand_here", "_law_field_here", "_law_prime_here", "_law_picture_here", "_law_made_here", "_law_one_here", "_law_other", "_law_judged"] := def_of X G (c.fact 66 (f := .glo "_law_verdict_holds") rfl) (c.def_ 66 (d := dd_law_verdict_holds) rfl) (fun _ _ _ _ _ _ us hl => match us, hl with | [_, _, _, _, _, _, _, _], _ => rfl)
theorem tx_law_plain_told (X : K.In h) (G : h.Ns mainGlobals mg) (c : He.SaysD faL fnL K) : DefAt K mg "_law_plain_told" s_law_plain_told ["_law_field_here", "_law_made_here", "_law_table_here"] := def_of X G (c.fact 67 (f := .glo "_law_plain_told") rfl) (c.def_ 67 (d := dd_law_plain_told) rfl) (fun _ _ _ _ _ _ us hl => match us, hl with | [_, _, _], _ => rfl)
theorem tx_law_spoilt_at (X : K.In h) (G : h.Ns mainGlobals mg) (c : He.SaysD faL fnL K) : DefAt K mg "_law_spoilt_at" s_law_spoilt_at ["_law_hand_here", "_law_prime_here", "_law_table_here", "_law_at"] := def_of X G (c.fact 68 (f := .glo "_law_spoilt_at") rfl) (c.def_ 68 (d := dd_law_spoilt_at) rfl) (fun _ _ _ _ _ _ us hl => match us, hl with | [_, _, _, _], _ => rfl)
theorem tx_law_judge_told (X : K.In h) (G : h.Ns mainGlobals mg) (c : He.SaysD faL fnL K) : DefAt K mg "_law_judge_told" s_law_judge_told ["_law_which", "_law_field_here", "_law_made_here", "_law_one_here", "_law_other"] := def_of X G (c.fact 69 (f := .glo "_law_judge_told") rfl) (c.def_ 69 (d := dd_law_judge_told) rfl) (fun _ _ _ _ _ _ us hl => match us, hl with | [_, _, _, _, _], _ => rfl)
theorem tx_law_refusals_hold (X : K.In h) (G : h.Ns mainGlobals mg) (c : He.SaysD faL fnL K) : DefAt K mg "_law_refusals_hold" s_law_refusals_hold ["_law_hand_here", "_law_field_here", "_law_prime_here", "_law_made_here", "_law_one_here", "_law_other"] := def_of X G (c.fact 70 (f := .glo "_law_refusals_hold") rfl) (c.def_ 70 (d := dd_law_refusals_hold) rfl) (fun _ _ _ _ _ _ us hl => match us, hl with | [_, _, _, _, _, _], _ => rfl)
theorem tx_law (X : K.In h) (G : h.Ns mainGlobals mg) (c : He.SaysD faL fnL K) : DefAt K mg "law" s_law ["_law_script"] := def_of X G (c.fact 71 (f := .glo "law") rfl) (c.def_ 71 (d := dd_law) rfl) (fun _ _ _ _ _ _ us hl => match us, hl with | [_], _ => rfl)
theorem tx_RestField_init (c : He.SaysD faL fnL K) : ∃ fd, L2.Fun K "__init__" "RestField.__init__" s_RestField_init (ma K "RestField" "__init__") fd ∧ Binds K fd ["self", "prime"] [] := mth_of (c.def_ 73 (d := dd_RestField_init) rfl) (fun _ _ _ _ _ _ us hl => match us, hl with | [_, _], _ => rfl)
theorem tx_RestField_check_number (c : He.SaysD faL fnL K) : ∃ fd, L2.Fun K "check_number" "RestField.check_number" s_RestField_check_number (ma K "RestField" "check_number") fd ∧ Binds K fd ["self", "number"] [] := mth_of (c.def_ 74 (d := dd_RestField_check_number) rfl) (fun _ _ _ _ _ _ us hl => match us, hl with | [_, _], _ => rfl)
theorem tx_RestField_times (c : He.SaysD faL fnL K) : ∃ fd, L2.Fun K "times" "RestField.times" s_RestField_times (ma K "RestField" "times") fd ∧ Binds K fd ["self", "one", "other"] [] := mth_of (c.def_ 75 (d := dd_RestField_times) rfl) (fun _ _ _ _ _ _ us hl => match us, hl with | [_, _, _], _ => rfl)
theorem tx_RestField_quotient (c : He.SaysD faL fnL K) : ∃ fd, L2.Fun K "quotient" "RestField.quotient" s_RestField_quotient (ma K "RestField" "quotient") fd ∧ Binds K fd ["self", "one", "other"] [] := mth_of (c.def_ 76 (d := dd_RestField_quotient) rfl) (fun _ _ _ _ _ _ us hl => match us, hl with | [_, _, _], _ => rfl)
theorem tx_RestField_power (c : He.SaysD faL fnL K) : ∃ fd, L2.Fun K "power" "RestField.power" s_RestField_power (ma K "RestField" "power") fd ∧ Binds K fd ["self", "number", "exponent"] [] := mth_of (c.def_ 77 (d := dd_RestField_power) rfl) (fun _ _ _ _ _ _ us hl => match us, hl with | [_, _, _], _ => rfl)
theorem tx_FractionField_init (c : He.SaysD faL fnL K) : ∃ fd, L2.Fun K "__init__" "FractionField.__init__" s_FractionField_init (ma K "FractionField" "__init__") fd ∧ Binds K fd ["self"] [] := mth_of (c.def_ 78 (d := dd_FractionField_init) rfl) (fun _ _ _ _ _ _ us hl => match us, hl with | [_], _ => rfl)
theorem tx_FractionField_check_number (c : He.SaysD faL fnL K) : ∃ fd, L2.Fun K "check_number" "FractionField.check_number" s_FractionField_check_number (ma K "FractionField" "check_number") fd ∧ Binds K fd ["self", "number"] [] := mth_of (c.def_ 79 (d := dd_FractionField_check_number) rfl) (fun _ _ _ _ _ _ us hl => match us, hl with | [_, _], _ => rfl)
theorem tx_FractionField_times (c : He.SaysD faL fnL K) : ∃ fd, L2.Fun K "times" "FractionField.times" s_FractionField_times (ma K "FractionField" "times") fd ∧ Binds K fd ["self", "one", "other"] [] := mth_of (c.def_ 80 (d := dd_FractionField_times) rfl) (fun _ _ _ _ _ _ us hl => match us, hl with | [_, _, _], _ => rfl)
theorem tx_FractionField_quotient (c : He.SaysD faL fnL K) : ∃ fd, L2.Fun K "quotient" "FractionField.quotient" s_FractionField_quotient (ma K "FractionField" "quotient") fd ∧ Binds K fd ["self", "one", "other"] [] := mth_of (c.def_ 81 (d := dd_FractionField_quotient) rfl) (fun _ _ _ _ _ _ us hl => match us, hl with | [_, _, _], _ => rfl)
theorem tx_FractionField_power (c : He.SaysD faL fnL K) : ∃ fd, L2.Fun K "power" "FractionField.power" s_FractionField_power (ma K "FractionField" "power") fd ∧ Binds K fd ["self", "number", "exponent"] [] := mth_of (c.def_ 82 (d := dd_FractionField_power) rfl) (fun _ _ _ _ _ _ us hl => match us, hl with | [_, _, _], _ => rfl)
theorem tx_Factors_init (c : He.SaysD faL fnL K) : ∃ fd, L2.Fun K "__init__" "Factors.__init__" s_Factors_init (ma K "Factors" "__init__") fd ∧ Binds K fd ["self", "points", "walls"] [] := mth_of (c.def_ 83 (d := dd_Factors_init) rfl) (fun _ _ _ _ _ _ us hl => match us, hl with | [_, _, _], _ => rfl)
theorem tx_Factors_eq (c : He.SaysD faL fnL K) : ∃ fd, L2.Fun K "__eq__" "Factors.__eq__" s_Factors_eq (ma K "Factors" "__eq__") fd ∧ Binds K fd ["self", "other"] [] := mth_of (c.def_ 84 (d := dd_Factors_eq) rfl) (fun _ _ _ _ _ _ us hl => match us, hl with | [_, _], _ => rfl)
theorem tx_Unlike_init (c : He.SaysD faL fnL K) : ∃ fd, L2.Fun K "__init__" "Unlike.__init__" s_Unlike_init (ma K "Unlike" "__init__") fd ∧ Binds K fd ["self", "place", "first", "second"] [] := mth_of (c.def_ 85 (d := dd_Unlike_init) rfl) (fun _ _ _ _ _ _ us hl => match us, hl with | [_, _, _, _], _ => rfl)
theorem tx_Unlike_eq (c : He.SaysD faL fnL K) : ∃ fd, L2.Fun K "__eq__" "Unlike.__eq__" s_Unlike_eq (ma K "Unlike" "__eq__") fd ∧ Binds K fd ["self", "other"] [] := mth_of (c.def_ 86 (d := dd_Unlike_eq) rfl) (fun _ _ _ _ _ _ us hl => match us, hl with | [_, _], _ => rfl)
theorem tx_Picture_init (c : He.SaysD faL fnL K) : ∃ fd, L2.Fun K "__init__" "Picture.__init__" s_Picture_init (ma K "Picture" "__init__") fd ∧ Binds K fd ["self", "points", "walls", "pairs"] [] := mth_of (c.def_ 87 (d := dd_Picture_init) rfl) (fun _ _ _ _ _ _ us hl => match us, hl with | [_, _, _, _], _ => rfl)
theorem tx_BadNumber_init (c : He.SaysD faL fnL K) : ∃ fd, L2.Fun K "__init__" "BadNumber.__init__" s_BadNumber_init (ma K "BadNumber" "__init__") fd ∧ Binds K fd ["self"] [] := mth_of (c.def_ 88 (d := dd_BadNumber_init) rfl) (fun _ _ _ _ _ _ us hl => match us, hl with | [_], _ => rfl)
theorem tx_BadTable_init (c : He.SaysD faL fnL K) : ∃ fd, L2.Fun K "__init__" "BadTable.__init__" s_BadTable_init (ma K "BadTable" "__init__") fd ∧ Binds K fd ["self", "index"] [] := mth_of (c.def_ 89 (d := dd_BadTable_init) rfl) (fun _ _ _ _ _ _ us hl => match us, hl with | [_, _], _ => rfl)
theorem tx_BadFactors_init (c : He.SaysD faL fnL K) : ∃ fd, L2.Fun K "__init__" "BadFactors.__init__" s_BadFactors_init (ma K "BadFactors" "__init__") fd ∧ Binds K fd ["self", "what", "index"] [] := mth_of (c.def_ 90 (d := dd_BadFactors_init) rfl) (fun _ _ _ _ _ _ us hl => match us, hl with | [_, _, _], _ => rfl)
theorem txt_of (X : K.In h) (G : h.Ns mainGlobals mg) (c : He.SaysD faL fnL K) (m : exB K = true) : Txt K mg where
  d_common_divisor := tx_common_divisor X G c
  d_power_of := tx_power_of X G c
  d_tree_places := tx_tree_places X G c
  d_other_places := tx_other_places X G c
  d_completed_tour := tx_completed_tour X G c
  d_meets_end := tx_meets_end X G c
  d_loose_ends := tx_loose_ends X G c
  d_tour_of := tx_tour_of X G c
  d_basis_tours := tx_basis_tours X G c
  d_is_prime := tx_is_prime X G c
  d_rest_power := tx_rest_power X G c
  d_lowest_terms := tx_lowest_terms X G c
  d_is_factor := tx_is_factor X G c
  d_factors_place := tx_factors_place X G c
  d_check_table := tx_check_table X G c
  d_plain_worth := tx_plain_worth X G c
  d_basis_worths := tx_basis_worths X G c
  d_scaled_table := tx_scaled_table X G c
  d_table_of := tx_table_of X G c
  d_spread_factors := tx_spread_factors X G c
  d_same_figure := tx_same_figure X G c
  d_factors_fault := tx_factors_fault X G c
  d_unlike_fault := tx_unlike_fault X G c
  d_same_numbers := tx_same_numbers X G c
  d_plain_form := tx_plain_form X G c
  d_is_couple := tx_is_couple X G c
  d_law_mixed := tx_law_mixed X G c
  d_law_hand := tx_law_hand X G c
  d_law_draw := tx_law_draw X G c
  d_law_whole := tx_law_whole X G c
  d_law_given := tx_law_given X G c
  d_law_divisor := tx_law_divisor X G c
  d_law_lowest := tx_law_lowest X G c
  d_law_prime := tx_law_prime X G c
  d_law_next_prime := tx_law_next_prime X G c
  d_law_field := tx_law_field X G c
  d_law_made_field := tx_law_made_field X G c
  d_law_one := tx_law_one X G c
  d_law_minus := tx_law_minus X G c
  d_law_times := tx_law_times X G c
  d_law_power := tx_law_power X G c
  d_law_number := tx_law_number X G c
  d_law_is_number := tx_law_is_number X G c
  d_law_same := tx_law_same X G c
  d_law_same_row := tx_law_same_row X G c
  d_law_odd := tx_law_odd X G c
  d_law_picture := tx_law_picture X G c
  d_law_tree := tx_law_tree X G c
  d_law_others := tx_law_others X G c
  d_law_leaf := tx_law_leaf X G c
  d_law_tour := tx_law_tour X G c
  d_law_basis := tx_law_basis X G c
  d_law_table := tx_law_table X G c
  d_law_worth := tx_law_worth X G c
  d_law_scaled := tx_law_scaled X G c
  d_law_plain := tx_law_plain X G c
  d_law_made := tx_law_made X G c
  d_law_factors := tx_law_factors X G c
  d_law_moving := tx_law_moving X G c
  d_law_second_table := tx_law_second_table X G c
  d_law_same_told := tx_law_same_told X G c
  d_law_leads := tx_law_leads X G c
  d_law_other_factors := tx_law_other_factors X G c
  d_law_wrong_row := tx_law_wrong_row X G c
  d_law_factors_judged := tx_law_factors_judged X G c
  d_law_unlike_judged := tx_law_unlike_judged X G c
  d_law_verdict_holds := tx_law_verdict_holds X G c
  d_law_plain_told := tx_law_plain_told X G c
  d_law_spoilt_at := tx_law_spoilt_at X G c
  d_law_judge_told := tx_law_judge_told X G c
  d_law_refusals_hold := tx_law_refusals_hold X G c
  d_law := tx_law X G c
  d_is_whole := (c.def_ 72 (d := dd_is_whole) rfl)
  g_is_whole := He.glo_ok X G (c.fact 72 (f := .glo "is_whole") rfl)
  f_RestField_init := tx_RestField_init c
  f_RestField_check_number := tx_RestField_check_number c
  f_RestField_times := tx_RestField_times c
  f_RestField_quotient := tx_RestField_quotient c
  f_RestField_power := tx_RestField_power c
  f_FractionField_init := tx_FractionField_init c
  f_FractionField_check_number := tx_FractionField_check_number c
  f_FractionField_times := tx_FractionField_times c
  f_FractionField_quotient := tx_FractionField_quotient c
  f_FractionField_power := tx_FractionField_power c
  f_Factors_init := tx_Factors_init c
  f_Factors_eq := tx_Factors_eq c
  f_Unlike_init := tx_Unlike_init c
  f_Unlike_eq := tx_Unlike_eq c
  f_Picture_init := tx_Picture_init c
  f_BadNumber_init := tx_BadNumber_init c
  f_BadTable_init := tx_BadTable_init c
  f_BadFactors_init := tx_BadFactors_init c
  g_RestField := He.glo_ok X G (c.fact 73 (f := .glo "RestField") rfl)
  g_FractionField := He.glo_ok X G (c.fact 74 (f := .glo "FractionField") rfl)
  g_Factors := He.glo_ok X G (c.fact 75 (f := .glo "Factors") rfl)
  g_Unlike := He.glo_ok X G (c.fact 76 (f := .glo "Unlike") rfl)
  g_Picture := He.glo_ok X G (c.fact 77 (f := .glo "Picture") rfl)
  g_BadNumber := He.glo_ok X G (c.fact 78 (f := .glo "BadNumber") rfl)
  g_BadTable := He.glo_ok X G (c.fact 79 (f := .glo "BadTable") rfl)
  g_BadFactors := He.glo_ok X G (c.fact 80 (f := .glo "BadFactors") rfl)
  g_SheetError := He.glo_ok X G (c.fact 81 (f := .glo "SheetError") rfl)
  cl_RestField := He.cls_ok (c.fact 102 (f := .cls "RestField") rfl)
  mk_RestField := He.mkr_ok (c.fact 103 (f := .mkr "RestField") rfl)
  in_RestField := ⟨He.cls_ok (c.fact 102 (f := .cls "RestField") rfl), (of_decide_eq_true (exB_at m 0)), (of_decide_eq_true (exB_at m 15)), (of_decide_eq_true (exB_at m 16)), (of_decide_eq_true (exB_at m 1)), (of_decide_eq_true (exB_at m 2))⟩
  na_RestField_prime := He.noat_ok (c.fact 104 (f := .noat "RestField" "prime") rfl)
  na_RestField_zero := He.noat_ok (c.fact 105 (f := .noat "RestField" "zero") rfl)
  na_RestField_one := He.noat_ok (c.fact 106 (f := .noat "RestField" "one") rfl)
  na_RestField_minus_one := He.noat_ok (c.fact 107 (f := .noat "RestField" "minus_one") rfl)
  cl_FractionField := He.cls_ok (c.fact 108 (f := .cls "FractionField") rfl)
  mk_FractionField := He.mkr_ok (c.fact 109 (f := .mkr "FractionField") rfl)
  in_FractionField := ⟨He.cls_ok (c.fact 108 (f := .cls "FractionField") rfl), (of_decide_eq_true (exB_at m 3)), (of_decide_eq_true (exB_at m 15)), (of_decide_eq_true (exB_at m 16)), (of_decide_eq_true (exB_at m 4)), (of_decide_eq_true (exB_at m 5))⟩
  na_FractionField_zero := He.noat_ok (c.fact 110 (f := .noat "FractionField" "zero") rfl)
  na_FractionField_one := He.noat_ok (c.fact 111 (f := .noat "FractionField" "one") rfl)
  na_FractionField_minus_one := He.noat_ok (c.fact 112 (f := .noat "FractionField" "minus_one") rfl)
  cl_Factors := He.cls_ok (c.fact 113 (f := .cls "Factors") rfl)
  mk_Factors := He.mkr_ok (c.fact 114 (f := .mkr "Factors") rfl)
  in_Factors := ⟨He.cls_ok (c.fact 113 (f := .cls "Factors") rfl), (of_decide_eq_true (exB_at m 6)), (of_decide_eq_true (exB_at m 15)), (of_decide_eq_true (exB_at m 16)), (of_decide_eq_true (exB_at m 7)), (of_decide_eq_true (exB_at m 8))⟩
  na_Factors_points := He.noat_ok (c.fact 115 (f := .noat "Factors" "points") rfl)
  na_Factors_walls := He.noat_ok (c.fact 116 (f := .noat "Factors" "walls") rfl)
  cl_Unlike := He.cls_ok (c.fact 117 (f := .cls "Unlike") rfl)
  mk_Unlike := He.mkr_ok (c.fact 118 (f := .mkr "Unlike") rfl)
  in_Unlike := ⟨He.cls_ok (c.fact 117 (f := .cls "Unlike") rfl), (of_decide_eq_true (exB_at m 9)), (of_decide_eq_true (exB_at m 15)), (of_decide_eq_true (exB_at m 16)), (of_decide_eq_true (exB_at m 10)), (of_decide_eq_true (exB_at m 11))⟩
  na_Unlike_place := He.noat_ok (c.fact 119 (f := .noat "Unlike" "place") rfl)
  na_Unlike_first := He.noat_ok (c.fact 120 (f := .noat "Unlike" "first") rfl)
  na_Unlike_second := He.noat_ok (c.fact 121 (f := .noat "Unlike" "second") rfl)
  cl_Picture := He.cls_ok (c.fact 122 (f := .cls "Picture") rfl)
  mk_Picture := He.mkr_ok (c.fact 123 (f := .mkr "Picture") rfl)
  in_Picture := ⟨He.cls_ok (c.fact 122 (f := .cls "Picture") rfl), (of_decide_eq_true (exB_at m 12)), (of_decide_eq_true (exB_at m 15)), (of_decide_eq_true (exB_at m 16)), (of_decide_eq_true (exB_at m 13)), (of_decide_eq_true (exB_at m 14))⟩
  na_Picture_points := He.noat_ok (c.fact 124 (f := .noat "Picture" "points") rfl)
  na_Picture_walls := He.noat_ok (c.fact 125 (f := .noat "Picture" "walls") rfl)
  na_Picture_pairs := He.noat_ok (c.fact 126 (f := .noat "Picture" "pairs") rfl)
  m_RestField_check_number := He.meth_ok (c.fact 127 (f := .meth "RestField" "check_number") rfl)
  m_RestField_times := He.meth_ok (c.fact 128 (f := .meth "RestField" "times") rfl)
  m_RestField_quotient := He.meth_ok (c.fact 129 (f := .meth "RestField" "quotient") rfl)
  m_RestField_power := He.meth_ok (c.fact 130 (f := .meth "RestField" "power") rfl)
  m_FractionField_check_number := He.meth_ok (c.fact 131 (f := .meth "FractionField" "check_number") rfl)
  m_FractionField_times := He.meth_ok (c.fact 132 (f := .meth "FractionField" "times") rfl)
  m_FractionField_quotient := He.meth_ok (c.fact 133 (f := .meth "FractionField" "quotient") rfl)
  m_FractionField_power := He.meth_ok (c.fact 134 (f := .meth "FractionField" "power") rfl)
  m_Factors_eq := He.meth_ok (c.fact 135 (f := .meth "Factors" "__eq__") rfl)
  m_Unlike_eq := He.meth_ok (c.fact 136 (f := .meth "Unlike" "__eq__") rfl)
  ki_FractionField_RestField := (of_decide_eq_true (exB_at m 17))
  ki_Factors_Unlike := (of_decide_eq_true (exB_at m 18))
  ki_Unlike_Factors := (of_decide_eq_true (exB_at m 19))
  b_len := He.free_ok X G (c.fact 82 (f := .free "len") rfl)
  b_abs := He.free_ok X G (c.fact 83 (f := .free "abs") rfl)
  b_int := He.free_ok X G (c.fact 84 (f := .free "int") rfl)
  b_bool := He.free_ok X G (c.fact 85 (f := .free "bool") rfl)
  b_list := He.free_ok X G (c.fact 86 (f := .free "list") rfl)
  b_tuple := He.free_ok X G (c.fact 87 (f := .free "tuple") rfl)
  b_str := He.free_ok X G (c.fact 88 (f := .free "str") rfl)
  b_min := He.free_ok X G (c.fact 89 (f := .free "min") rfl)
  b_sum := He.free_ok X G (c.fact 90 (f := .free "sum") rfl)
  b_any := He.free_ok X G (c.fact 91 (f := .free "any") rfl)
  b_all := He.free_ok X G (c.fact 92 (f := .free "all") rfl)
  b_divmod := He.free_ok X G (c.fact 93 (f := .free "divmod") rfl)
  b_isinstance := He.free_ok X G (c.fact 94 (f := .free "isinstance") rfl)
  b_set := He.free_ok X G (c.fact 95 (f := .free "set") rfl)
  b_sorted := He.free_ok X G (c.fact 96 (f := .free "sorted") rfl)
  b_range := He.free_ok X G (c.fact 97 (f := .free "range") rfl)
  b_zip := He.free_ok X G (c.fact 98 (f := .free "zip") rfl)
  b_enumerate := He.free_ok X G (c.fact 99 (f := .free "enumerate") rfl)
  b_ValueError := He.free_ok X G (c.fact 100 (f := .free "ValueError") rfl)
  g_MOST_PRIME := (let ⟨t, e⟩ := He.int_ok X G (c.fact 101 (f := .int "MOST_PRIME" 20000) rfl); ⟨_, e, t, rfl⟩)
  rd_SheetError := (exB_at m 20)
  sg_SheetError := (of_decide_eq_true (exB_at m 21))
  ty_SheetError := (of_decide_eq_true (exB_at m 22))
  vi_SheetError := fndB_ok (exB_at m 23)
  ox_BadNumber := ⟨oexB_ok (exB_at m 24), (of_decide_eq_true (exB_at m 25)), (of_decide_eq_true (exB_at m 26)), (of_decide_eq_true (exB_at m 27)), (exB_at m 28)⟩
  xf_BadNumber := xfB_ok (exB_at m 29)
  ii_BadNumber := (of_decide_eq_true (exB_at m 30))
  it_BadNumber := (of_decide_eq_true (exB_at m 31))
  xm_BadNumber := (of_decide_eq_true (exB_at m 32))
  ox_BadTable := ⟨oexB_ok (exB_at m 33), (of_decide_eq_true (exB_at m 34)), (of_decide_eq_true (exB_at m 35)), (of_decide_eq_true (exB_at m 36)), (exB_at m 37)⟩
  xf_BadTable := xfB_ok (exB_at m 38)
  ii_BadTable := (of_decide_eq_true (exB_at m 39))
  it_BadTable := (of_decide_eq_true (exB_at m 40))
  xm_BadTable := (of_decide_eq_true (exB_at m 41))
  na_BadTable_index := He.noat_ok (c.fact 137 (f := .noat "BadTable" "index") rfl)
  ox_BadFactors := ⟨oexB_ok (exB_at m 42), (of_decide_eq_true (exB_at m 43)), (of_decide_eq_true (exB_at m 44)), (of_decide_eq_true (exB_at m 45)), (exB_at m 46)⟩
  xf_BadFactors := xfB_ok (exB_at m 47)
  ii_BadFactors := (of_decide_eq_true (exB_at m 48))
  it_BadFactors := (of_decide_eq_true (exB_at m 49))
  xm_BadFactors := (of_decide_eq_true (exB_at m 50))
  na_BadFactors_what := He.noat_ok (c.fact 138 (f := .noat "BadFactors" "what") rfl)
  na_BadFactors_index := He.noat_ok (c.fact 139 (f := .noat "BadFactors" "index") rfl)
theorem law_end {l : PySem.W.OpenLaw} {wd : World} {fa : Addr} (X : K.In h) (G : h.Ns mainGlobals mg) (hfa : mg ("law" : Str) = some (.ref fa)) (c : He.SaysD faL fnL K) (m : exB K = true) :
    ∃ (K : PySem.W.Frag) (fd : FuncData) (sp : Sp), K.In h ∧ (∀ (s : Shared) (u : Value), BindsTo s fd ⟨[u], []⟩ [("_law_script", u)]) ∧
      (∀ (H : Hp) (a : Addr) (ns : List Int), ns.length ≤ 63 → Only H → SqL K H a (ns.map V.int) → sp [.ref a] H (fun v _ => v = .bl true) fun _ _ _ => False) ∧
      ∀ base : Heap, K.In base → base.Ns mainGlobals mg → FnOk l.prog wd K mg base CX0 13 fa fd ["_law_script"] sp := by
  obtain ⟨fd, F⟩ := (c.def_ 71 (d := dd_law) rfl)
  have e := hfa.symm.trans (He.glo_ok X G (c.fact 71 (f := .glo "law") rfl))
  have e : fa = ga K "law" := by injection e with e; injection e
  subst e
  have b := FunD.bindsA (ps := ["_law_script"]) F fun _ _ _ _ _ _ us hl => match us, hl with | [_], _ => rfl
  refine ⟨K, fd, Fn (S_law K), X, fun s u => b s [u] rfl, fun H a ns hl _ hS => ?_, fun base _ _ => fn_law (txt_of X G c m) (fun_of F)⟩
  exact ⟨H, [], _, ⟨Evl.Ex.refl H, fun p hp => (by cases hp), List.Pairwise.nil⟩, ⟨rfl, a, ns, rfl, hS, hl, rfl⟩, fun v H' G' O' _ _ hv => hv⟩
end
end K6
/-! text V3 -/
set_option Elab.async false
set_option linter.all false
set_option maxRecDepth 100000
set_option maxHeartbeats 0
open PySem PySem.W PySem.Calls PyProof.Rows
theorem PySem.Challenge.cw_sheetproofs_k06_whole_same_figure_exactl_holds : PySem.Challenge.rw_sheetproofs_k06_whole_same_figure_exactl.Holds := by
  w_on; o_law
  refine HandSHeadRun.head_any (r := OpenLaw.row PySem.Challenge.rw_sheetproofs_k06_whole_same_figure_exactl) (q := view (OpenLaw.row PySem.Challenge.rw_sheetproofs_k06_whole_same_figure_exactl).prog [97]) (H := K6.hkL) (ob := K6.obL) (M := 20000) (loose := K6.nmL) (d := HandSHeadRun.topDef (OpenLaw.row PySem.Challenge.rw_sheetproofs_k06_whole_same_figure_exactl).prog 97) (kwd := []) K6.obL_eq
    (by kernel_rfl) (fun s => by kernel_rfl) K6.run_top (by kernel_rfl) (by kernel_rfl) (by kernel_rfl) (by rfl) (by first | assumption | decide +kernel) (by decide +kernel) ⟨rfl, rfl, rfl, rfl, rfl, by decide +kernel⟩ ?hw ?hc
  case hw => w_witness2
  case hc =>
    refine L2.walk_ofE (l := PySem.Challenge.rw_sheetproofs_k06_whole_same_figure_exactl) (n := 63) (k := 13) (x := "_law_script") (CX := L2.CX0) rfl (by decide) (by kernel_rfl) ⟨rfl, by decide, by decide⟩ ?F (fun _ _ _ _ z => z)
    intro w mg fa h Y G hmg0
    obtain ⟨K, KX, c, m⟩ := Y
    have hmg : mg ("law" : PySem.Str) = some (.ref fa) := by
      have e : (HandSHeadRun.topDef (OpenLaw.row PySem.Challenge.rw_sheetproofs_k06_whole_same_figure_exactl).prog 97).name = ("law" : PySem.Str) := by kernel_rfl
      rw [← e]
      exact hmg0
    exact K6.law_end KX G hmg c m
