import PyProof.Rows.All
import Wide.All
import OpenK.AllK
import Wide.FinOn
import HandS.ForMost
import HandS.Exc
import HandS.TryOnly
import HandS.ExcOwn
import HandS.WordsExc
import HandS.Evl
import HandS.Defaults
import HandS.HeadHook2
import HandS.IsInst
import HandS.TupAny
import HandS.TupMul
import HandS.Conv
import HandS.Style
import HandS.Zip
import HandS.HeadEnd
import HandS.Head0
import HandS.Head1
import HandS.Head2
import HandS.HeadHook1
import KE.KStateDown
import HandS.SortInts
import HandS.SetFor
import HandS.Strs
import PySem.Challenge.RW_staggerbreaths_k10_whole_beats_that_matt
set_option Elab.async false
set_option linter.all false
set_option maxRecDepth 100000
set_option maxHeartbeats 4000000
/-! TL1: a typed layer over the hand layer: what a slot holds (a value that stands still, an object of one's own), kept through every step. -/
namespace TL
open PySem L2
open Evl (Ex)

/-- how a value stands for a datum: by what stands still -/
structure Rp (α : Type) where
  R : Hp → V → α → Prop
  mono : ∀ {H H' : Hp} {v : V} {a : α}, Ex H H' → R H v a → R H' v a
/-- an object of one's own at p: its cells fp in the heap, the rest in what stands still -/
structure Ow (α : Type) where
  O : Hp → Hp → Addr → List Addr → α → Prop
  frame : ∀ {F F' H H' : Hp} {p : Addr} {fp : List Addr} {a : α}, Ex F F' → (∀ q ∈ fp, H' q = H q) → O F H p fp a → O F' H' p fp a
  there : ∀ {F H : Hp} {p : Addr} {fp : List Addr} {a : α}, O F H p fp a → ∀ q ∈ fp, ∃ o, H q = some o
inductive Sl : Type 1
  | no
  | val {α : Type} (r : Rp α) (a : α)
  | own {α : Type} (p : Addr) (o : Ow α) (a : α)
inductive SlOk (F H : Hp) : Option V → Sl → List Addr → Prop
  | no {x : Option V} : SlOk F H x .no []
  | val {v : V} {α : Type} {r : Rp α} {a : α} : r.R F v a → SlOk F H (some v) (.val r a) []
  | own {α : Type} {p : Addr} {o : Ow α} {a : α} {fp : List Addr} : o.O F H p fp a → SlOk F H (some (.ref p)) (.own p o a) fp
inductive SlsOk (F H : Hp) : St → List Sl → List (List Addr) → Prop
  | nil : SlsOk F H [] [] []
  | cons {x : Option V} {s : Sl} {fp : List Addr} {σ : St} {Γ : List Sl} {fps : List (List Addr)} : SlOk F H x s fp → SlsOk F H σ Γ fps → SlsOk F H (x :: σ) (s :: Γ) (fp :: fps)
section
variable {F F' H H' : Hp} {σ : St} {Γ : List Sl} {fps : List (List Addr)} {x : Option V} {s : Sl} {fp : List Addr}
theorem SlOk.frame (h : SlOk F H x s fp) (e : Ex F F') (k : ∀ q ∈ fp, H' q = H q) : SlOk F' H' x s fp := by
  cases h with
  | no => exact .no
  | @val v α r a h => exact .val (r.mono e h)
  | @own α p o a fp h => exact .own (o.frame e k h)
theorem SlOk.there (h : SlOk F H x s fp) : ∀ q ∈ fp, ∃ o, H q = some o := by
  cases h with
  | no => exact fun q z => nomatch z
  | val h => exact fun q z => nomatch z
  | @own α p o a fp h => exact o.there h
theorem SlsOk.frame (h : SlsOk F H σ Γ fps) (e : Ex F F') (k : ∀ q ∈ fps.flatten, H' q = H q) : SlsOk F' H' σ Γ fps := by
  induction h with
  | nil => exact .nil
  | cons a b ih =>
    exact .cons (a.frame e fun q z => k q (by rw [List.flatten_cons]; exact List.mem_append_left _ z)) (ih fun q z => k q (by rw [List.flatten_cons]; exact List.mem_append_right _ z))
theorem SlsOk.there (h : SlsOk F H σ Γ fps) : ∀ q ∈ fps.flatten, ∃ o, H q = some o := by
  induction h with
  | nil => exact fun q z => nomatch z
  | cons a b ih =>
    intro q z
    rw [List.flatten_cons] at z
    rcases List.mem_append.mp z with z | z
    · exact a.there q z
    · exact ih q z
theorem SlsOk.get {i : Nat} (h : SlsOk F H σ Γ fps) (e : Γ[i]? = some s) : ∃ x fp, σ[i]? = some x ∧ fps[i]? = some fp ∧ SlOk F H x s fp := by
  induction h generalizing i with
  | nil => simp at e
  | @cons x s' fp σ Γ fps a b ih =>
    cases i with
    | zero =>
      simp only [List.getElem?_cons_zero, Option.some.injEq] at e
      subst e
      exact ⟨x, fp, rfl, rfl, a⟩
    | succ i =>
      simp only [List.getElem?_cons_succ] at e ⊢
      exact ih e
theorem SlsOk.set {i : Nat} (h : SlsOk F H σ Γ fps) (a : SlOk F H x s fp) : SlsOk F H (σ.set i x) (Γ.set i s) (fps.set i fp) := by
  induction h generalizing i with
  | nil => exact .nil
  | cons b c ih =>
    cases i with
    | zero => exact .cons a c
    | succ i => exact .cons b ih
theorem SlsOk.append {σ' : St} {Γ' : List Sl} {fps' : List (List Addr)} (h : SlsOk F H σ Γ fps) (g : SlsOk F H σ' Γ' fps') : SlsOk F H (σ ++ σ') (Γ ++ Γ') (fps ++ fps') := by
  induction h with
  | nil => exact g
  | cons a b ih => exact .cons a ih
theorem SlsOk.len (h : SlsOk F H σ Γ fps) : σ.length = Γ.length ∧ fps.length = Γ.length := by
  induction h with
  | nil => exact ⟨rfl, rfl⟩
  | cons a b ih => exact ⟨by rw [List.length_cons, List.length_cons, ih.1], by rw [List.length_cons, List.length_cons, ih.2]⟩
theorem SlsOk.nos (σ : St) : SlsOk F H σ (List.replicate σ.length .no) (List.replicate σ.length []) := by
  induction σ with
  | nil => exact .nil
  | cons x r ih => exact .cons .no ih
end
/-! ### lists of footprints -/
theorem mem_set {L : List (List Addr)} {i : Nat} {fp : List Addr} {q : Addr} (h : q ∈ (L.set i fp).flatten) : q ∈ L.flatten ∨ q ∈ fp := by
  induction L generalizing i with
  | nil => exact .inl h
  | cons a r ih =>
    cases i with
    | zero =>
      rw [List.set_cons_zero, List.flatten_cons] at h
      rcases List.mem_append.mp h with h | h
      · exact .inr h
      · exact .inl (by rw [List.flatten_cons]; exact List.mem_append_right _ h)
    | succ i =>
      rw [List.set_cons_succ, List.flatten_cons] at h
      rcases List.mem_append.mp h with h | h
      · exact .inl (by rw [List.flatten_cons]; exact List.mem_append_left _ h)
      · rcases ih h with h | h
        · exact .inl (by rw [List.flatten_cons]; exact List.mem_append_right _ h)
        · exact .inr h
theorem mem_at {L : List (List Addr)} {i : Nat} {fp : List Addr} {q : Addr} (e : L[i]? = some fp) (h : q ∈ fp) : q ∈ L.flatten :=
  List.mem_flatten.mpr ⟨fp, List.mem_of_getElem? e, h⟩
/-- a part set anew, apart from the others -/
theorem nodup_set {L : List (List Addr)} {i : Nat} {fp : List Addr} (h : L.flatten.Nodup) (hf : fp.Nodup) (d : ∀ q ∈ fp, q ∉ (L.set i []).flatten) : (L.set i fp).flatten.Nodup := by
  induction L generalizing i with
  | nil => exact h
  | cons a r ih =>
    rw [List.flatten_cons, List.nodup_append] at h
    obtain ⟨h1, h2, h3⟩ := h
    cases i with
    | zero =>
      rw [List.set_cons_zero, List.flatten_cons, List.nodup_append]
      refine ⟨hf, h2, fun x hx y hy e => ?_⟩
      subst e
      refine d x hx ?_
      rw [List.set_cons_zero, List.flatten_cons]
      exact List.mem_append_right _ hy
    | succ i =>
      rw [List.set_cons_succ, List.flatten_cons, List.nodup_append]
      refine ⟨h1, ih h2 fun q hq z => d q hq ?_, fun x hx y hy e => ?_⟩
      · rw [List.set_cons_succ, List.flatten_cons]
        exact List.mem_append_right _ z
      · subst e
        rcases mem_set hy with hy | hy
        · exact h3 x hx x hy rfl
        · refine d x hy ?_
          rw [List.set_cons_succ, List.flatten_cons]
          exact List.mem_append_left _ hx
theorem nodup_drop {L : List (List Addr)} {i : Nat} (h : L.flatten.Nodup) : (L.set i []).flatten.Nodup :=
  nodup_set h List.nodup_nil fun q z => nomatch z
/-- a part's own cells are in no other part -/
theorem apart {L : List (List Addr)} {i : Nat} {fp : List Addr} {q : Addr} (h : L.flatten.Nodup) (e : L[i]? = some fp) (hq : q ∈ fp) : q ∉ (L.set i []).flatten := by
  induction L generalizing i with
  | nil => simp at e
  | cons a r ih =>
    rw [List.flatten_cons, List.nodup_append] at h
    obtain ⟨h1, h2, h3⟩ := h
    cases i with
    | zero =>
      simp only [List.getElem?_cons_zero, Option.some.injEq] at e
      subst e
      rw [List.set_cons_zero, List.flatten_cons]
      intro z
      rcases List.mem_append.mp z with z | z
      · exact nomatch z
      · exact h3 q hq q z rfl
    | succ i =>
      simp only [List.getElem?_cons_succ] at e
      rw [List.set_cons_succ, List.flatten_cons]
      intro z
      rcases List.mem_append.mp z with z | z
      · exact h3 q z q (mem_at e hq) rfl
      · exact ih h2 e z
/-! ### the state -/
/-- the entry: what stood still, the heap, the cells that were handed over -/
structure Bs where
  F : Hp
  H : Hp
  A : List Addr
structure OkF (B : Bs) (Γ : List Sl) (σ : St) (F H : Hp) (fps : List (List Addr)) : Prop where
  sl : SlsOk F H σ Γ fps
  nd : fps.flatten.Nodup
  fz : ∀ q ∈ fps.flatten, F q = none
  ex : Ex F H
  bF : Ex B.F F
  bG : ∀ q o, F q = some o → B.F q = some o ∨ B.H q = none ∨ q ∈ B.A
  bK : ∀ q o, B.H q = some o → q ∉ B.A → H q = some o
  bD : ∀ q o, B.H q = some o → ∃ o', H q = some o'
  bO : ∀ q ∈ fps.flatten, q ∈ B.A ∨ B.H q = none
def Ok (B : Bs) (Γ : List Sl) (σ : St) (F H : Hp) : Prop := ∃ fps, OkF B Γ σ F H fps
section
variable {B : Bs} {Γ Δ Γ' : List Sl} {σ τ : St} {F F' H H' : Hp} {fps fpd : List (List Addr)} {s : Sl} {v : V} {p : Addr} {o : HO}
theorem OkF.bN (h : OkF B Γ σ F H fps) (hp : H p = none) : B.H p = none := by
  cases e : B.H p with
  | none => rfl
  | some o =>
    obtain ⟨o', e'⟩ := h.bD p o e
    rw [hp] at e'; cases e'
theorem OkF.nF (h : OkF B Γ σ F H fps) (hp : H p = none) : F p = none := by
  cases e : F p with
  | none => rfl
  | some o => rw [h.ex p o e] at hp; cases hp
theorem OkF.nfp (h : OkF B Γ σ F H fps) (hp : H p = none) : p ∉ fps.flatten := fun z => by
  obtain ⟨o, e⟩ := h.sl.there p z
  rw [hp] at e; cases e
theorem ex_upd (e : Ex F H) : Ex (upd F p o) (upd H p o) := fun q u h => by
  by_cases z : q = p
  · subst z; rw [upd_same] at h ⊢; exact h
  · rw [upd_ne z] at h ⊢; exact e q u h
/-- a new object that stands still from now on -/
theorem OkF.alloc (h : OkF B Γ σ F H fps) (hp : H p = none) : OkF B Γ σ (upd F p o) (upd H p o) fps := by
  have e1 : Ex F (upd F p o) := Ex.new (h.nF hp)
  have np : ∀ q ∈ fps.flatten, q ≠ p := fun q z e => h.nfp hp (e ▸ z)
  refine ⟨h.sl.frame e1 fun q z => upd_ne (np q z), h.nd, fun q z => by rw [upd_ne (np q z)]; exact h.fz q z, ex_upd h.ex, h.bF.trans e1, fun q u z => ?_, fun q u a b => ?_, fun q u a => ?_, h.bO⟩
  · by_cases e : q = p
    · subst e; exact .inr (.inl (h.bN hp))
    · rw [upd_ne e] at z; exact h.bG q u z
  · have z := h.bK q u a b
    rw [upd_ne (ne_of_none z hp)]; exact z
  · obtain ⟨u', z⟩ := h.bD q u a
    exact ⟨u', by rw [upd_ne (ne_of_none z hp)]; exact z⟩
/-- a new object that is tracked by nobody -/
theorem OkF.lay (h : OkF B Γ σ F H fps) (hp : H p = none) : OkF B Γ σ F (upd H p o) fps := by
  have np : ∀ q ∈ fps.flatten, q ≠ p := fun q z e => h.nfp hp (e ▸ z)
  refine ⟨h.sl.frame (Ex.refl F) fun q z => upd_ne (np q z), h.nd, h.fz, fun q u z => ?_, h.bF, h.bG, fun q u a b => ?_, fun q u a => ?_, h.bO⟩
  · rw [upd_ne (ne_of_none (h.ex q u z) hp)]; exact h.ex q u z
  · have z := h.bK q u a b
    rw [upd_ne (ne_of_none z hp)]; exact z
  · obtain ⟨u', z⟩ := h.bD q u a
    exact ⟨u', by rw [upd_ne (ne_of_none z hp)]; exact z⟩
/-- a value at the head -/
theorem OkF.push {α : Type} {r : Rp α} {a : α} (h : OkF B Γ σ F H fps) (hr : r.R F v a) : OkF B (.val r a :: Γ) (some v :: σ) F H ([] :: fps) :=
  ⟨.cons (.val hr) h.sl, h.nd, h.fz, h.ex, h.bF, h.bG, h.bK, h.bD, h.bO⟩
/-- a new object of one's own at the head -/
theorem OkF.pushO {α : Type} {w : Ow α} {a : α} (h : OkF B Γ σ F H fps) (hp : H p = none) (ho : w.O F (upd H p o) p [p] a) : OkF B (.own p w a :: Γ) (some (.ref p) :: σ) F (upd H p o) ([p] :: fps) := by
  have g := h.lay (o := o) hp
  refine ⟨.cons (.own ho) g.sl, ?_, ?_, g.ex, g.bF, g.bG, g.bK, g.bD, ?_⟩
  · rw [List.flatten_cons, List.nodup_append]
    refine ⟨List.nodup_cons.mpr ⟨List.not_mem_nil, List.nodup_nil⟩, h.nd, fun x hx y hy e => ?_⟩
    have ex : x = p := by simpa using hx
    subst e ex
    exact h.nfp hp hy
  · intro q z
    rw [List.flatten_cons] at z
    rcases List.mem_append.mp z with z | z
    · have e : q = p := by simpa using z
      rw [e]; exact h.nF hp
    · exact h.fz q z
  · intro q z
    rw [List.flatten_cons] at z
    rcases List.mem_append.mp z with z | z
    · have e : q = p := by simpa using z
      rw [e]; exact .inr (h.bN hp)
    · exact h.bO q z
/-- the head dropped -/
theorem OkF.pop {x : Option V} {fp : List Addr} (h : OkF B (s :: Γ) (x :: σ) F H (fp :: fps)) : OkF B Γ σ F H fps := by
  have sub : ∀ q ∈ fps.flatten, q ∈ (fp :: fps).flatten := fun q z => by rw [List.flatten_cons]; exact List.mem_append_right _ z
  refine ⟨?_, ?_, fun q z => h.fz q (sub q z), h.ex, h.bF, h.bG, h.bK, h.bD, fun q z => h.bO q (sub q z)⟩
  · cases h.sl with
    | cons a b => exact b
  · have z := h.nd
    rw [List.flatten_cons, List.nodup_append] at z
    exact z.2.1
theorem Ok.pop {x : Option V} (h : Ok B (s :: Γ) (x :: σ) F H) : Ok B Γ σ F H := by
  obtain ⟨L, h⟩ := h
  cases h.sl with
  | cons a b => exact ⟨_, h.pop⟩
/-- a slot set to what the head holds -/
theorem Ok.store {x : Option V} {i : Nat} (h : Ok B (s :: Γ) (x :: σ) F H) : Ok B (Γ.set i s) (σ.set i x) F H := by
  obtain ⟨L, h⟩ := h
  cases h.sl with
  | @cons x s fp σ Γ fps a b =>
    have nd := h.nd
    rw [List.flatten_cons, List.nodup_append] at nd
    obtain ⟨n1, n2, n3⟩ := nd
    have mm : ∀ q ∈ (fps.set i fp).flatten, q ∈ (fp :: fps).flatten := fun q z => by
      rw [List.flatten_cons]
      rcases mem_set z with z | z
      · exact List.mem_append_right _ z
      · exact List.mem_append_left _ z
    refine ⟨fps.set i fp, b.set a, nodup_set n2 n1 fun q hq z => ?_, fun q z => h.fz q (mm q z), h.ex, h.bF, h.bG, h.bK, h.bD, fun q z => h.bO q (mm q z)⟩
    rcases mem_set z with z | z
    · exact n3 q hq q z rfl
    · exact nomatch z
/-- a slot forgotten -/
theorem Ok.forget {x : Option V} {i : Nat} (h : Ok B Γ σ F H) : Ok B (Γ.set i .no) (σ.set i x) F H := by
  obtain ⟨L, h⟩ := h
  have mm : ∀ q ∈ (L.set i []).flatten, q ∈ L.flatten := fun q z => (mem_set z).elim id fun z => nomatch z
  exact ⟨L.set i [], h.sl.set .no, nodup_drop h.nd, fun q z => h.fz q (mm q z), h.ex, h.bF, h.bG, h.bK, h.bD, fun q z => h.bO q (mm q z)⟩
/-- THE FRAME: what runs from Γ alone leaves Δ as it is -/
theorem OkF.compose {τ' : St} (h : OkF B (Δ ++ Γ) (τ ++ σ) F H (fpd ++ fps)) (hd : SlsOk F H τ Δ fpd) (g : Ok ⟨F, H, fps.flatten⟩ Γ' τ' F' H') : ∃ fps', OkF B (Δ ++ Γ') (τ ++ τ') F' H' (fpd ++ fps') := by
  obtain ⟨L, g⟩ := g
  have nd := h.nd
  rw [List.flatten_append, List.nodup_append] at nd
  obtain ⟨n1, n2, n3⟩ := nd
  have ind : ∀ q ∈ fpd.flatten, q ∈ (fpd ++ fps).flatten := fun q z => by rw [List.flatten_append]; exact List.mem_append_left _ z
  have ins : ∀ q ∈ fps.flatten, q ∈ (fpd ++ fps).flatten := fun q z => by rw [List.flatten_append]; exact List.mem_append_right _ z
  have keep : ∀ q o, H q = some o → q ∉ fps.flatten → H' q = some o := fun q o e n => g.bK q o e n
  have nofr : ∀ q ∈ fpd.flatten, q ∉ fps.flatten := fun q z y => n3 q z q y rfl
  have keepd : ∀ q ∈ fpd.flatten, H' q = H q := fun q z => by
    obtain ⟨o, e⟩ := hd.there q z
    rw [e]; exact keep q o e (nofr q z)
  have fzd : ∀ q ∈ fpd.flatten, F' q = none := fun q z => by
    cases e : F' q with
    | none => rfl
    | some o =>
      rcases g.bG q o e with y | y | y
      · have := h.fz q (ind q z)
        rw [show F q = some o from y] at this; cases this
      · obtain ⟨o2, e2⟩ := hd.there q z
        rw [show H q = none from y] at e2; cases e2
      · exact absurd y (nofr q z)
  refine ⟨L, (hd.frame g.bF keepd).append g.sl, ?_, fun q z => ?_, g.ex, h.bF.trans g.bF, fun q o e => ?_, fun q o e n => ?_, fun q o e => ?_, fun q z => ?_⟩
  · rw [List.flatten_append, List.nodup_append]
    refine ⟨n1, g.nd, fun x hx y hy e => ?_⟩
    subst e
    rcases g.bO x hy with z | z
    · exact nofr x hx z
    · obtain ⟨o2, e2⟩ := hd.there x hx
      rw [show H x = none from z] at e2; cases e2
  · rw [List.flatten_append] at z
    rcases List.mem_append.mp z with z | z
    · exact fzd q z
    · exact g.fz q z
  · rcases g.bG q o e with y | y | y
    · exact h.bG q o y
    · exact .inr (.inl (h.bN y))
    · exact .inr ((h.bO q (ins q y)).elim .inr .inl)
  · have e1 := h.bK q o e n
    refine keep q o e1 fun y => ?_
    rcases h.bO q (ins q y) with z | z
    · exact n z
    · rw [z] at e; cases e
  · obtain ⟨o1, e1⟩ := h.bD q o e
    exact g.bD q o1 e1
  · rw [List.flatten_append] at z
    rcases List.mem_append.mp z with z | z
    · exact h.bO q (ind q z)
    · rcases g.bO q z with y | y
      · exact h.bO q (ins q y)
      · exact .inr (h.bN y)
/-- the base for what runs from here -/
theorem OkF.base (h : OkF B Γ σ F H fps) : OkF ⟨F, H, fps.flatten⟩ Γ σ F H fps :=
  ⟨h.sl, h.nd, h.fz, h.ex, Ex.refl F, fun _ _ e => .inl e, fun _ _ e _ => e, fun _ o e => ⟨o, e⟩, fun _ z => .inl z⟩
/-- with one slot at the head -/
theorem Ok.compose1 {x : Option V} {τ' : St} (h : Ok B (s :: Γ) (x :: σ) F H) (k : ∀ fps, OkF ⟨F, H, fps.flatten⟩ Γ σ F H fps → Ok ⟨F, H, fps.flatten⟩ Γ' τ' F' H') : Ok B (s :: Γ') (x :: τ') F' H' := by
  obtain ⟨L, h⟩ := h
  cases h.sl with
  | @cons x s fp σ Γ fps a b =>
    obtain ⟨L', g⟩ := OkF.compose (Δ := [s]) (τ := [x]) (fpd := [fp]) h (.cons a .nil) (k fps h.pop.base)
    exact ⟨_, g⟩
/-- what ran from no slot at all (a def without objects handed over) -/
theorem Ok.after {τ' : St} (h : Ok B Γ σ F H) (g : Ok ⟨F, H, []⟩ Γ' τ' F' H') : Ok B (Γ' ++ Γ) (τ' ++ σ) F' H' := by
  obtain ⟨L, h⟩ := h
  have h2 : OkF B (Γ ++ []) (σ ++ []) F H (L ++ []) := by
    rw [List.append_nil, List.append_nil, List.append_nil]; exact h
  obtain ⟨L', g'⟩ := OkF.compose (Δ := Γ) (τ := σ) (fpd := L) (fps := []) h2 h.sl g
  have gs := g'.sl
  -- the two parts change places
  have sp : ∀ {σ₁ : St} {Γ₁ : List Sl} {f₁ : List (List Addr)}, SlsOk F H σ₁ Γ₁ f₁ → ∀ {σ₂ : St} {Γ₂ : List Sl} {f₂ : List (List Addr)}, SlsOk F' H' (σ₁ ++ σ₂) (Γ₁ ++ Γ₂) (f₁ ++ f₂) → SlsOk F' H' σ₁ Γ₁ f₁ ∧ SlsOk F' H' σ₂ Γ₂ f₂ := by
    intro σ₁ Γ₁ f₁ k
    induction k with
    | nil => intro σ₂ Γ₂ f₂ z; exact ⟨.nil, z⟩
    | cons a b ih =>
      intro σ₂ Γ₂ f₂ z
      cases z with
      | cons a' b' =>
        obtain ⟨z1, z2⟩ := ih b'
        exact ⟨.cons a' z1, z2⟩
  obtain ⟨s1, s2⟩ := sp h.sl gs
  have mm : ∀ q, q ∈ (L' ++ L).flatten → q ∈ (L ++ L').flatten := fun q z => by
    rw [List.flatten_append] at z ⊢
    exact List.mem_append.mpr ((List.mem_append.mp z).symm)
  refine ⟨L' ++ L, s2.append s1, ?_, fun q z => g'.fz q (mm q z), g'.ex, g'.bF, g'.bG, g'.bK, g'.bD, fun q z => g'.bO q (mm q z)⟩
  have nd := g'.nd
  rw [List.flatten_append, List.nodup_append] at nd ⊢
  obtain ⟨n1, n2, n3⟩ := nd
  exact ⟨n2, n1, fun x hx y hy e => n3 y hy x hx e.symm⟩
end
end TL
/-! TL2: data that stand still, lists of one's own, what an expression comes to. -/
namespace TL
open PySem L2
open Evl (Ex ex_l ex_t)

def wee : Nat := 4096
mutual
inductive Dq (K : PySem.W.Frag) (H : Hp) : V → PyData → Prop
  | non : Dq K H .non .none
  | bl (b : Bool) : Dq K H (.bl b) (.bool b)
  | int (i : Int) : Dq K H (.int i) (.int i)
  | str (x : Str) : Dq K H (.str x) (.str x)
  | lst {a : Addr} {xs : List V} {ds : List PyData} : SqL K H a xs → ds.length ≤ wee → DqAll K H xs ds → Dq K H (.ref a) (.list ds)
  | tup {a : Addr} {xs : List V} {ds : List PyData} : SqT K H a xs → ds.length ≤ wee → DqAll K H xs ds → Dq K H (.ref a) (.tuple ds)
inductive DqAll (K : PySem.W.Frag) (H : Hp) : List V → List PyData → Prop
  | nil : DqAll K H [] []
  | cons {v : V} {vs : List V} {d : PyData} {ds : List PyData} : Dq K H v d → DqAll K H vs ds → DqAll K H (v :: vs) (d :: ds)
end
section
variable {K : PySem.W.Frag} {H H' : Hp}
mutual
theorem Dq.mono (e : Ex H H') : ∀ (d : PyData) (v : V), Dq K H v d → Dq K H' v d
  | .none, _, h => by cases h; exact .non
  | .bool b, _, h => by cases h; exact .bl b
  | .int i, _, h => by cases h; exact .int i
  | .str x, _, h => by cases h; exact .str x
  | .list ds, _, h => by
    cases h with
    | lst a b c => exact .lst (ex_l e a) b (DqAll.mono e ds _ c)
  | .tuple ds, _, h => by
    cases h with
    | tup a b c => exact .tup (ex_t e a) b (DqAll.mono e ds _ c)
  | .dict _, _, h => by cases h
theorem DqAll.mono (e : Ex H H') : ∀ (ds : List PyData) (vs : List V), DqAll K H vs ds → DqAll K H' vs ds
  | [], _, h => by cases h; exact .nil
  | d :: ds, _, h => by
    cases h with
    | cons a b => exact .cons (Dq.mono e d _ a) (DqAll.mono e ds _ b)
end
mutual
theorem Dq.dp : ∀ (d : PyData) (v : V), Dq K H v d → Dp K H v d
  | .none, _, h => by cases h; exact .non
  | .bool b, _, h => by cases h; exact .bl b
  | .int i, _, h => by cases h; exact .int i
  | .str x, _, h => by cases h; exact .str x
  | .list ds, _, h => by
    cases h with
    | lst a b c => exact .lst a (DqAll.dp ds _ c)
  | .tuple ds, _, h => by
    cases h with
    | tup a b c => exact .tup a (DqAll.dp ds _ c)
  | .dict _, _, h => by cases h
theorem DqAll.dp : ∀ (ds : List PyData) (vs : List V), DqAll K H vs ds → DpAll K H vs ds
  | [], _, h => by cases h; exact .nil
  | d :: ds, _, h => by
    cases h with
    | cons a b => exact .cons (Dq.dp d _ a) (DqAll.dp ds _ b)
end
theorem DqAll.len : ∀ {vs : List V} {ds : List PyData}, DqAll K H vs ds → vs.length = ds.length
  | [], _, h => by cases h; rfl
  | v :: vs, _, h => by
    cases h with
    | cons a b => rw [List.length_cons, List.length_cons, DqAll.len b]
theorem DqAll.get : ∀ {vs : List V} {ds : List PyData} {i : Nat} {d : PyData}, DqAll K H vs ds → ds[i]? = some d → ∃ v, vs[i]? = some v ∧ Dq K H v d
  | [], _, _, _, h, e => by cases h; simp at e
  | v :: vs, _, i, d, h, e => by
    cases h with
    | cons a b =>
      cases i with
      | zero => simp at e; subst e; exact ⟨v, rfl, a⟩
      | succ i => exact DqAll.get (i := i) b (by simpa using e)
theorem DqAll.get' : ∀ {vs : List V} {ds : List PyData} {i : Nat} {v : V}, DqAll K H vs ds → vs[i]? = some v → ∃ d, ds[i]? = some d ∧ Dq K H v d
  | [], _, _, _, h, e => by simp at e
  | v :: vs, _, i, w, h, e => by
    cases h with
    | @cons _ _ d _ a b =>
      cases i with
      | zero => simp at e; subst e; exact ⟨d, rfl, a⟩
      | succ i => exact DqAll.get' (i := i) b (by simpa using e)
theorem DqAll.append : ∀ {vs ws : List V} {ds es : List PyData}, DqAll K H vs ds → DqAll K H ws es → DqAll K H (vs ++ ws) (ds ++ es)
  | [], _, _, _, h, g => by cases h; exact g
  | v :: vs, _, _, _, h, g => by
    cases h with
    | cons a b => exact .cons a (DqAll.append b g)
theorem DqAll.take : ∀ {vs : List V} {ds : List PyData} (n : Nat), DqAll K H vs ds → DqAll K H (vs.take n) (ds.take n)
  | _, _, 0, h => by simp only [List.take_zero]; exact .nil
  | [], _, n + 1, h => by cases h; exact .nil
  | v :: vs, _, n + 1, h => by
    cases h with
    | cons a b => exact .cons a (DqAll.take n b)
theorem DqAll.drop : ∀ {vs : List V} {ds : List PyData} (n : Nat), DqAll K H vs ds → DqAll K H (vs.drop n) (ds.drop n)
  | _, _, 0, h => h
  | [], _, n + 1, h => by cases h; exact .nil
  | v :: vs, _, n + 1, h => by
    cases h with
    | cons a b => exact DqAll.drop n b
theorem DqAll.reverse : ∀ {vs : List V} {ds : List PyData}, DqAll K H vs ds → DqAll K H vs.reverse ds.reverse
  | [], _, h => by cases h; exact .nil
  | v :: vs, _, h => by
    cases h with
    | cons a b =>
      rw [List.reverse_cons, List.reverse_cons]
      exact DqAll.append (DqAll.reverse b) (.cons a .nil)
theorem DqAll.ints {ns : List Int} : DqAll K H (ns.map V.int) (ns.map PyData.int) := by
  induction ns with
  | nil => exact .nil
  | cons n r ih => exact .cons (.int n) ih
theorem DqAll.ints_inv : ∀ {ns : List Int} {vs : List V}, DqAll K H vs (ns.map PyData.int) → vs = ns.map V.int
  | [], _, h => by cases h; rfl
  | n :: r, _, h => by
    cases h with
    | cons a b => cases a; rw [DqAll.ints_inv b]; rfl
theorem DqAll.bools_inv : ∀ {ns : List Bool} {vs : List V}, DqAll K H vs (ns.map PyData.bool) → vs = ns.map V.bl
  | [], _, h => by cases h; rfl
  | n :: r, _, h => by
    cases h with
    | cons a b => cases a; rw [DqAll.bools_inv b]; rfl
end
/-- data that stand still -/
def rD (K : PySem.W.Frag) : Rp PyData := ⟨fun H v d => Dq K H v d, fun {_ _ _ _} e h => Dq.mono e _ _ h⟩
/-- a list of one's own -/
def oL (K : PySem.W.Frag) : Ow (List PyData) where
  O := fun F H p fp ds => fp = [p] ∧ ∃ xs, H p = some (.lst xs) ∧ ds.length ≤ wee ∧ DqAll K F xs ds
  frame := fun {F F' H H' p fp a} e k ⟨h1, xs, h2, h3, h4⟩ => ⟨h1, xs, by rw [k p (by rw [h1]; exact List.mem_singleton.mpr rfl)]; exact h2, h3, DqAll.mono e _ _ h4⟩
  there := fun {F H p fp a} ⟨h1, xs, h2, _⟩ q hq => by
    rw [h1] at hq
    have e : q = p := by simpa using hq
    rw [e]; exact ⟨_, h2⟩
abbrev Da (K : PySem.W.Frag) (d : PyData) : Sl := .val (rD K) d

/-! ### what an expression, a test, arguments come to -/
def E (te : TE) (Γ : List Sl) (k : List Sl → Sl → Prop) : Prop := ∀ (B : Bs) (σ : St) (F H : Hp), Ok B Γ σ F H → ∀ Q : VK, (∀ Γ' s v F' H', k Γ' s → Ok B (s :: Γ') (some v :: σ) F' H' → Ex F F' → Q v H') → te σ H Q
def T (tt : TT) (Γ : List Sl) (k : List Sl → Bool → Prop) : Prop := ∀ (B : Bs) (σ : St) (F H : Hp), Ok B Γ σ F H → ∀ Q : Bool → Hp → Prop, (∀ Γ' b F' H', k Γ' b → Ok B Γ' σ F' H' → Ex F F' → Q b H') → tt σ H Q
def A (ta : TA) (Γ : List Sl) (k : List Sl → List Sl → Prop) : Prop := ∀ (B : Bs) (σ : St) (F H : Hp), Ok B Γ σ F H → ∀ Q : List V → Hp → Prop, (∀ Γ' ss vs F' H', k Γ' ss → ss.length = vs.length → Ok B (ss ++ Γ') (vs.map some ++ σ) F' H' → Ex F F' → Q vs H') → ta σ H Q
/-- .. of one datum, the slots as they stand -/
def EP (te : TE) (Γ : List Sl) (s : Sl) : Prop := E te Γ fun Γ' s' => Γ' = Γ ∧ s' = s
def TP (tt : TT) (Γ : List Sl) (b : Bool) : Prop := T tt Γ fun Γ' b' => Γ' = Γ ∧ b' = b
def AP (ta : TA) (Γ : List Sl) (ss : List Sl) : Prop := A ta Γ fun Γ' ss' => Γ' = Γ ∧ ss' = ss
/-- .. of a new list of one's own -/
def EO (te : TE) (Γ : List Sl) {α : Type} (o : Ow α) (a : α) : Prop := E te Γ fun Γ' s' => Γ' = Γ ∧ ∃ p, s' = .own p o a

section
variable {K : PySem.W.Frag} {B : Bs} {Γ Δ Γ' : List Sl} {σ τ : St} {F F' H H' : Hp} {s : Sl} {v : V} {te ta tb tc : TE} {tt tu : TT} {k k' : List Sl → Sl → Prop} {d e x y z : PyData} {i j : Nat}
theorem E.imp (h : E te Γ k) (w : ∀ Γ' s, k Γ' s → k' Γ' s) : E te Γ k' := fun B σ F H I Q q => h B σ F H I Q fun Γ' s v F' H' a b c => q Γ' s v F' H' (w _ _ a) b c
theorem EP.to (h : EP te Γ s) (w : k Γ s) : E te Γ k := h.imp fun Γ' s' ⟨a, b⟩ => by subst a b; exact w
theorem TP.to {k : List Sl → Bool → Prop} {b : Bool} (h : TP tt Γ b) (w : k Γ b) : T tt Γ k := fun B σ F H I Q q => h B σ F H I Q fun Γ' s F' H' ⟨a, b⟩ c d => by subst a b; exact q _ _ F' H' w c d
theorem EP.is {s' : Sl} (h : EP te Γ s) (w : s = s') : EP te Γ s' := by subst w; exact h
theorem TP.is {b b' : Bool} (h : TP tt Γ b) (w : b = b') : TP tt Γ b' := by subst w; exact h
/-- what runs, run with something ahead -/
theorem split {σ₁ : St} {Γ₁ : List Sl} (hl : σ₁.length = Γ₁.length) : ∀ {σ₂ : St} {Γ₂ : List Sl} {f : List (List Addr)}, SlsOk F H (σ₁ ++ σ₂) (Γ₁ ++ Γ₂) f → ∃ f₁ f₂, f = f₁ ++ f₂ ∧ SlsOk F H σ₁ Γ₁ f₁ ∧ SlsOk F H σ₂ Γ₂ f₂ := by
  induction Γ₁ generalizing σ₁ with
  | nil =>
    have e : σ₁ = [] := List.eq_nil_of_length_eq_zero hl
    subst e
    intro σ₂ Γ₂ f h
    exact ⟨[], f, rfl, .nil, h⟩
  | cons s r ih =>
    cases σ₁ with
    | nil => simp at hl
    | cons a t =>
      intro σ₂ Γ₂ f h
      cases h with
      | cons u w =>
        obtain ⟨f₁, f₂, e, g1, g2⟩ := ih (by simpa using hl) w
        subst e
        exact ⟨_, f₂, rfl, .cons u g1, g2⟩
theorem under (hl : τ.length = Δ.length) (h : Ok B (Δ ++ Γ) (τ ++ σ) F H) : ∃ B', Ok B' Γ σ F H ∧ ∀ Γ' σ' F' H', Ok B' Γ' σ' F' H' → Ok B (Δ ++ Γ') (τ ++ σ') F' H' := by
  obtain ⟨L, h⟩ := h
  obtain ⟨f₁, f₂, e, g1, g2⟩ := split hl h.sl
  subst e
  have sub : ∀ q ∈ f₂.flatten, q ∈ (f₁ ++ f₂).flatten := fun q z => by rw [List.flatten_append]; exact List.mem_append_right _ z
  have nd := h.nd
  rw [List.flatten_append, List.nodup_append] at nd
  have h2 : OkF B Γ σ F H f₂ := ⟨g2, nd.2.1, fun q z => h.fz q (sub q z), h.ex, h.bF, h.bG, h.bK, h.bD, fun q z => h.bO q (sub q z)⟩
  exact ⟨_, ⟨f₂, h2.base⟩, fun Γ' σ' F' H' g => by
    obtain ⟨f', g'⟩ := OkF.compose h g1 g
    exact ⟨_, g'⟩⟩
theorem E.under (h : E te Γ k) (hl : τ.length = Δ.length) (I : Ok B (Δ ++ Γ) (τ ++ σ) F H) {Q : VK} (q : ∀ Γ' s v F' H', k Γ' s → Ok B (Δ ++ s :: Γ') (τ ++ some v :: σ) F' H' → Ex F F' → Q v H') : te σ H Q := by
  obtain ⟨B', I', c⟩ := TL.under hl I
  exact h B' σ F H I' Q fun Γ' s v F' H' a b e => q Γ' s v F' H' a (c _ _ _ _ b) e
theorem T.under {k : List Sl → Bool → Prop} (h : T tt Γ k) (hl : τ.length = Δ.length) (I : Ok B (Δ ++ Γ) (τ ++ σ) F H) {Q : Bool → Hp → Prop} (q : ∀ Γ' b F' H', k Γ' b → Ok B (Δ ++ Γ') (τ ++ σ) F' H' → Ex F F' → Q b H') : tt σ H Q := by
  obtain ⟨B', I', c⟩ := TL.under hl I
  exact h B' σ F H I' Q fun Γ' s F' H' a b e => q Γ' s F' H' a (c _ _ _ _ b) e
theorem A.under {ta : TA} {k : List Sl → List Sl → Prop} (h : A ta Γ k) (hl : τ.length = Δ.length) (I : Ok B (Δ ++ Γ) (τ ++ σ) F H) {Q : List V → Hp → Prop} (q : ∀ Γ' ss vs F' H', k Γ' ss → ss.length = vs.length → Ok B (Δ ++ (ss ++ Γ')) (τ ++ (vs.map some ++ σ)) F' H' → Ex F F' → Q vs H') : ta σ H Q := by
  obtain ⟨B', I', c⟩ := TL.under hl I
  exact h B' σ F H I' Q fun Γ' s v F' H' a n b e => q Γ' s v F' H' a n (c _ _ _ _ b) e
/-- the head read -/
theorem Ok.head {x : Option V} {α : Type} {r : Rp α} {a : α} (h : Ok B (.val r a :: Γ) (x :: σ) F H) : ∃ v, x = some v ∧ r.R F v a := by
  obtain ⟨L, h⟩ := h
  cases h.sl with
  | cons u w =>
    cases u with
    | val hr => exact ⟨_, rfl, hr⟩
theorem Ok.ex (h : Ok B Γ σ F H) : Ex F H := by obtain ⟨L, h⟩ := h; exact h.ex
theorem Ok.at_ {α : Type} {r : Rp α} {a : α} (h : Ok B Γ σ F H) (e : Γ[i]? = some (.val r a)) : ∃ v, σ[i]? = some (some v) ∧ r.R F v a := by
  obtain ⟨L, h⟩ := h
  obtain ⟨x, fp, e1, _, u⟩ := h.sl.get e
  cases u with
  | val hr => exact ⟨_, e1, hr⟩
theorem Ok.push {α : Type} {r : Rp α} {a : α} (h : Ok B Γ σ F H) (hr : r.R F v a) : Ok B (.val r a :: Γ) (some v :: σ) F H := by
  obtain ⟨L, h⟩ := h
  exact ⟨_, h.push hr⟩
theorem Ok.alloc {p : Addr} {o : HO} (h : Ok B Γ σ F H) (hp : H p = none) : Ok B Γ σ (upd F p o) (upd H p o) := by
  obtain ⟨L, h⟩ := h
  exact ⟨_, h.alloc hp⟩
theorem Ok.nF {p : Addr} (h : Ok B Γ σ F H) (hp : H p = none) : F p = none := by
  obtain ⟨L, h⟩ := h
  exact h.nF hp
theorem Ok.pushL {p : Addr} {xs : List V} {ds : List PyData} (h : Ok B Γ σ F H) (hp : H p = none) (hz : ds.length ≤ wee) (hd : DqAll K F xs ds) : Ok B (.own p (oL K) ds :: Γ) (some (.ref p) :: σ) F (upd H p (.lst xs)) := by
  obtain ⟨L, h⟩ := h
  exact ⟨_, h.pushO hp ⟨rfl, xs, upd_same, hz, hd⟩⟩
/-- a list of one's own stands still from now on -/
theorem Ok.freeze {p : Addr} {ds : List PyData} {x : Option V} (h : Ok B (.own p (oL K) ds :: Γ) (x :: σ) F H) : ∃ F', x = some (.ref p) ∧ Ex F F' ∧ Ok B (Da K (.list ds) :: Γ) (x :: σ) F' H := by
  obtain ⟨L, h⟩ := h
  cases h.sl with
  | @cons x s fp σ Γ fps u w =>
    cases u with
    | own ho =>
      obtain ⟨e1, xs, e2, e3, e4⟩ := ho
      subst e1
      have np : F p = none := h.fz p (by rw [List.flatten_cons]; exact List.mem_append_left _ (List.mem_singleton.mpr rfl))
      have eF : Ex F (upd F p (.lst xs)) := Ex.new np
      have nd := h.nd
      rw [List.flatten_cons, List.nodup_append] at nd
      have nin : ∀ q ∈ fps.flatten, q ≠ p := fun q z e => nd.2.2 p (List.mem_singleton.mpr rfl) q z e.symm
      refine ⟨upd F p (.lst xs), rfl, eF, [] :: fps, .cons (.val (Dq.lst (.inl (.inl upd_same)) e3 (DqAll.mono eF _ _ e4))) (w.frame eF fun q _ => rfl), nd.2.1, fun q z => ?_, fun q o z => ?_, h.bF.trans eF, fun q o z => ?_, h.bK, h.bD, fun q z => h.bO q (by rw [List.flatten_cons]; exact List.mem_append_right _ z)⟩
      · rw [upd_ne (nin q z)]
        exact h.fz q (by rw [List.flatten_cons]; exact List.mem_append_right _ z)
      · by_cases e : q = p
        · subst e; rw [upd_same] at z; cases z; exact e2
        · rw [upd_ne e] at z; exact h.ex q o z
      · by_cases e : q = p
        · subst e
          rcases h.bO q (by rw [List.flatten_cons]; exact List.mem_append_left _ (List.mem_singleton.mpr rfl)) with y | y
          · exact .inr (.inr y)
          · exact .inr (.inl y)
        · rw [upd_ne e] at z; exact h.bG q o z
theorem EO.frz {ds : List PyData} (h : EO te Γ (oL K) ds) : EP te Γ (Da K (.list ds)) := fun B σ F H I Q q => h B σ F H I Q fun Γ' s v F' H' ⟨a, p, b⟩ c e => by
  subst a b
  obtain ⟨F2, e1, e2, c2⟩ := c.freeze
  exact q _ _ v F2 H' ⟨rfl, rfl⟩ c2 (e.trans e2)

/-! ### names, constants -/
theorem ep_var {α : Type} {r : Rp α} {a : α} (h : Γ[i]? = some (.val r a)) : EP (tVar i) Γ (.val r a) := fun B σ F H I Q q => by
  obtain ⟨v, e, hr⟩ := I.at_ h
  exact ⟨v, e, q _ _ v F H ⟨rfl, rfl⟩ (I.push hr) (Ex.refl F)⟩
theorem ep_val {α : Type} {r : Rp α} {a : α} (h : ∀ F, r.R F v a) : EP (tC v) Γ (.val r a) := fun B σ F H I Q q => q _ _ v F H ⟨rfl, rfl⟩ (I.push (h F)) (Ex.refl F)
theorem ep_int {n : Int} : EP (tC (.int n)) Γ (Da K (.int n)) := ep_val fun F => Dq.int n
theorem ep_bl {n : Bool} : EP (tC (.bl n)) Γ (Da K (.bool n)) := ep_val fun F => Dq.bl n
theorem ep_str {n : Str} : EP (tC (.str n)) Γ (Da K (.str n)) := ep_val fun F => Dq.str n
theorem ep_non : EP (tC .non) Γ (Da K .none) := ep_val fun F => Dq.non

/-! ### operators -/
/-- by values: from x and y comes z -/
def RD (K : PySem.W.Frag) (r : R2) (x y z : PyData) : Prop := ∀ (B : Bs) (Γ : List Sl) (σ : St) (F H : Hp) (v w : V), Ok B Γ σ F H → Dq K F v x → Dq K F w y → ∀ Q : VK, (∀ u F' H', Ok B (Da K z :: Γ) (some u :: σ) F' H' → Ex F F' → Q u H') → r v w H Q
def UD (K : PySem.W.Frag) (r : V → Hp → VK → Prop) (x z : PyData) : Prop := ∀ (B : Bs) (Γ : List Sl) (σ : St) (F H : Hp) (v : V), Ok B Γ σ F H → Dq K F v x → ∀ Q : VK, (∀ u F' H', Ok B (Da K z :: Γ) (some u :: σ) F' H' → Ex F F' → Q u H') → r v H Q
def CD (K : PySem.W.Frag) (r : List V → Hp → VK → Prop) (xs : List PyData) (z : PyData) : Prop := ∀ (B : Bs) (Γ : List Sl) (σ : St) (F H : Hp) (vs : List V), Ok B Γ σ F H → DqAll K F vs xs → ∀ Q : VK, (∀ u F' H', Ok B (Da K z :: Γ) (some u :: σ) F' H' → Ex F F' → Q u H') → r vs H Q
/-- .. a new list -/
def CO (K : PySem.W.Frag) (r : List V → Hp → VK → Prop) (xs : List PyData) (ds : List PyData) : Prop := ∀ (B : Bs) (Γ : List Sl) (σ : St) (F H : Hp) (vs : List V), Ok B Γ σ F H → DqAll K F vs xs → ∀ Q : VK, (∀ p H', Ok B (.own p (oL K) ds :: Γ) (some (.ref p) :: σ) F H' → Q (.ref p) H') → r vs H Q
def RO (K : PySem.W.Frag) (r : R2) (x y : PyData) (ds : List PyData) : Prop := ∀ (B : Bs) (Γ : List Sl) (σ : St) (F H : Hp) (v w : V), Ok B Γ σ F H → Dq K F v x → Dq K F w y → ∀ Q : VK, (∀ p H', Ok B (.own p (oL K) ds :: Γ) (some (.ref p) :: σ) F H' → Q (.ref p) H') → r v w H Q
theorem ep_op {r : R2} (ha : EP ta Γ (Da K x)) (hb : EP tb Γ (Da K y)) (hr : RD K r x y z) : EP (tOp r ta tb) Γ (Da K z) := fun B σ F H I Q q =>
  ha B σ F H I _ fun Γ1 s1 v F1 H1 ⟨a, b⟩ I1 e1 => by
    subst a b
    refine E.under hb (τ := [some v]) (Δ := [Da K x]) rfl I1 fun Γ2 s2 w F2 H2 ⟨a, b⟩ I2 e2 => ?_
    subst a b
    obtain ⟨v', h1, hv⟩ := Ok.head I2
    cases h1
    obtain ⟨w', h2, hw⟩ := Ok.head (Ok.pop I2)
    cases h2
    exact hr B _ _ F2 H2 v w (Ok.pop (Ok.pop I2)) hv hw Q fun u F3 H3 I3 e3 => q _ _ u F3 H3 ⟨rfl, rfl⟩ I3 ((e1.trans e2).trans e3)
theorem eo_op {r : R2} {ds : List PyData} (ha : EP ta Γ (Da K x)) (hb : EP tb Γ (Da K y)) (hr : RO K r x y ds) : EO (tOp r ta tb) Γ (oL K) ds := fun B σ F H I Q q =>
  ha B σ F H I _ fun Γ1 s1 v F1 H1 ⟨a, b⟩ I1 e1 => by
    subst a b
    refine E.under hb (τ := [some v]) (Δ := [Da K x]) rfl I1 fun Γ2 s2 w F2 H2 ⟨a, b⟩ I2 e2 => ?_
    subst a b
    obtain ⟨v', h1, hv⟩ := Ok.head I2
    cases h1
    obtain ⟨w', h2, hw⟩ := Ok.head (Ok.pop I2)
    cases h2
    exact hr B _ _ F2 H2 v w (Ok.pop (Ok.pop I2)) hv hw Q fun p H3 I3 => q _ _ _ F2 H3 ⟨rfl, p, rfl⟩ I3 (e1.trans e2)
theorem ep_un {r : V → Hp → VK → Prop} (ha : EP ta Γ (Da K x)) (hr : UD K r x z) : EP (tUn r ta) Γ (Da K z) := fun B σ F H I Q q =>
  ha B σ F H I _ fun Γ1 s1 v F1 H1 ⟨a, b⟩ I1 e1 => by
    subst a b
    obtain ⟨v', h1, hv⟩ := Ok.head I1
    cases h1
    exact hr B _ _ F1 H1 v (Ok.pop I1) hv Q fun u F3 H3 I3 e3 => q _ _ u F3 H3 ⟨rfl, rfl⟩ I3 (e1.trans e3)

/-! ### arguments -/
theorem ap_nil : AP tNil Γ [] := fun B σ F H I Q q => q _ _ [] F H ⟨rfl, rfl⟩ rfl I (Ex.refl F)
theorem ap_cons {tr : TA} {ss : List Sl} (ha : EP ta Γ s) (hr : AP tr Γ ss) : AP (tCons ta tr) Γ (s :: ss) := fun B σ F H I Q q =>
  ha B σ F H I _ fun Γ1 s1 v F1 H1 ⟨a, b⟩ I1 e1 => by
    subst a b
    refine A.under hr (τ := [some v]) (Δ := [s1]) rfl I1 fun Γ2 s2 w F2 H2 ⟨a, b⟩ n I2 e2 => ?_
    subst a b
    exact q _ (s1 :: s2) (v :: w) F2 H2 ⟨rfl, rfl⟩ (by simp [n]) I2 (e1.trans e2)
/-- data all -/
theorem Ok.all : ∀ {xs : List PyData} {vs : List V}, xs.length = vs.length → Ok B (xs.map (Da K) ++ Γ) (vs.map some ++ σ) F H → DqAll K F vs xs ∧ Ok B Γ σ F H
  | [], [], _, h => ⟨.nil, h⟩
  | [], _ :: _, n, _ => by simp at n
  | _ :: _, [], n, _ => by simp at n
  | x :: xs, v :: vs, n, h => by
    obtain ⟨v', e, hv⟩ := Ok.head (show Ok B (Da K x :: (xs.map (Da K) ++ Γ)) (some v :: (vs.map some ++ σ)) F H from h)
    cases e
    obtain ⟨a, b⟩ := Ok.all (xs := xs) (vs := vs) (by simpa using n) (Ok.pop h)
    exact ⟨.cons hv a, b⟩
theorem ep_cb {r : List V → Hp → VK → Prop} {t : TA} {xs : List PyData} (ha : AP t Γ (xs.map (Da K))) (hr : CD K r xs z) : EP (tCB r t) Γ (Da K z) := fun B σ F H I Q q =>
  ha B σ F H I _ fun Γ1 ss vs F1 H1 ⟨a, b⟩ n I1 e1 => by
    subst a b
    obtain ⟨h1, h2⟩ := Ok.all (by simpa using n) I1
    exact hr B _ _ F1 H1 vs h2 h1 Q fun u F3 H3 I3 e3 => q _ _ u F3 H3 ⟨rfl, rfl⟩ I3 (e1.trans e3)
theorem eo_cb {r : List V → Hp → VK → Prop} {t : TA} {xs ds : List PyData} (ha : AP t Γ (xs.map (Da K))) (hr : CO K r xs ds) : EO (tCB r t) Γ (oL K) ds := fun B σ F H I Q q =>
  ha B σ F H I _ fun Γ1 ss vs F1 H1 ⟨a, b⟩ n I1 e1 => by
    subst a b
    obtain ⟨h1, h2⟩ := Ok.all (by simpa using n) I1
    exact hr B _ _ F1 H1 vs h2 h1 Q fun p H3 I3 => q _ _ _ F1 H3 ⟨rfl, p, rfl⟩ I3 e1
/-- a written tuple, a written list -/
theorem ep_tup {t : TA} {xs : List PyData} (ha : AP t Γ (xs.map (Da K))) (hz : xs.length ≤ wee) : EP (tTup t) Γ (Da K (.tuple xs)) := fun B σ F H I Q q =>
  ha B σ F H I _ fun Γ1 ss vs F1 H1 ⟨a, b⟩ n I1 e1 => by
    subst a b
    obtain ⟨h1, h2⟩ := Ok.all (by simpa using n) I1
    refine ⟨Nat.le_trans (by rw [h1.len]; exact hz) (by decide), fun p hp => ?_⟩
    have eF : Ex F1 (upd F1 p (.tup vs)) := Ex.new (h2.nF hp)
    exact q _ _ _ (upd F1 p (.tup vs)) _ ⟨rfl, rfl⟩ ((h2.alloc hp).push (Dq.tup (.inl (.inl upd_same)) hz (DqAll.mono eF _ _ h1))) (e1.trans eF)
theorem eo_lst {t : TA} {xs : List PyData} (ha : AP t Γ (xs.map (Da K))) (hz : xs.length ≤ wee) : EO (tLst t) Γ (oL K) xs := fun B σ F H I Q q =>
  ha B σ F H I _ fun Γ1 ss vs F1 H1 ⟨a, b⟩ n I1 e1 => by
    subst a b
    obtain ⟨h1, h2⟩ := Ok.all (by simpa using n) I1
    exact ⟨Nat.le_trans (by rw [h1.len]; exact hz) (by decide), fun p hp => q _ _ _ F1 _ ⟨rfl, p, rfl⟩ (h2.pushL hp hz h1) e1⟩

/-! ### tests -/
theorem tp_test {b : Bool} (h : EP te Γ (Da K (.bool b))) : TP (tTest te) Γ b := fun B σ F H I Q q => h B σ F H I _ fun Γ1 s1 v F1 H1 ⟨a, c⟩ I1 e1 => by
  subst a c
  obtain ⟨v', e, hv⟩ := Ok.head I1
  cases e
  cases hv
  exact ⟨b, rfl, q _ _ F1 H1 ⟨rfl, rfl⟩ (Ok.pop I1) e1⟩
theorem tp_B {b : Bool} (h : EP te Γ (Da K (.bool b))) : TP (tB te) Γ b := fun B σ F H I Q q => h B σ F H I _ fun Γ1 s1 v F1 H1 ⟨a, c⟩ I1 e1 => by
  subst a c
  obtain ⟨v', e, hv⟩ := Ok.head I1
  cases e
  cases hv
  exact ⟨b, rfl, q _ _ F1 H1 ⟨rfl, rfl⟩ (Ok.pop I1) e1⟩
theorem tp_yes : TP tYes Γ true := fun B σ F H I Q q => q _ _ F H ⟨rfl, rfl⟩ I (Ex.refl F)
theorem tp_not {b : Bool} (h : TP tt Γ b) : TP (tNot tt) Γ (!b) := fun B σ F H I Q q => h B σ F H I _ fun Γ1 b1 F1 H1 ⟨a, c⟩ I1 e1 => by
  subst a c
  exact q _ _ F1 H1 ⟨rfl, rfl⟩ I1 e1
theorem tp_and {a b : Bool} (h1 : TP tt Γ a) (h2 : a = true → TP tu Γ b) : TP (tAnd tt tu) Γ (a && b) := fun B σ F H I Q q => h1 B σ F H I _ fun Γ1 b1 F1 H1 ⟨u, w⟩ I1 e1 => by
  subst u w
  cases b1 with
  | true =>
    show tu σ H1 Q
    exact h2 rfl B σ F1 H1 I1 Q fun Γ2 b2 F2 H2 ⟨u, w⟩ I2 e2 => by subst u w; exact q _ _ F2 H2 ⟨rfl, rfl⟩ I2 (e1.trans e2)
  | false =>
    show Q false H1
    exact q _ _ F1 H1 ⟨rfl, rfl⟩ I1 e1
theorem tp_or {a b : Bool} (h1 : TP tt Γ a) (h2 : a = false → TP tu Γ b) : TP (tOr tt tu) Γ (a || b) := fun B σ F H I Q q => h1 B σ F H I _ fun Γ1 b1 F1 H1 ⟨u, w⟩ I1 e1 => by
  subst u w
  cases b1 with
  | true =>
    show Q true H1
    exact q _ _ F1 H1 ⟨rfl, rfl⟩ I1 e1
  | false =>
    show tu σ H1 Q
    exact h2 rfl B σ F1 H1 I1 Q fun Γ2 b2 F2 H2 ⟨u, w⟩ I2 e2 => by subst u w; exact q _ _ F2 H2 ⟨rfl, rfl⟩ I2 (e1.trans e2)
theorem ep_andV {a b : Bool} (h1 : EP ta Γ (Da K (.bool a))) (h2 : a = true → EP tb Γ (Da K (.bool b))) : EP (tAndV ta tb) Γ (Da K (.bool (a && b))) := fun B σ F H I Q q => h1 B σ F H I _ fun Γ1 s1 v F1 H1 ⟨u, w⟩ I1 e1 => by
  subst u w
  obtain ⟨v', e, hv⟩ := Ok.head I1
  cases e
  cases hv
  refine ⟨a, rfl, ?_⟩
  cases a with
  | true =>
    show tb σ H1 Q
    exact h2 rfl B σ F1 H1 (Ok.pop I1) Q fun Γ2 b2 w F2 H2 ⟨u, x⟩ I2 e2 => by subst u x; exact q _ _ w F2 H2 ⟨rfl, rfl⟩ I2 (e1.trans e2)
  | false =>
    show Q (.bl false) H1
    exact q _ _ _ F1 H1 ⟨rfl, rfl⟩ I1 e1
theorem ep_orV {a b : Bool} (h1 : EP ta Γ (Da K (.bool a))) (h2 : a = false → EP tb Γ (Da K (.bool b))) : EP (tOrV ta tb) Γ (Da K (.bool (a || b))) := fun B σ F H I Q q => h1 B σ F H I _ fun Γ1 s1 v F1 H1 ⟨u, w⟩ I1 e1 => by
  subst u w
  obtain ⟨v', e, hv⟩ := Ok.head I1
  cases e
  cases hv
  refine ⟨a, rfl, ?_⟩
  cases a with
  | true =>
    show Q (.bl true) H1
    exact q _ _ _ F1 H1 ⟨rfl, rfl⟩ I1 e1
  | false =>
    show tb σ H1 Q
    exact h2 rfl B σ F1 H1 (Ok.pop I1) Q fun Γ2 b2 w F2 H2 ⟨u, x⟩ I2 e2 => by subst u x; exact q _ _ w F2 H2 ⟨rfl, rfl⟩ I2 (e1.trans e2)
theorem ep_notV {a : Bool} (h1 : EP ta Γ (Da K (.bool a))) : EP (tNotV ta) Γ (Da K (.bool (!a))) := fun B σ F H I Q q => h1 B σ F H I _ fun Γ1 s1 v F1 H1 ⟨u, w⟩ I1 e1 => by
  subst u w
  obtain ⟨v', e, hv⟩ := Ok.head I1
  cases e
  cases hv
  exact ⟨a, rfl, q _ _ _ F1 H1 ⟨rfl, rfl⟩ ((Ok.pop I1).push (Dq.bl _)) e1⟩
/-- a if t else b -/
theorem ep_if {b : Bool} (hc : TP tt Γ b) (h1 : b = true → EP ta Γ s) (h2 : b = false → EP tb Γ s) : EP (tIf tt ta tb) Γ s := fun B σ F H I Q q => hc B σ F H I _ fun Γ1 b1 F1 H1 ⟨u, w⟩ I1 e1 => by
  subst u w
  cases b1 with
  | true =>
    show ta σ H1 Q
    exact h1 rfl B σ F1 H1 I1 Q fun Γ2 s2 w F2 H2 ⟨u, x⟩ I2 e2 => by subst u x; exact q _ _ w F2 H2 ⟨rfl, rfl⟩ I2 (e1.trans e2)
  | false =>
    show tb σ H1 Q
    exact h2 rfl B σ F1 H1 I1 Q fun Γ2 s2 w F2 H2 ⟨u, x⟩ I2 e2 => by subst u x; exact q _ _ w F2 H2 ⟨rfl, rfl⟩ I2 (e1.trans e2)
theorem ep_ite {b : Bool} (hc : TP tt Γ b) (h1 : b = true → EP ta Γ (Da K x)) (h2 : b = false → EP tb Γ (Da K y)) : EP (tIf tt ta tb) Γ (Da K (if b = true then x else y)) := by
  cases b with
  | true => exact ep_if hc (fun _ => h1 rfl) fun z => nomatch z
  | false => exact ep_if hc (fun z => nomatch z) fun _ => h2 rfl
/-- a op b op c -/
theorem ep_chain {r r' : R2} {a b : Bool} (ha : EP ta Γ (Da K x)) (hb : EP tb Γ (Da K y)) (hr : RD K r x y (.bool a)) (hc : a = true → EP tc Γ (Da K z)) (hr' : RD K r' y z (.bool b)) : EP (tChain r r' ta tb tc) Γ (Da K (.bool (a && b))) := fun B σ F H I Q q =>
  ha B σ F H I _ fun Γ1 s1 v F1 H1 ⟨u, w⟩ I1 e1 => by
    subst u w
    refine E.under hb (τ := [some v]) (Δ := [Da K x]) rfl I1 fun Γ2 s2 w F2 H2 ⟨a, b⟩ I2 e2 => ?_
    subst a b
    obtain ⟨v', h1, hv⟩ := Ok.head I2
    cases h1
    obtain ⟨w', h2, hw⟩ := Ok.head (Ok.pop I2)
    cases h2
    refine hr B _ _ F2 H2 v w (Ok.pop I2) hv hw _ fun u F3 H3 I3 e3 => ?_
    obtain ⟨u', h3, hu⟩ := Ok.head I3
    cases h3
    cases hu
    refine ⟨a, rfl, ?_⟩
    cases a with
    | true =>
      show tc σ H3 fun w' H4 => r' w w' H4 Q
      refine E.under (hc rfl) (τ := [some w]) (Δ := [Da K y]) rfl (Ok.pop I3) fun Γ4 s4 w4 F4 H4 ⟨a, b⟩ I4 e4 => ?_
      subst a b
      obtain ⟨v5, h5, hv5⟩ := Ok.head I4
      cases h5
      obtain ⟨w6, h6, hw6⟩ := Ok.head (Ok.pop I4)
      cases h6
      exact hr' B _ _ F4 H4 w w4 (Ok.pop (Ok.pop I4)) hv5 hw6 Q fun u F5 H5 I5 e5 => q _ _ u F5 H5 ⟨rfl, rfl⟩ I5 ((((e1.trans e2).trans e3).trans e4).trans e5)
    | false =>
      show Q (.bl false) H3
      exact q _ _ _ F3 H3 ⟨rfl, rfl⟩ ((Ok.pop (Ok.pop I3)).push (Dq.bl false)) ((e1.trans e2).trans e3)

/-! ### the operators' rules -/
theorem rd_v {r : R2} (h : ∀ F H v w, Ex F H → Dq K F v x → Dq K F w y → ∃ u, Dq K F u z ∧ ∀ Q : VK, Q u H → r v w H Q) : RD K r x y z := fun B Γ σ F H v w I hv hw Q q => by
  obtain ⟨u, h1, h2⟩ := h F H v w I.ex hv hw
  exact h2 Q (q u F H (I.push h1) (Ex.refl F))
theorem rd_I0 {g : Int → Int → V} {a b c : Int} (h : g a b = .int c) : RD K (rI0 g) (.int a) (.int b) (.int c) := rd_v fun F H v w _ hv hw => by
  cases hv; cases hw
  exact ⟨.int c, Dq.int c, fun Q q => ⟨a, b, rfl, rfl, by rw [h]; exact q⟩⟩
theorem rd_I0b {g : Int → Int → V} {a b : Int} {c : Bool} (h : g a b = .bl c) : RD K (rI0 g) (.int a) (.int b) (.bool c) := rd_v fun F H v w _ hv hw => by
  cases hv; cases hw
  exact ⟨.bl c, Dq.bl c, fun Q q => ⟨a, b, rfl, rfl, by rw [h]; exact q⟩⟩
theorem rd_I {C : Int → Int → Prop} {g : Int → Int → V} {a b c : Int} (hc : C a b) (h : g a b = .int c) : RD K (rI C g) (.int a) (.int b) (.int c) := rd_v fun F H v w _ hv hw => by
  cases hv; cases hw
  exact ⟨.int c, Dq.int c, fun Q q => ⟨a, b, rfl, rfl, hc, by rw [h]; exact q⟩⟩
theorem ud_I {g : Int → V} {a c : Int} (h : g a = .int c) : UD K (rU g) (.int a) (.int c) := fun B Γ σ F H v I hv Q q => by
  cases hv
  exact ⟨a, rfl, by rw [h]; exact q _ F H (I.push (Dq.int c)) (Ex.refl F)⟩
/-- == of ints -/
theorem rd_eqI {a b : Int} : RD K rEq (.int a) (.int b) (.bool (decide (a = b))) := rd_v fun F H v w _ hv hw => by
  cases hv; cases hw
  refine ⟨.bl (decide (a = b)), Dq.bl _, fun Q q => ⟨rfl, ?_⟩⟩
  have e : decide (V.int a = V.int b) = decide (a = b) := by simp
  rw [e]; exact q
theorem rd_neI {a b : Int} : RD K rNe (.int a) (.int b) (.bool (!decide (a = b))) := rd_v fun F H v w _ hv hw => by
  cases hv; cases hw
  refine ⟨.bl (!decide (a = b)), Dq.bl _, fun Q q => ⟨rfl, ?_⟩⟩
  have e : decide (V.int a = V.int b) = decide (a = b) := by simp
  rw [e]; exact q
/-- == of data -/
theorem rd_eqD (hx : SeqAt.shaped x = true) (hy : SeqAt.shaped y = true) : RD K (rEqD K) x y (.bool (PyData.eqv x y)) := fun B Γ σ F H v w I hv hw Q q =>
  ⟨x, y, Dq.dp _ _ (Dq.mono I.ex _ _ hv), Dq.dp _ _ (Dq.mono I.ex _ _ hw), hx, hy, q _ F H (I.push (Dq.bl _)) (Ex.refl F)⟩
theorem rd_neD (hx : SeqAt.shaped x = true) (hy : SeqAt.shaped y = true) : RD K (rNeD K) x y (.bool (!PyData.eqv x y)) := fun B Γ σ F H v w I hv hw Q q =>
  ⟨x, y, Dq.dp _ _ (Dq.mono I.ex _ _ hv), Dq.dp _ _ (Dq.mono I.ex _ _ hw), hx, hy, q _ F H (I.push (Dq.bl _)) (Ex.refl F)⟩
/-- a place in a tuple, a list -/
theorem rd_ixT {ds : List PyData} {i : Int} (h : atI ds i = some z) : RD K (rIxT K) (.tuple ds) (.int i) z := fun B Γ σ F H v w I hv hw Q q => by
  cases hw
  cases hv with
  | tup a b c =>
    have e := c.len
    unfold atI at h
    obtain ⟨j, hj, hz⟩ := Option.bind_eq_some_iff.mp h
    obtain ⟨u, h1, h2⟩ := c.get hz
    exact ⟨_, _, i, u, rfl, rfl, ex_t I.ex a, by unfold atI; rw [e, hj]; exact h1, q u F H (I.push h2) (Ex.refl F)⟩
theorem rd_ixL {ds : List PyData} {i : Int} (h : atI ds i = some z) : RD K (rIxL K) (.list ds) (.int i) z := fun B Γ σ F H v w I hv hw Q q => by
  cases hw
  cases hv with
  | lst a b c =>
    have e := c.len
    unfold atI at h
    obtain ⟨j, hj, hz⟩ := Option.bind_eq_some_iff.mp h
    obtain ⟨u, h1, h2⟩ := c.get hz
    exact ⟨_, _, i, u, rfl, rfl, ex_l I.ex a, by unfold atI; rw [e, hj]; exact h1, q u F H (I.push h2) (Ex.refl F)⟩
end
end TL
/-! TL3: what is walked, comprehensions, statements, loops. -/
namespace TL
open PySem L2
open Evl (Ex ex_l ex_t)

/-! ### slots forgotten for a while -/
def wipeL (Γ : List Sl) : List Nat → List Sl
  | [] => Γ
  | v :: vs => (wipeL Γ vs).set v .no
section
variable {K : PySem.W.Frag} {B : Bs} {Γ Δ Γ' Γ2 : List Sl} {σ σ2 τ : St} {F F' H H' : Hp} {s : Sl} {v : V} {i j : Nat} {vs : List Nat}
theorem Ok.wipe : ∀ {vs : List Nat}, Ok B Γ σ F H → Ok B (wipeL Γ vs) (L2.wipe σ vs) F H
  | [], h => h
  | v :: vs, h => (Ok.wipe (vs := vs) h).forget
/-- a slot set to something without cells -/
theorem Ok.setv {x : Option V} (h : Ok B Γ σ F H) (u : SlOk F H x s []) : Ok B (Γ.set i s) (σ.set i x) F H := by
  obtain ⟨L, h⟩ := h
  have mm : ∀ q ∈ (L.set i []).flatten, q ∈ L.flatten := fun q z => (mem_set z).elim id fun z => nomatch z
  exact ⟨L.set i [], h.sl.set u, nodup_drop h.nd, fun q z => h.fz q (mm q z), h.ex, h.bF, h.bG, h.bK, h.bD, fun q z => h.bO q (mm q z)⟩
theorem set_back {α : Type _} {l : List α} {i : Nat} {a b : α} (e : l[i]? = some a) : (l.set i b).set i a = l := by
  rw [List.set_set]
  apply List.ext_getElem?
  intro j
  by_cases h : i = j
  · subst h
    rw [List.getElem?_set_self (List.getElem?_eq_some_iff.mp e).1, e]
  · rw [List.getElem?_set_ne h]
theorem set_out {α : Type _} {l : List α} {i : Nat} {b : α} (e : l[i]? = none) : l.set i b = l := by
  have h : l.length ≤ i := by simpa using e
  exact List.set_eq_of_length_le h
theorem Ok.lens (h : Ok B Γ σ F H) : σ.length = Γ.length := by obtain ⟨L, h⟩ := h; exact h.sl.len.1
theorem wipeL_len (Γ : List Sl) : ∀ vs, (wipeL Γ vs).length = Γ.length
  | [] => rfl
  | v :: vs => by unfold wipeL; rw [List.length_set, wipeL_len Γ vs]
/-- a slot of wiped lists is what it was, or nothing -/
theorem wipe_at : ∀ {vs : List Nat} {i : Nat}, σ.length = Γ.length → i < Γ.length → (((wipeL Γ vs)[i]? = Γ[i]? ∧ (L2.wipe σ vs)[i]? = σ[i]?) ∨ ((wipeL Γ vs)[i]? = some .no ∧ ∃ x, (L2.wipe σ vs)[i]? = some x))
  | [], i, _, _ => .inl ⟨rfl, rfl⟩
  | v :: vs, i, hl, hi => by
    unfold wipeL L2.wipe
    by_cases h : v = i
    · subst h
      right
      have h1 : v < (wipeL Γ vs).length := by rw [wipeL_len]; exact hi
      have h2 : v < (L2.wipe σ vs).length := by rw [L2.wipe_length]; omega
      exact ⟨by rw [List.getElem?_set_self h1], ⟨none, by rw [List.getElem?_set_self h2]⟩⟩
    · rw [List.getElem?_set_ne h, List.getElem?_set_ne h]
      exact wipe_at (vs := vs) hl hi
theorem Ok.unwipe : ∀ {vs : List Nat}, Ok B (wipeL Γ' vs) (L2.wipe σ vs) F H → σ.length = Γ'.length → (∀ j ∈ vs, ∀ s, Γ'[j]? = some s → ∃ x, σ[j]? = some x ∧ SlOk F H x s []) → Ok B Γ' σ F H
  | [], h, _, _ => h
  | v :: vs, h, hl, w => by
    refine Ok.unwipe (vs := vs) ?_ hl fun j hj => w j (List.mem_cons_of_mem _ hj)
    unfold wipeL L2.wipe at h
    by_cases hv : v < Γ'.length
    · rcases wipe_at (vs := vs) hl hv with ⟨e1, e2⟩ | ⟨e1, x, e2⟩
      · obtain ⟨x, ex, so⟩ := w v List.mem_cons_self Γ'[v] (by rw [List.getElem?_eq_getElem hv])
        have h2 := h.setv (i := v) so
        rwa [set_back (by rw [e1, List.getElem?_eq_getElem hv]), set_back (by rw [e2, ex])] at h2
      · have h2 := h.setv (i := v) (SlOk.no (x := x))
        rwa [set_back e1, set_back e2] at h2
    · rw [set_out (by rw [List.getElem?_eq_none_iff, wipeL_len]; omega), set_out (by rw [List.getElem?_eq_none_iff, L2.wipe_length]; omega)] at h
      exact h
/-- slots without cells of their own -/
def NoOwn (Γ : List Sl) (vs : List Nat) : Prop := ∀ j ∈ vs, ∀ (α : Type) (p : Addr) (o : Ow α) (a : α), Γ[j]? ≠ some (.own p o a)
theorem Ok.plain (h : Ok B Γ σ F H) (n : NoOwn Γ vs) (e : Ex F F') : ∀ j ∈ vs, ∀ s, Γ[j]? = some s → ∃ x, σ[j]? = some x ∧ SlOk F' H' x s [] := fun j hj s es => by
  obtain ⟨L, h⟩ := h
  obtain ⟨x, fp, e1, e2, u⟩ := h.sl.get es
  refine ⟨x, e1, ?_⟩
  cases u with
  | no => exact .no
  | @val v α r a hr => exact .val (r.mono e hr)
  | own ho => exact absurd es (n j hj _ _ _ _)
/-- behind a run in wiped slots -/
theorem Ok.back (h : Ok B Γ2 σ2 F' H') (es : L2.wipe σ2 vs = L2.wipe σ vs) (eg : wipeL Γ2 vs = wipeL Γ' vs) (hl : σ.length = Γ'.length) (w : ∀ j ∈ vs, ∀ s, Γ'[j]? = some s → ∃ x, σ[j]? = some x ∧ SlOk F' H' x s []) : Ok B Γ' σ F' H' := by
  have h2 := Ok.wipe (vs := vs) h
  rw [es, eg] at h2
  exact h2.unwipe hl w
end

/-! ### what is walked -/
/-- the turns of J yield ds -/
def Turns (K : PySem.W.Frag) (J : It) (F1 : Hp) (ds : List PyData) : Prop := ∀ (i : Nat) (F2 H2 : Hp), Ex F1 F2 → Ex F2 H2 →
  (∀ d, ds[i]? = some d → J.go i H2 ∧ ∀ x H3, J.yld i H2 x H3 → ∃ F3, (∀ B Γ σ, Ok B Γ σ F2 H2 → Ok B Γ σ F3 H3) ∧ Ex F2 F3 ∧ Dq K F3 x d) ∧ (ds.length ≤ i → J.stop i H2)
def IP (K : PySem.W.Frag) (wi : TI) (Γ : List Sl) (ds : List PyData) : Prop := ∀ (B : Bs) (σ : St) (F H : Hp), Ok B Γ σ F H → ∀ R : It → Hp → Prop, (∀ J F1 H1, Ok B Γ σ F1 H1 → Ex F F1 → Turns K J F1 ds → ds.length ≤ wee → R J H1) → wi σ H R
/-- a target takes d -/
def GP (K : PySem.W.Frag) (g : TG) (d : PyData) (vs : List Nat) (Γ Γ' : List Sl) : Prop := ∀ (B : Bs) (σ : St) (F H : Hp) (v : V), Ok B Γ σ F H → Dq K F v d → ∀ Q : St → Hp → Prop, (∀ σ', L2.wipe σ' vs = L2.wipe σ vs → Ok B Γ' σ' F H → Q σ' H) → g v σ H Q
def rng (a b : Int) : List Int := (List.range (b - a).toNat).map fun i => a + (i : Nat)
section
variable {K : PySem.W.Frag} {B : Bs} {Γ Δ Γ' : List Sl} {σ τ : St} {F F' H H' : Hp} {s : Sl} {v : V} {te ta tb tc tl : TE} {d e x y z : PyData} {i j : Nat} {vs : List Nat} {ds : List PyData}
theorem ip_list (h : EP tl Γ (Da K (.list ds))) : IP K (iList K tl) Γ ds := fun B σ F H I R q => h B σ F H I _ fun Γ1 s1 v F1 H1 ⟨a, b⟩ I1 e1 => by
  subst a b
  obtain ⟨v', e, hv⟩ := Ok.head I1
  cases e
  cases hv with
  | @lst a xs _ hs hz ha =>
    refine ⟨a, rfl, ⟨xs, ex_l I1.ex hs⟩, q _ F1 H1 (Ok.pop I1) e1 (fun i F2 H2 e2 e3 => ⟨fun d hd => ?_, fun hn => ?_⟩) ?_⟩
    · obtain ⟨u, hu, du⟩ := ha.get hd
      refine ⟨⟨xs, u, ex_l (e2.trans e3) hs, hu⟩, fun x H3 hy => ?_⟩
      obtain ⟨eH, hx⟩ := hy
      subst eH
      have ex := hx xs (ex_l (e2.trans e3) hs)
      rw [hu] at ex
      cases ex
      exact ⟨F2, fun _ _ _ z => z, Ex.refl _, Dq.mono e2 _ _ du⟩
    · exact ⟨xs, ex_l (e2.trans e3) hs, by rw [ha.len]; exact hn⟩
    · exact hz
theorem ip_tup (h : EP tl Γ (Da K (.tuple ds))) : IP K (iTup K tl) Γ ds := fun B σ F H I R q => h B σ F H I _ fun Γ1 s1 v F1 H1 ⟨a, b⟩ I1 e1 => by
  subst a b
  obtain ⟨v', e, hv⟩ := Ok.head I1
  cases e
  cases hv with
  | @tup a xs _ hs hz ha =>
    refine ⟨a, rfl, ⟨xs, ex_t I1.ex hs⟩, q _ F1 H1 (Ok.pop I1) e1 (fun i F2 H2 e2 e3 => ⟨fun d hd => ?_, fun hn => ?_⟩) ?_⟩
    · obtain ⟨u, hu, du⟩ := ha.get hd
      refine ⟨⟨xs, u, ex_t (e2.trans e3) hs, hu⟩, fun x H3 hy => ?_⟩
      obtain ⟨eH, hx⟩ := hy
      subst eH
      have ex := hx xs (ex_t (e2.trans e3) hs)
      rw [hu] at ex
      cases ex
      exact ⟨F2, fun _ _ _ z => z, Ex.refl _, Dq.mono e2 _ _ du⟩
    · exact ⟨xs, ex_t (e2.trans e3) hs, by rw [ha.len]; exact hn⟩
    · exact hz
theorem rng_len {a b : Int} : (rng a b).length = (b - a).toNat := by simp [rng]
theorem turns_rng {lo hi : Int} {F1 : Hp} : Turns K (Itr lo (hi - lo).toNat) F1 ((rng lo hi).map PyData.int) := fun i F2 H2 e2 e3 => by
  have hl : ((rng lo hi).map PyData.int).length = (hi - lo).toNat := by simp [rng]
  refine ⟨fun d hd => ?_, fun hn => by rw [hl] at hn; exact hn⟩
  have hi' : i < (hi - lo).toNat := by rw [← hl]; exact (List.getElem?_eq_some_iff.mp hd).1
  refine ⟨hi', fun x H3 hy => ?_⟩
  obtain ⟨eH, ex⟩ := hy
  subst eH ex
  refine ⟨F2, fun _ _ _ z => z, Ex.refl _, ?_⟩
  have ed : d = .int (lo + (i : Nat)) := by
    simp only [rng, List.map_map, List.getElem?_map, List.getElem?_range hi', Option.map_some, Function.comp] at hd
    exact (Option.some.inj hd).symm
  subst ed
  exact Dq.int _
theorem ip_rng1 {ta : TA} {n : Int} (h : AP ta Γ [Da K (.int n)]) (h1 : -(2 ^ 62) ≤ n) (h2 : n ≤ 4096) : IP K (iRng1 ta) Γ ((rng 0 n).map PyData.int) := fun B σ F H I R q => h B σ F H I _ fun Γ1 ss ws F1 H1 ⟨a, b⟩ hn I1 e1 => by
  subst a b
  obtain ⟨ha, I2⟩ := Ok.all (xs := [PyData.int n]) (by simpa using hn) I1
  cases ha with
  | cons hv hr =>
    cases hr
    cases hv
    refine ⟨n, rfl, h1, by omega, q _ F1 H1 I2 e1 ?_ (by rw [List.length_map, rng_len]; exact (by omega : (n - 0).toNat ≤ 4096))⟩
    have t := turns_rng (K := K) (lo := 0) (hi := n) (F1 := F1)
    rwa [Int.sub_zero] at t
theorem ip_rng2 {ta : TA} {m n : Int} (h : AP ta Γ [Da K (.int m), Da K (.int n)]) (h1 : -(2 ^ 62) ≤ m ∧ m < 2 ^ 62 ∧ -(2 ^ 62) ≤ n ∧ n < 2 ^ 62) (h2 : n - m ≤ 4096) : IP K (iRng2 ta) Γ ((rng m n).map PyData.int) := fun B σ F H I R q => h B σ F H I _ fun Γ1 ss ws F1 H1 ⟨a, b⟩ hn I1 e1 => by
  subst a b
  obtain ⟨ha, I2⟩ := Ok.all (xs := [PyData.int m, PyData.int n]) (by simpa using hn) I1
  cases ha with
  | cons hv hr =>
    cases hr with
    | cons hv2 hr2 =>
      cases hr2
      cases hv
      cases hv2
      exact ⟨m, n, rfl, h1, q _ F1 H1 I2 e1 turns_rng (by rw [List.length_map, rng_len]; exact (by omega : (n - m).toNat ≤ 4096))⟩
/-- pairs made at each turn -/
theorem new_pair {x y : V} {p q : PyData} {F2 H2 H3 : Hp} {A' : Addr} (e3 : Ex F2 H2) (hA : H2 A' = none) (eH : H3 = upd H2 A' (.tup [x, y])) (hx : Dq K F2 x p) (hy : Dq K F2 y q) :
    ∃ F3, (∀ B Γ σ, Ok B Γ σ F2 H2 → Ok B Γ σ F3 H3) ∧ Ex F2 F3 ∧ Dq K F3 (.ref A') (.tuple [p, q]) := by
  subst eH
  have hF : F2 A' = none := by
    cases e : F2 A' with
    | none => rfl
    | some o => rw [e3 A' o e] at hA; cases hA
  have eF : Ex F2 (upd F2 A' (.tup [x, y])) := Ex.new hF
  exact ⟨upd F2 A' (.tup [x, y]), fun B Γ σ I => I.alloc hA, eF, Dq.tup (.inl (.inl upd_same)) (by simp only [List.length_cons, List.length_nil]; exact (by decide : 2 ≤ wee)) (.cons (Dq.mono eF _ _ hx) (.cons (Dq.mono eF _ _ hy) .nil))⟩
/-- the pairs of enumerate -/
def enumP (ds : List PyData) : List PyData := (List.range ds.length).zipWith (fun i d => .tuple [.int (i : Nat), d]) ds
theorem enumP_get {i : Nat} {d : PyData} (h : (enumP ds)[i]? = some d) : ∃ e, ds[i]? = some e ∧ d = .tuple [.int (i : Nat), e] := by
  unfold enumP at h
  rw [List.getElem?_zipWith] at h
  cases e2 : ds[i]? with
  | none =>
    rw [e2] at h
    cases e1 : (List.range ds.length)[i]? <;> rw [e1] at h <;> cases h
  | some u =>
    have hi := (List.getElem?_eq_some_iff.mp e2).1
    rw [e2, List.getElem?_range hi] at h
    exact ⟨u, rfl, (Option.some.inj h).symm⟩
theorem enumP_len : (enumP ds).length = ds.length := by simp [enumP]
theorem ip_enum {ta : TA} (h : AP ta Γ [Da K (.list ds)]) : IP K (iEnum K ta) Γ (enumP ds) := fun B σ F H I R q => h B σ F H I _ fun Γ1 ss ws F1 H1 ⟨a, b⟩ hn I1 e1 => by
  subst a b
  obtain ⟨ha, I2⟩ := Ok.all (xs := [PyData.list ds]) (by simpa using hn) I1
  cases ha with
  | cons hv hr =>
    cases hr
    cases hv with
    | @lst a xs _ hs hz hc =>
      refine ⟨a, xs, rfl, ex_l I2.ex hs, q _ F1 H1 I2 e1 (fun i F2 H2 e2 e3 => ⟨fun d hd => ?_, fun hl => ?_⟩) (by rw [enumP_len]; exact hz)⟩
      · obtain ⟨e', h1, h2⟩ := enumP_get hd
        obtain ⟨u, hu, du⟩ := hc.get h1
        refine ⟨⟨xs, u, ex_l (e2.trans e3) hs, hu⟩, fun x H3 hy => ?_⟩
        obtain ⟨A', w, e4, hA, eH, hx⟩ := hy
        subst e4 h2
        have ew := hx xs (ex_l (e2.trans e3) hs)
        rw [hu] at ew
        cases ew
        exact new_pair e3 hA eH (Dq.int _) (Dq.mono e2 _ _ du)
      · exact ⟨xs, ex_l (e2.trans e3) hs, by rw [hc.len]; rw [enumP_len] at hl; exact hl⟩
def zipP (ds es : List PyData) : List PyData := ds.zipWith (fun d e => .tuple [d, e]) es
theorem zipP_get {i : Nat} {d : PyData} {es : List PyData} (h : (zipP ds es)[i]? = some d) : ∃ a b, ds[i]? = some a ∧ es[i]? = some b ∧ d = .tuple [a, b] := by
  unfold zipP at h
  rw [List.getElem?_zipWith] at h
  cases e1 : ds[i]? with
  | none => rw [e1] at h; cases h
  | some a =>
    cases e2 : es[i]? with
    | none => rw [e1, e2] at h; cases h
    | some b => rw [e1, e2] at h; exact ⟨a, b, rfl, rfl, (Option.some.inj h).symm⟩
theorem zipP_len {es : List PyData} : (zipP ds es).length = min ds.length es.length := by simp [zipP]
theorem ip_zipL {ta : TA} {es : List PyData} (h : AP ta Γ [Da K (.list ds), Da K (.list es)]) : IP K (iZip K ta) Γ (zipP ds es) := fun B σ F H I R q => h B σ F H I _ fun Γ1 ss ws F1 H1 ⟨a, b⟩ hn I1 e1 => by
  subst a b
  obtain ⟨ha, I2⟩ := Ok.all (xs := [PyData.list ds, PyData.list es]) (by simpa using hn) I1
  cases ha with
  | cons hv hr =>
    cases hr with
    | cons hv2 hr2 =>
      cases hr2
      cases hv with
      | @lst a xs _ hs hz hc =>
        cases hv2 with
        | @lst b ys _ hs2 hz2 hc2 =>
          refine ⟨a, b, xs, ys, rfl, ex_l I2.ex hs, ex_l I2.ex hs2, q _ F1 H1 I2 e1 (fun i F2 H2 e2 e3 => ⟨fun d hd => ?_, fun hl => ?_⟩) (by rw [zipP_len]; exact Nat.le_trans (Nat.min_le_left _ _) hz)⟩
          · obtain ⟨p1, p2, h1, h2, h3⟩ := zipP_get hd
            obtain ⟨u, hu, du⟩ := hc.get h1
            obtain ⟨w, hw, dw⟩ := hc2.get h2
            refine ⟨⟨xs, ys, u, w, ex_l (e2.trans e3) hs, ex_l (e2.trans e3) hs2, hu, hw⟩, fun x H3 hy => ?_⟩
            obtain ⟨A', x', y', e4, hA, eH, hx, hy'⟩ := hy
            subst e4 h3
            have ew := hx xs (ex_l (e2.trans e3) hs)
            rw [hu] at ew
            cases ew
            have ew := hy' ys (ex_l (e2.trans e3) hs2)
            rw [hw] at ew
            cases ew
            exact new_pair e3 hA eH (Dq.mono e2 _ _ du) (Dq.mono e2 _ _ dw)
          · rw [zipP_len] at hl
            exact ⟨xs, ys, ex_l (e2.trans e3) hs, ex_l (e2.trans e3) hs2, by rw [hc.len, hc2.len]; omega⟩
/-! ### targets -/
theorem wipe_set {x : Option V} (h : j ∈ vs) : L2.wipe (σ.set j x) vs = L2.wipe σ vs := by
  induction vs with
  | nil => exact nomatch h
  | cons v vs ih =>
    unfold L2.wipe
    by_cases hj : j ∈ vs
    · rw [ih hj]
    · have e : j = v := by
        rcases List.mem_cons.mp h with e | e
        · exact e
        · exact absurd e hj
      subst e
      have c : ∀ ws : List Nat, j ∉ ws → L2.wipe (σ.set j x) ws = (L2.wipe σ ws).set j x := by
        intro ws
        induction ws with
        | nil => intro _; rfl
        | cons w ws ih2 =>
          intro hn
          unfold L2.wipe
          rw [ih2 fun z => hn (List.mem_cons_of_mem _ z), List.set_comm _ _ fun e => hn (by rw [e]; exact List.mem_cons_self)]
      rw [c vs hj, List.set_set]
theorem wipe_wipe : L2.wipe (L2.wipe σ vs) vs = L2.wipe σ vs := by
  have key : ∀ us : List Nat, (∀ u ∈ us, u ∈ vs) → L2.wipe (L2.wipe σ us) vs = L2.wipe σ vs := by
    intro us
    induction us with
    | nil => intro _; rfl
    | cons u us ih =>
      intro hu
      show L2.wipe ((L2.wipe σ us).set u none) vs = _
      rw [wipe_set (hu u List.mem_cons_self)]
      exact ih fun y hy => hu y (List.mem_cons_of_mem _ hy)
  exact key vs fun _ h => h
theorem gp_name (h : j ∈ vs := by decide) : GP K (gName j) d vs Γ (Γ.set j (Da K d)) := fun B σ F H v I hv Q q => q _ (wipe_set h) (I.setv (.val hv))
theorem gp_tup2 {i j : Nat} {a b : PyData} (h : i ∈ vs := by decide) (h2 : j ∈ vs := by decide) : GP K (gTup K 2 (gCons (gName i) (gCons (gName j) gNil))) (.tuple [a, b]) vs Γ ((Γ.set i (Da K a)).set j (Da K b)) := fun B σ F H v I hv Q q => by
  cases hv with
  | @tup p xs _ hs hz hc =>
    cases hc with
    | @cons x xs _ _ h1 hc =>
      cases hc with
      | @cons y ys _ _ h2 hc =>
        cases hc
        refine ⟨p, [x, y], rfl, ex_t I.ex hs, rfl, x, [y], rfl, y, [], rfl, rfl, ?_⟩
        exact q _ (by rw [wipe_set (by assumption), wipe_set (by assumption)]) ((I.setv (.val h1)).setv (.val h2))
theorem gp_tup3 {i j k : Nat} {a b c : PyData} (h : i ∈ vs := by decide) (h2 : j ∈ vs := by decide) (h3 : k ∈ vs := by decide) : GP K (gTup K 3 (gCons (gName i) (gCons (gName j) (gCons (gName k) gNil)))) (.tuple [a, b, c]) vs Γ (((Γ.set i (Da K a)).set j (Da K b)).set k (Da K c)) := fun B σ F H v I hv Q q => by
  cases hv with
  | @tup p xs _ hs hz hc =>
    cases hc with
    | @cons x xs _ _ h1 hc =>
      cases hc with
      | @cons y ys _ _ h2 hc =>
        cases hc with
        | @cons z zs _ _ h3 hc =>
          cases hc
          refine ⟨p, [x, y, z], rfl, ex_t I.ex hs, rfl, x, [y, z], rfl, y, [z], rfl, z, [], rfl, rfl, ?_⟩
          exact q _ (by rw [wipe_set (by assumption), wipe_set (by assumption), wipe_set (by assumption)]) (((I.setv (.val h1)).setv (.val h2)).setv (.val h3))
end

/-! ### comprehensions -/
section
variable {K : PySem.W.Frag} {B : Bs} {Γ Δ Γ' : List Sl} {σ τ : St} {F F' H H' : Hp} {s : Sl} {v : V} {te : TE} {tt : TT} {wi : TI} {g : TG} {vs : List Nat} {α : Type} {xs : List α} {e : α → PyData} {f : α → Bool} {w : α → PyData}
theorem take_next {xs : List α} {i : Nat} {x : α} (h : xs[i]? = some x) : xs.take (i + 1) = xs.take i ++ [x] := by
  rw [List.take_add_one, h]; rfl
theorem Ok.appL {p : Addr} {ds : List PyData} {d : PyData} {x : Option V} (h : Ok B (.own p (oL K) ds :: Γ) (x :: σ) F H) (hv : Dq K F v d) (hz : ds.length + 1 ≤ wee) :
    ∃ acc, x = some (.ref p) ∧ H p = some (.lst acc) ∧ acc.length = ds.length ∧ Ok B (.own p (oL K) (ds ++ [d]) :: Γ) (x :: σ) F (upd H p (.lst (acc ++ [v]))) := by
  obtain ⟨L, h⟩ := h
  cases h.sl with
  | @cons x s fp σ Γ fps u w =>
    cases u with
    | own ho =>
      obtain ⟨e1, xs, e2, e3, e4⟩ := ho
      subst e1
      refine ⟨xs, rfl, e2, e4.len, [p] :: fps, ?_, h.nd, h.fz, ?_, h.bF, h.bG, ?_, ?_, h.bO⟩
      · refine .cons (.own ⟨rfl, _, upd_same, by rw [List.length_append]; exact hz, e4.append (.cons hv .nil)⟩) (w.frame (Ex.refl _) fun q z => upd_ne fun e => ?_)
        have nd := h.nd
        rw [List.flatten_cons, List.nodup_append] at nd
        exact nd.2.2 p (List.mem_singleton.mpr rfl) q z e.symm
      · intro q o z
        have ne : q ≠ p := fun e => by
          have := h.fz p (by rw [List.flatten_cons]; exact List.mem_append_left _ (List.mem_singleton.mpr rfl))
          rw [e, this] at z; cases z
        rw [upd_ne ne]; exact h.ex q o z
      · intro q o a b
        have ne : q ≠ p := fun e => by
          subst e
          rcases h.bO q (by rw [List.flatten_cons]; exact List.mem_append_left _ (List.mem_singleton.mpr rfl)) with y | y
          · exact b y
          · rw [y] at a; cases a
        rw [upd_ne ne]; exact h.bK q o a b
      · intro q o a
        by_cases e : q = p
        · subst e; exact ⟨_, upd_same⟩
        · rw [upd_ne e]; exact h.bD q o a
theorem eo_lc (hi : IP K wi Γ (xs.map e)) (hv : NoOwn Γ vs)
    (ht : ∀ x ∈ xs, ∃ Γi, GP K g (e x) vs (wipeL Γ vs) Γi ∧ wipeL Γi vs = wipeL Γ vs ∧ TP tt Γi (f x) ∧ (f x = true → EP te Γi (Da K (w x)))) : EO (tLc wi g tt te vs) Γ (oL K) ((xs.filter f).map w) := fun B σ F H I Q q => by
  refine hi B σ F H I _ fun J F1 H1 I1 e1 tn hz D hD => ?_
  rw [List.length_map] at hz
  refine ⟨fun i m H' => m = xs.length - i ∧ i ≤ xs.length ∧ ∃ F', Ok B (.own D (oL K) (((xs.take i).filter f).map w) :: Γ) (some (.ref D) :: σ) F' H' ∧ Ex F1 F', ⟨_, rfl, Nat.zero_le _, F1, I1.pushL hD (Nat.zero_le _) .nil, Ex.refl _⟩, ?_⟩
  rintro i m H' ⟨rfl, hi', F', I', e'⟩
  by_cases hlt : i < xs.length
  · have hx : xs[i]? = some xs[i] := List.getElem?_eq_getElem hlt
    obtain ⟨go, yl⟩ := (tn i F' H' e' I'.ex).1 (e xs[i]) (by rw [List.getElem?_map, hx]; rfl)
    refine .inr ⟨go, fun H2 => ∃ F2, Ok B (.own D (oL K) (((xs.take (i + 1)).filter f).map w) :: Γ) (some (.ref D) :: σ) F2 H2 ∧ Ex F1 F2, fun H2 ⟨F2, a, b⟩ => ⟨xs.length - (i + 1), by omega, rfl, hlt, F2, a, b⟩, fun x H3 hy => ?_⟩
    obtain ⟨F3, carry, e3, dx⟩ := yl x H3 hy
    have I3 := carry _ _ _ I'
    obtain ⟨Γi, hg, eg, tT, eT⟩ := ht xs[i] (List.getElem_mem hlt)
    obtain ⟨B', Iw, back⟩ := TL.under (τ := [some (.ref D)]) (Δ := [.own D (oL K) (((xs.take i).filter f).map w)]) rfl I3
    have pl : ∀ {F' H' : Hp}, Ex F3 F' → ∀ j ∈ vs, ∀ s, Γ[j]? = some s → ∃ x, σ[j]? = some x ∧ SlOk F' H' x s [] := fun e => Iw.plain hv e
    refine hg B' _ F3 H3 x (Iw.wipe (vs := vs)) dx _ fun σ2 es I4 => ⟨es.trans wipe_wipe, ?_⟩
    · have es' : L2.wipe σ2 vs = L2.wipe σ vs := es.trans wipe_wipe
      refine tT B' σ2 F3 H3 I4 _ fun Γ5 b F5 H5 ⟨a1, a2⟩ I5 e5 => ?_
      subst a1 a2
      cases hb : f xs[i] with
      | false =>
        show ∃ F2, _ ∧ _
        refine ⟨F5, ?_, (e'.trans e3).trans e5⟩
        rw [take_next hx, List.filter_append, List.filter_cons, hb]
        simp only [Bool.false_eq_true, if_false, List.filter_nil, List.append_nil]
        exact back _ _ _ _ (I5.back es' eg I.lens (pl e5))
      | true =>
        show te σ2 H5 _
        refine (eT hb) B' σ2 F5 H5 I5 _ fun Γ6 s6 y F6 H6 ⟨a1, a2⟩ I6 e6 => ?_
        subst a1 a2
        obtain ⟨y', ey, dy⟩ := Ok.head I6
        cases ey
        have I7 := back _ _ _ _ ((Ok.pop I6).back es' eg I.lens (pl (e5.trans e6)))
        obtain ⟨acc, _, hA, hl, I8⟩ := Ok.appL I7 dy (by
          have h1 : (((xs.take i).filter f).map w).length ≤ i := by
            rw [List.length_map]
            exact Nat.le_trans (List.length_filter_le _ _) (by rw [List.length_take]; omega)
          omega)
        refine ⟨acc, hA, ?_, F6, ?_, ((e'.trans e3).trans e5).trans e6⟩
        · have h1 : (((xs.take i).filter f).map w).length ≤ i := by
            rw [List.length_map]
            exact Nat.le_trans (List.length_filter_le _ _) (by rw [List.length_take]; omega)
          rw [hl]
          exact Nat.lt_of_le_of_lt (Nat.le_trans h1 (Nat.le_trans hi' hz)) (by decide)
        · rw [take_next hx, List.filter_append, List.filter_cons, hb]
          simp only [if_true, List.filter_nil, List.map_append, List.map_cons, List.map_nil]
          exact I8
  · have ei : i = xs.length := by omega
    subst ei
    refine .inl ⟨(tn _ F' H' e' I'.ex).2 (by simp), ?_⟩
    rw [List.take_length] at I'
    exact q _ _ _ F' H' ⟨rfl, D, rfl⟩ I' (e1.trans e')
end
end TL
/-! TL4: statements, loops, what a def promises, calls. -/
namespace TL
open PySem L2
open Evl (Ex ex_l ex_t)

/-- what is wanted behind a statement -/
structure AD where
  nx : List Sl → Prop
  rt : List Sl → Sl → Prop
  bk : List Sl → Prop := fun _ => False
  ct : List Sl → Prop := fun _ => False
def S (B : Bs) (ts : TS) (Γ : List Sl) (D : AD) : Prop := ∀ (σ : St) (F H : Hp), Ok B Γ σ F H → ∀ D' : Ends,
  (∀ Γ' σ' F' H', D.nx Γ' → Ok B Γ' σ' F' H' → Ex F F' → D'.nx σ' H') → (∀ Γ' s v σ' F' H', D.rt Γ' s → Ok B (s :: Γ') (some v :: σ') F' H' → Ex F F' → D'.rt v H') →
  (∀ Γ' σ' F' H', D.bk Γ' → Ok B Γ' σ' F' H' → Ex F F' → D'.bk σ' H') → (∀ Γ' σ' F' H', D.ct Γ' → Ok B Γ' σ' F' H' → Ex F F' → D'.ct σ' H') → ts D' σ H
section
variable {K : PySem.W.Frag} {B : Bs} {Γ Δ Γ' : List Sl} {σ τ : St} {F F' H H' : Hp} {s : Sl} {v : V} {te ta tb tc : TE} {tt : TT} {t u : TS} {D : AD} {d e x y z : PyData} {i j : Nat} {vs : List Nat} {g : TG} {b : Bool}
theorem s_next (h : D.nx Γ) : S B tNext Γ D := fun σ F H I D' hn _ _ _ => hn Γ σ F H h I (Ex.refl F)
theorem s_break (h : D.bk Γ) : S B tBreak Γ D := fun σ F H I D' _ _ hb _ => hb Γ σ F H h I (Ex.refl F)
theorem s_cont (h : D.ct Γ) : S B tCont Γ D := fun σ F H I D' _ _ _ hc => hc Γ σ F H h I (Ex.refl F)
theorem s_seq (M : List Sl → Prop) (h : S B t Γ { D with nx := M }) (k : ∀ Γ', M Γ' → S B u Γ' D) : S B (tSeq t u) Γ D := fun σ F H I D' hn hr hb hc =>
  h σ F H I { D' with nx := u D' } (fun Γ1 σ1 F1 H1 m I1 e1 => k Γ1 m σ1 F1 H1 I1 D' (fun a b c d p q r => hn a b c d p q (e1.trans r)) (fun a b c d f g p q r => hr a b c d f g p q (e1.trans r)) (fun a b c d p q r => hb a b c d p q (e1.trans r)) (fun a b c d p q r => hc a b c d p q (e1.trans r))) hr hb hc
theorem s_any (h : S B t Γ { D with nx := fun Γ' => Γ' = Γ ∧ D.nx Γ }) : S B t Γ D := fun σ F H I D' hn hr hb hc => h σ F H I D' (fun Γ' σ' F' H' ⟨a, m⟩ I' e => by subst a; exact hn _ σ' F' H' m I' e) hr hb hc
/-- an expression's value goes to a slot -/
theorem s_asgE (h : E te Γ fun Γ' s => D.nx (Γ'.set i s)) : S B (tAsg te (gName i)) Γ D := fun σ F H I D' hn hr hb hc =>
  h B σ F H I _ fun Γ1 s1 v F1 H1 m I1 e1 => hn _ _ F1 H1 m I1.store e1
theorem q_asgE (h : E te Γ fun Γ' s => S B u (Γ'.set i s) D) : S B (tSeq (tAsg te (gName i)) u) Γ D := fun σ F H I D' hn hr hb hc =>
  h B σ F H I _ fun Γ1 s1 v F1 H1 m I1 e1 => m _ F1 H1 I1.store D' (fun a b c d p q r => hn a b c d p q (e1.trans r)) (fun a b c d f g p q r => hr a b c d f g p q (e1.trans r)) (fun a b c d p q r => hb a b c d p q (e1.trans r)) (fun a b c d p q r => hc a b c d p q (e1.trans r))
theorem s_set (h : EP te Γ s) (k : D.nx (Γ.set i s)) : S B (tAsg te (gName i)) Γ D := s_asgE (h.to k)
theorem q_set (h : EP te Γ s) (k : S B u (Γ.set i s) D) : S B (tSeq (tAsg te (gName i)) u) Γ D := q_asgE (h.to k)
theorem q_setO {α : Type} {o : Ow α} {a : α} (h : EO te Γ o a) (k : ∀ p, S B u (Γ.set i (.own p o a)) D) : S B (tSeq (tAsg te (gName i)) u) Γ D := q_asgE (h.imp fun Γ' s ⟨a, p, b⟩ => by subst a b; exact k p)
theorem s_setO {α : Type} {o : Ow α} {a : α} (h : EO te Γ o a) (k : ∀ p, D.nx (Γ.set i (.own p o a))) : S B (tAsg te (gName i)) Γ D := s_asgE (h.imp fun Γ' s ⟨a, p, b⟩ => by subst a b; exact k p)
/-- several targets -/
theorem s_asgG (h : EP te Γ (Da K d)) (hg : GP K g d vs Γ Γ') (k : D.nx Γ') : S B (tAsg te g) Γ D := fun σ F H I D' hn hr hb hc =>
  h B σ F H I _ fun Γ1 s1 v F1 H1 ⟨a, b⟩ I1 e1 => by
    subst a b
    obtain ⟨v', ev, hv⟩ := Ok.head I1
    cases ev
    exact hg B σ F1 H1 v (Ok.pop I1) hv _ fun σ' _ I2 => hn _ σ' F1 H1 k I2 e1
theorem q_asgG (h : EP te Γ (Da K d)) (hg : GP K g d vs Γ Γ') (k : S B u Γ' D) : S B (tSeq (tAsg te g) u) Γ D :=
  s_seq (fun Γ1 => Γ1 = Γ') (s_asgG h hg rfl) fun Γ1 e => by subst e; exact k
theorem s_ret (h : EP te Γ s) (k : D.rt Γ s) : S B (tRet te) Γ D := fun σ F H I D' hn hr hb hc =>
  h B σ F H I _ fun Γ1 s1 v F1 H1 ⟨a, b⟩ I1 e1 => by subst a b; exact hr _ _ v σ F1 H1 k I1 e1
theorem s_retE (h : E te Γ D.rt) : S B (tRet te) Γ D := fun σ F H I D' hn hr hb hc =>
  h B σ F H I _ fun Γ1 s1 v F1 H1 a I1 e1 => hr _ _ v σ F1 H1 a I1 e1
theorem s_retO {α : Type} {o : Ow α} {a : α} (h : EO te Γ o a) (k : ∀ p, D.rt Γ (.own p o a)) : S B (tRet te) Γ D := s_retE (h.imp fun Γ' s ⟨a, p, b⟩ => by subst a b; exact k p)
theorem s_drop (h : E te Γ fun Γ' _ => D.nx Γ') : S B (tDrop te) Γ D := fun σ F H I D' hn hr hb hc =>
  h B σ F H I _ fun Γ1 s1 v F1 H1 a I1 e1 => hn _ σ F1 H1 a I1.pop e1
theorem q_drop (h : E te Γ fun Γ' _ => S B u Γ' D) : S B (tSeq (tDrop te) u) Γ D := fun σ F H I D' hn hr hb hc =>
  h B σ F H I _ fun Γ1 s1 v F1 H1 m I1 e1 => m _ F1 H1 I1.pop D' (fun a b c d p q r => hn a b c d p q (e1.trans r)) (fun a b c d f g p q r => hr a b c d f g p q (e1.trans r)) (fun a b c d p q r => hb a b c d p q (e1.trans r)) (fun a b c d p q r => hc a b c d p q (e1.trans r))
theorem s_if (hc : TP tt Γ b) (h1 : b = true → S B t Γ D) (h2 : b = false → S B u Γ D) : S B (tIfS tt t u) Γ D := fun σ F H I D' hn hr hb hct =>
  hc B σ F H I _ fun Γ1 b1 F1 H1 ⟨p, q⟩ I1 e1 => by
    subst p q
    have go : ∀ {w : TS}, S B w Γ1 D → w D' σ H1 := fun {w} k => k σ F1 H1 I1 D' (fun a b c d p q r => hn a b c d p q (e1.trans r)) (fun a b c d f g p q r => hr a b c d f g p q (e1.trans r)) (fun a b c d p q r => hb a b c d p q (e1.trans r)) (fun a b c d p q r => hct a b c d p q (e1.trans r))
    cases b1 with
    | true => show t D' σ H1; exact go (h1 rfl)
    | false => show u D' σ H1; exact go (h2 rfl)
/-- .. whatever the test leaves -/
theorem s_ifE (hc : T tt Γ fun Γ' b => (b = true → S B t Γ' D) ∧ (b = false → S B u Γ' D)) : S B (tIfS tt t u) Γ D := fun σ F H I D' hn hr hb hct =>
  hc B σ F H I _ fun Γ1 b1 F1 H1 ⟨p, q⟩ I1 e1 => by
    have go : ∀ {w : TS}, S B w Γ1 D → w D' σ H1 := fun {w} k => k σ F1 H1 I1 D' (fun a b c d p q r => hn a b c d p q (e1.trans r)) (fun a b c d f g p q r => hr a b c d f g p q (e1.trans r)) (fun a b c d p q r => hb a b c d p q (e1.trans r)) (fun a b c d p q r => hct a b c d p q (e1.trans r))
    cases b1 with
    | true => show t D' σ H1; exact go (p rfl)
    | false => show u D' σ H1; exact go (q rfl)
/-- an if with something behind -/
theorem q_if {w : TS} (hc : TP tt Γ b) (h1 : b = true → S B (tSeq t w) Γ D) (h2 : b = false → S B (tSeq u w) Γ D) : S B (tSeq (tIfS tt t u) w) Γ D := s_if (t := tSeq t w) (u := tSeq u w) hc h1 h2
theorem q_ifE {w : TS} (hc : T tt Γ fun Γ' b => (b = true → S B (tSeq t w) Γ' D) ∧ (b = false → S B (tSeq u w) Γ' D)) : S B (tSeq (tIfS tt t u) w) Γ D := s_ifE (t := tSeq t w) (u := tSeq u w) hc
/-- .. the usual: the test's way leaves the def -/
theorem q_out {w : TS} (hc : TP tt Γ b) (h1 : b = true → S B t Γ { D with nx := fun _ => False }) (h2 : b = false → S B w Γ D) : S B (tSeq (tIfS tt t tNext) w) Γ D :=
  q_if hc (fun hb => s_seq (fun _ => False) (h1 hb) fun _ z => z.elim) fun hb => h2 hb
theorem q_nextq {w : TS} (h : S B w Γ D) : S B (tSeq tNext w) Γ D := h
theorem s_never (h : False) : S B tNever Γ D := h.elim
/-! ### loops -/
theorem s_for {α : Type} {xs : List α} {en : α → PyData} {wi : TI} (hi : IP K wi Γ (xs.map en)) (Inv : Nat → List Sl → Prop) (h0 : Inv 0 Γ)
    (hs : ∀ (i : Nat) (x : α) (Γ1 : List Sl), xs[i]? = some x → Inv i Γ1 → ∃ Γ2 vs, GP K g (en x) vs Γ1 Γ2 ∧ S B t Γ2 { D with nx := Inv (i + 1), ct := Inv (i + 1), bk := D.nx }) (hd : ∀ Γ1, Inv xs.length Γ1 → D.nx Γ1) : S B (tFor wi g t) Γ D := fun σ F H I D' hn hr hb hc => by
  refine hi B σ F H I _ fun J F1 H1 I1 e1 tn _ => ?_
  refine ⟨fun i m σ' H' => m = xs.length - i ∧ i ≤ xs.length ∧ ∃ Γ' F', Inv i Γ' ∧ Ok B Γ' σ' F' H' ∧ Ex F1 F', ⟨_, rfl, Nat.zero_le _, Γ, F1, h0, I1, Ex.refl _⟩, ?_⟩
  rintro i m σ' H' ⟨rfl, hi', Γ', F', hv, I', e'⟩
  by_cases hlt : i < xs.length
  · have hx : xs[i]? = some xs[i] := List.getElem?_eq_getElem hlt
    obtain ⟨go, yl⟩ := (tn i F' H' e' I'.ex).1 (en xs[i]) (by rw [List.getElem?_map, hx]; rfl)
    obtain ⟨Γ2, vs, hg, hb2⟩ := hs i xs[i] Γ' hx hv
    refine .inr ⟨go, fun σ2 H2 => ∃ Γ' F', Inv (i + 1) Γ' ∧ Ok B Γ' σ2 F' H2 ∧ Ex F1 F', fun σ2 H2 q => ⟨xs.length - (i + 1), by omega, rfl, hlt, q⟩, fun x H3 hy => ?_⟩
    obtain ⟨F3, carry, e3, dx⟩ := yl x H3 hy
    refine hg B σ' F3 H3 x (carry _ _ _ I') dx _ fun σ2 _ I2 => ?_
    have eA : Ex F1 F3 := e'.trans e3
    exact hb2 σ2 F3 H3 I2 { D' with nx := _, ct := _, bk := D'.nx } (fun Γ5 σ5 F5 H5 a I5 e5 => ⟨Γ5, F5, a, I5, eA.trans e5⟩) (fun a b c d f g p q r => hr a b c d f g p q ((e1.trans eA).trans r))
      (fun a b c d p q r => hn a b c d p q ((e1.trans eA).trans r)) (fun Γ5 σ5 F5 H5 a I5 e5 => ⟨Γ5, F5, a, I5, eA.trans e5⟩)
  · have ei : i = xs.length := by omega
    subst ei
    exact .inl ⟨(tn _ F' H' e' I'.ex).2 (by simp), hn Γ' σ' F' H' (hd Γ' hv) I' (e1.trans e')⟩
theorem q_for {α : Type} {xs : List α} {en : α → PyData} {wi : TI} (hi : IP K wi Γ (xs.map en)) (Inv : Nat → List Sl → Prop) (h0 : Inv 0 Γ)
    (hs : ∀ (i : Nat) (x : α) (Γ1 : List Sl), xs[i]? = some x → Inv i Γ1 → ∃ Γ2 vs, GP K g (en x) vs Γ1 Γ2 ∧ S B t Γ2 { D with nx := Inv (i + 1), ct := Inv (i + 1), bk := fun Γ' => S B u Γ' D }) (hd : ∀ Γ1, Inv xs.length Γ1 → S B u Γ1 D) : S B (tSeq (tFor wi g t) u) Γ D :=
  s_seq (fun Γ' => S B u Γ' D) (s_for hi Inv h0 hs hd) fun _ h => h
theorem s_while {α : Type} (Inv : α → List Sl → Prop) (μ : α → Nat) (a0 : α) (h0 : Inv a0 Γ) (f : α → Bool)
    (hs : ∀ (a : α) (Γ1 : List Sl), Inv a Γ1 → TP tt Γ1 (f a) ∧ (f a = true → S B t Γ1 { D with nx := fun Γ2 => ∃ a', Inv a' Γ2 ∧ μ a' < μ a, ct := fun Γ2 => ∃ a', Inv a' Γ2 ∧ μ a' < μ a, bk := D.nx }) ∧ (f a = false → D.nx Γ1)) : S B (tWhile tt t) Γ D := fun σ F H I D' hn hr hb hc => by
  refine ⟨fun m σ' H' => ∃ a Γ' F', m = μ a ∧ Inv a Γ' ∧ Ok B Γ' σ' F' H' ∧ Ex F F', ⟨_, a0, Γ, F, rfl, h0, I, Ex.refl _⟩, ?_⟩
  rintro m σ' H' ⟨a, Γ', F', rfl, hv, I', e'⟩
  obtain ⟨h1, h2, h3⟩ := hs a Γ' hv
  refine h1 B σ' F' H' I' _ fun Γ2 b F2 H2 ⟨p, q⟩ I2 e2 => ?_
  subst p q
  cases hf : f a with
  | true =>
    show ∃ N : St → Hp → Prop, _
    refine ⟨fun σ3 H3 => ∃ a' Γ' F', Inv a' Γ' ∧ μ a' < μ a ∧ Ok B Γ' σ3 F' H3 ∧ Ex F F', fun σ3 H3 ⟨a', Γ', F', q1, q2, q3, q4⟩ => ⟨_, q2, a', Γ', F', rfl, q1, q3, q4⟩, ?_⟩
    have eA := e'.trans e2
    exact h2 hf σ' F2 H2 I2 { D' with nx := _, ct := _, bk := D'.nx } (fun Γ5 σ5 F5 H5 ⟨a', q1, q2⟩ I5 e5 => ⟨a', Γ5, F5, q1, q2, I5, eA.trans e5⟩) (fun a b c d f g p q r => hr a b c d f g p q (eA.trans r))
      (fun a b c d p q r => hn a b c d p q (eA.trans r)) (fun Γ5 σ5 F5 H5 ⟨a', q1, q2⟩ I5 e5 => ⟨a', Γ5, F5, q1, q2, I5, eA.trans e5⟩)
  | false => exact hn _ σ' F2 H2 (h3 hf) I2 (e'.trans e2)

/-! ### promises -/
def clsV (K : PySem.W.Frag) (x : Str) : Value := .ref (He.ga K x)
/-- what a def hands back: a list is new -/
def Res (K : PySem.W.Frag) (d : PyData) (s : Sl) : Prop := (∃ ds p, d = .list ds ∧ s = .own p (oL K) ds) ∨ ((∀ ds, d ≠ .list ds) ∧ s = Da K d)
theorem Res.l {ds : List PyData} {p : Addr} : Res K (.list ds) (.own p (oL K) ds) := .inl ⟨ds, p, rfl, rfl⟩
theorem Res.o (h : ∀ ds, d ≠ .list ds := by intro _ h; cases h) : Res K d (Da K d) := .inr ⟨h, rfl⟩
/-- a def without objects handed over: from data comes a datum, or an error of the class so called -/
abbrev Rl := List PyData → Except Str PyData → Prop
def PF (K : PySem.W.Frag) (R : Rl) : Sp := fun vs H Q X => ∃ (ds : List PyData) (r : Except Str PyData) (F : Hp), R ds r ∧ Ex F H ∧ DqAll K F vs ds ∧
  (∀ d s v F' H', r = .ok d → Res K d s → Ok ⟨F, H, []⟩ [s] [some v] F' H' → Q v H') ∧ (∀ x F' H', r = .error x → Ok ⟨F, H, []⟩ [] [] F' H' → X (clsV K x) none H')
theorem ok_args : ∀ {vs : List V} {ds : List PyData}, DqAll K F vs ds → Ex F H → Ok ⟨F, H, []⟩ (ds.map (Da K)) (vs.map some) F H
  | [], _, h, e => by
    cases h
    exact ⟨[], .nil, List.nodup_nil, (fun _ z => nomatch z), e, Ex.refl F, fun _ _ q => .inl q, fun _ _ q _ => q, fun _ o q => ⟨o, q⟩, fun _ z => nomatch z⟩
  | v :: vs, _, h, e => by
    cases h with
    | cons a b => exact (ok_args b e).push a
theorem ep_call {R : Rl} {E : XK} {t : TA} {ds : List PyData} (ha : AP t Γ (ds.map (Da K))) (hR : R ds (.ok d)) : EP (tCall (PF K R) [] E t) Γ (Da K d) := fun B σ F H I Q q =>
  ha B σ F H I _ fun Γ1 ss vs F1 H1 ⟨a, b⟩ n I1 e1 => by
    subst a b
    obtain ⟨h1, h2⟩ := Ok.all (by simpa using n) I1
    show PF K R (vs ++ []) H1 Q E
    rw [List.append_nil]
    refine ⟨ds, _, F1, hR, h2.ex, h1, fun d' s v F' H' e hs I' => ?_, fun x F' H' e _ => by cases e⟩
    cases e
    have I3 := h2.after I'
    have eF : Ex F1 F' := by
      obtain ⟨L, I'⟩ := I'
      exact I'.bF
    rcases hs with ⟨es, p, hd, hs⟩ | ⟨_, hs⟩
    · subst hd hs
      obtain ⟨F2, ex, e2, I4⟩ := Ok.freeze I3
      exact q _ _ v F2 H' ⟨rfl, rfl⟩ I4 ((e1.trans eF).trans e2)
    · subst hs
      exact q _ _ v F' H' ⟨rfl, rfl⟩ I3 (e1.trans eF)
theorem eo_call {R : Rl} {E : XK} {t : TA} {ds es : List PyData} (ha : AP t Γ (ds.map (Da K))) (hR : R ds (.ok (.list es))) : EO (tCall (PF K R) [] E t) Γ (oL K) es := fun B σ F H I Q q =>
  ha B σ F H I _ fun Γ1 ss vs F1 H1 ⟨a, b⟩ n I1 e1 => by
    subst a b
    obtain ⟨h1, h2⟩ := Ok.all (by simpa using n) I1
    show PF K R (vs ++ []) H1 Q E
    rw [List.append_nil]
    refine ⟨ds, _, F1, hR, h2.ex, h1, fun d' s v F' H' e hs I' => ?_, fun x F' H' e _ => by cases e⟩
    cases e
    have I3 := h2.after I'
    have eF : Ex F1 F' := by
      obtain ⟨L, I'⟩ := I'
      exact I'.bF
    rcases hs with ⟨es', p, hd, hs⟩ | ⟨hn, hs⟩
    · cases hd
      subst hs
      exact q _ _ v F' H' ⟨rfl, p, rfl⟩ I3 (e1.trans eF)
    · exact absurd rfl (hn es)
/-- a call as a statement, that may raise -/
theorem q_call {R : Rl} {E : XK} {ta : TA} {ds : List PyData} {r : Except Str PyData} (ha : AP ta Γ (ds.map (Da K))) (hR : R ds r) (h1 : ∀ d, r = .ok d → S B u Γ D) (h2 : ∀ x, r = .error x → ∀ F' H', Ok B [] [] F' H' → E (clsV K x) none H') : S B (tSeq (tDrop (tCall (PF K R) [] E ta)) u) Γ D := fun σ F H I D' hn hr hb hc =>
  ha B σ F H I _ fun Γ1 ss vs F1 H1 ⟨a, b⟩ n I1 e1 => by
    subst a b
    obtain ⟨g1, g2⟩ := Ok.all (by simpa using n) I1
    show PF K R (vs ++ []) H1 _ E
    rw [List.append_nil]
    refine ⟨ds, _, F1, hR, g2.ex, g1, fun d' s v F' H' e hs I' => ?_, fun x F' H' e I' => ?_⟩
    · have I3 := Ok.pop (g2.after I')
      have eF : Ex F1 F' := by
        obtain ⟨L, I'⟩ := I'
        exact I'.bF
      have eA := e1.trans eF
      exact h1 d' e σ F' H' I3 D' (fun a b c d p q r => hn a b c d p q (eA.trans r)) (fun a b c d f g p q r => hr a b c d f g p q (eA.trans r)) (fun a b c d p q r => hb a b c d p q (eA.trans r)) (fun a b c d p q r => hc a b c d p q (eA.trans r))
    · have I3 : Ok B Γ1 σ F' H' := g2.after I'
      obtain ⟨L, I4⟩ := I3
      exact h2 x e F' H' ⟨[], .nil, List.nodup_nil, (fun _ z => nomatch z), I4.ex, I4.bF, I4.bG, I4.bK, I4.bD, fun _ z => nomatch z⟩
/-- raise X('..') -/
theorem s_raise {x : Str} {E : XK} {W : WX} (hW : W = fun cls dd _ H' => E cls dd H') (h : ∀ F' H', Ok B [] [] F' H' → E (clsV K x) none H') : S B (fun _ σ H => (fun (_ : St) H Q => Q (clsV K x) none H : St → Hp → XK → Prop) σ H fun cls dd H' => W cls dd σ H') Γ D := fun σ F H I D' _ _ _ _ => by
  subst hW
  obtain ⟨L, I4⟩ := I
  exact h F H ⟨[], .nil, List.nodup_nil, (fun _ z => nomatch z), I4.ex, I4.bF, I4.bG, I4.bK, I4.bD, fun _ z => nomatch z⟩
end
section
variable {P : Program} {w : World} {K : PySem.W.Frag} {mg : Str → Option Value} {base : Heap}
/-- the slots at a def's entry -/
def Γ0 (K : PySem.W.Frag) (ds : List PyData) (n : Nat) : List Sl := ds.map (Da K) ++ List.replicate (n - ds.length) .no
theorem nil_flat (n : Nat) : (List.replicate n ([] : List Addr)).flatten = [] := by
  induction n with
  | zero => rfl
  | succ n ih => rw [List.replicate_succ, List.flatten_cons, ih]; rfl
theorem nos_none {F H : Hp} (n : Nat) : SlsOk F H (List.replicate n none) (List.replicate n .no) (List.replicate n []) := by
  induction n with
  | zero => exact .nil
  | succ n ih => exact .cons .no ih
theorem nos_ok {B : Bs} {Γ : List Sl} {σ : St} {F H : Hp} (h : Ok B Γ σ F H) (n : Nat) : Ok B (Γ ++ List.replicate n .no) (σ ++ List.replicate n none) F H := by
  obtain ⟨L, h⟩ := h
  have e : (L ++ List.replicate n ([] : List Addr)).flatten = L.flatten := by
    rw [List.flatten_append, nil_flat, List.append_nil]
  exact ⟨L ++ List.replicate n [], h.sl.append (nos_none n), by rw [e]; exact h.nd, by rw [e]; exact h.fz, h.ex, h.bF, h.bG, h.bK, h.bD, by rw [e]; exact h.bO⟩
theorem Ok.take1 {B : Bs} {Γ : List Sl} {σ : St} {F H : Hp} {s : Sl} {x : Option V} (h : Ok B (s :: Γ) (x :: σ) F H) : Ok B [s] [x] F H := by
  obtain ⟨L, h⟩ := h
  cases h.sl with
  | @cons x s fp σ Γ fps u w =>
    have sub : ∀ q ∈ [fp].flatten, q ∈ (fp :: fps).flatten := fun q z => by
      rw [List.flatten_cons]
      exact List.mem_append_left _ (by simpa using z)
    have nd := h.nd
    rw [List.flatten_cons, List.nodup_append] at nd
    exact ⟨[fp], .cons u .nil, by simpa using nd.1, fun q z => h.fz q (sub q z), h.ex, h.bF, h.bG, h.bK, h.bD, fun q z => h.bO q (sub q z)⟩
/-- THE RULE for a def -/
theorem fn_pf {x qual : Str} {params : Arguments} {body : List Stmt} {scope : Scope} {f : Addr} {fd : FuncData} {N ps : List Str} {k : Nat} {R : Rl} (Fd : FunD K x qual params body scope [] [] f fd) (sc : FnScope N ps scope) (hl : ∀ ds r, R ds r → ds.length = ps.length)
    (hbody : ∀ (cdv : Value) (A : Around) (outer : List Env) (s : Shared) (H : Hp) (E : XK) (ds : List PyData) (r : Except Str PyData) (B : Bs), Room k (A.deeper (PyProof.Rows.envOfC qual scope s.heap.objs.size f cdv)) → R ds r → (∀ x, r = .error x → ∀ F' H', Ok B [] [] F' H' → E (clsV K x) none H') →
      ∃ t, PSs (cxOf (L2.CX P w) P w K mg base N qual scope f cdv A outer s H E) body t ∧ S B t (Γ0 K ds N.length) ⟨fun _ => r = .ok .none, fun _ s => ∃ d, r = .ok d ∧ Res K d s, fun _ => False, fun _ => False⟩) :
    FnOk P w K mg base (L2.CX P w) (k + 1) f fd ps (PF K R) := by
  refine FunD.ok Fd sc (fun vs H Q E h => ?_) fun cdv A outer s H vs Q E hr h => ?_
  · obtain ⟨ds, r, F, h1, _, h3, _⟩ := h
    rw [h3.len, hl ds r h1]
  · obtain ⟨ds, r, F, h1, h2, h3, h4, h5⟩ := h
    obtain ⟨t, ht, hs⟩ := hbody cdv A outer s H E ds r ⟨F, H, []⟩ hr h1 (fun x e F' H' I => h5 x F' H' e I)
    refine ⟨t, ht, ?_⟩
    have I0 : Ok ⟨F, H, []⟩ (Γ0 K ds N.length) (L2.start N vs) F H := by
      unfold Γ0 L2.start
      rw [h3.len]
      exact nos_ok (ok_args h3 h2) _
    refine hs _ F H I0 _ (fun Γ' σ' F' H' e I' _ => ?_) (fun Γ' s v σ' F' H' ⟨d, e, hd⟩ I' _ => ?_) (fun _ _ _ _ z => z.elim) (fun _ _ _ _ z => z.elim)
    · exact h4 .none (Da K .none) .non F' H' e .o (Ok.take1 (I'.push Dq.non))
    · exact h4 d s v F' H' e hd (Ok.take1 I')
end
end TL
/-! TL5: the built-ins by data. -/
namespace TL
open PySem L2
open Evl (Ex ex_l ex_t)
/-! ### list + list, whatever list -/
section
variable {X : Cx}
def rCatS (K : PySem.W.Frag) : R2 := fun x y H Q => ∃ l b xs zs, x = .ref l ∧ y = .ref b ∧ SqL K H l xs ∧ SqL K H b zs ∧ xs.length + zs.length ≤ sizeLine ∧ ∀ p, H p = none → Q (.ref p) (upd H p (.lst (xs ++ zs)))
theorem op_catS : OpR X (binaryOp .Add) (rCatS X.K) := by
  intro pins s σ H x y v u Q I rx ry h
  obtain ⟨l, b, xs, zs, rfl, rfl, hH, hB, hz, q⟩ := h
  cases rx
  cases ry
  obtain ⟨its, r, ⟨⟨c1, d1, t1, s1⟩, n1, e1, a1, a2, a3⟩, _⟩ := I.list hH
  obtain ⟨its2, r2, ⟨⟨c2, d2, t2, s2⟩, n2, e2, b1, b2, b3⟩, _⟩ := I.list hB
  simp only at a1 a2 a3 b1 b2 b3
  subst a1 a2 a3 b1 b2 b3
  have l1 := r.length
  have l2 := r2.length
  refine concat_meets ⟨_, e1, rfl⟩ ⟨_, e2, rfl⟩ noFill_list_add seq_list_add PySem.F.slot_list_add PySem.F.entry_list_add (PySem.F.args_list_add_2 _ _) (PyProof.Rows.list_addW l b its.toArray its2.toArray n1 n2 none none s1 s2 (by simp only [List.size_toArray]; omega)) ⟨e1, e2, ?_⟩
  have ea : its.toArray ++ its2.toArray = (its ++ its2).toArray := by simp
  rw [ea]
  refine ⟨.ref s.heap.objs.size, upd H s.heap.objs.size (.lst (xs ++ zs)), I.laid (t' := s.toks) (fun b o e => Heap.get?_push_of_some _ e) (Nat.le_refl _) ?_, rfl, q _ (I.hok.fresh (Nat.le_refl _))⟩
  exact ⟨by rw [List.length_append]; exact hz, its ++ its2, 0, r.append r2, Heap.get?_push_size _ rfl⟩
end
section
variable {K : PySem.W.Frag} {B : Bs} {Γ Δ Γ' : List Sl} {σ τ : St} {F F' H H' : Hp} {s : Sl} {v : V} {te ta tb tc : TE} {tt : TT} {t u : TS} {D : AD} {d e x y z : PyData} {i j : Nat} {vs : List Nat} {ds es : List PyData}
theorem ro_catS (hz : ds.length + es.length ≤ wee) : RO K (rCatS K) (.list ds) (.list es) (ds ++ es) := fun B Γ σ F H v w I hv hw Q q => by
  cases hv with
  | @lst a xs _ h1 _ h2 =>
    cases hw with
    | @lst b ys _ h3 _ h4 =>
      refine ⟨a, b, xs, ys, rfl, rfl, ex_l I.ex h1, ex_l I.ex h3, Nat.le_trans (by rw [h2.len, h4.len]; exact hz) (by decide), fun p hp => q p _ (I.pushL hp (by rw [List.length_append]; exact hz) (h2.append h4))⟩
/-- tuple + tuple -/
theorem rd_catA (hz : ds.length + es.length ≤ wee) : RD K (rCatA K) (.tuple ds) (.tuple es) (.tuple (ds ++ es)) := fun B Γ σ F H v w I hv hw Q q => by
  cases hv with
  | @tup a xs _ h1 z1 h2 =>
    cases hw with
    | @tup b ys _ h3 z2 h4 =>
      refine ⟨a, b, xs, ys, rfl, rfl, ex_t I.ex h1, ex_t I.ex h3, Nat.le_trans (by rw [h2.len, h4.len]; exact hz) (by decide), fun e => ?_, fun _ e => ?_, fun _ _ p hp => ?_⟩
      · subst e
        cases h2
        exact q _ F H (I.push (Dq.tup h3 z2 h4)) (Ex.refl F)
      · subst e
        cases h4
        rw [List.append_nil] at q
        exact q _ F H (I.push (Dq.tup h1 z1 h2)) (Ex.refl F)
      · have eF : Ex F (upd F p (.tup (xs ++ ys))) := Ex.new (I.nF hp)
        exact q _ _ _ ((I.alloc hp).push (Dq.tup (.inl (.inl upd_same)) (by rw [List.length_append]; exact hz) (DqAll.mono eF _ _ (h2.append h4)))) eF
/-- [x] * n, the list just made -/
theorem rep_all {n : Nat} {xs : List V} (h : DqAll K F xs ds) : DqAll K F (List.replicate n xs).flatten (List.replicate n ds).flatten := by
  induction n with
  | zero => exact .nil
  | succ n ih =>
    rw [List.replicate_succ, List.replicate_succ, List.flatten_cons, List.flatten_cons]
    exact h.append ih
theorem eo_rep {n : Int} (ha : EO ta Γ (oL K) ds) (hb : EP tb Γ (Da K (.int n))) (h1 : -(2 ^ 63) ≤ n) (h2 : n < 2 ^ 63) (hz : ds.length * n.toNat ≤ wee) : EO (tOp rRep ta tb) Γ (oL K) (List.replicate n.toNat ds).flatten := fun B σ F H I Q q =>
  ha B σ F H I _ fun Γ1 s1 v F1 H1 ⟨a, p, b⟩ I1 e1 => by
    subst a b
    refine E.under hb (τ := [some v]) (Δ := [.own p (oL K) ds]) rfl I1 fun Γ2 s2 w F2 H2 ⟨a, b⟩ I2 e2 => ?_
    subst a b
    obtain ⟨w', h5, hw⟩ := Ok.head (Ok.pop I2)
    cases h5
    cases hw
    have I5 : Ok B Γ2 σ F2 H2 := Ok.pop (Ok.pop I2)
    obtain ⟨L, I3⟩ := I2
    cases I3.sl with
    | cons u1 u2 =>
      cases u1 with
      | own ho =>
        obtain ⟨_, xs, e3, _, e4⟩ := ho
        have hl : (List.replicate n.toNat ds).flatten.length ≤ wee := by
          rw [List.length_flatten, List.map_replicate, List.sum_replicate_nat, Nat.mul_comm]; exact hz
        refine ⟨p, n, xs, rfl, rfl, e3, h1, h2, Nat.le_trans (by rw [e4.len]; exact hz) (by decide), fun p' hp => ?_⟩
        exact q _ _ _ F2 _ ⟨rfl, p', rfl⟩ (I5.pushL hp hl (rep_all e4)) (e1.trans e2)
/-! ### isinstance -/
def rVl : Rp V := ⟨fun _ v a => v = a, fun {_ _ _ _} _ h => h⟩
def tyN : PyData → String
  | .none => "NoneType"
  | .bool _ => "bool"
  | .int _ => "int"
  | .str _ => "str"
  | .list _ => "list"
  | .tuple _ => "tuple"
  | .dict _ => "dict"
theorem Dq.tyX (h : Dq K F v d) (e : Ex F H) : TyX K H v (.type (tyN d)) := by
  cases h with
  | non => exact .base .non
  | bl b => exact .base (.bl b)
  | int i => exact .base (.int i)
  | str x => exact .base (.str x)
  | lst a _ _ =>
    rcases ex_l e a with (q | ⟨o, q⟩) | ⟨o, its, n, q1, q2, _⟩
    · exact .base (.lst q)
    · exact .base (.frz q)
    · exact .kList q1 q2
  | tup a _ _ =>
    rcases ex_t e a with (q | ⟨o, q⟩) | ⟨o, its, n, q1, q2, _⟩
    · exact .base (.tup q)
    · exact .fTuple q
    · exact .kTuple q1 q2
theorem ep_ty {n : String} : EP (tC (.ty n)) Γ (.val rVl (.ty n)) := ep_val fun F => rfl
theorem ep_isi {T : String} {b : Bool} (ha : EP ta Γ (Da K x)) (hb : EP tb Γ (.val rVl (.ty T))) (hk : kitB (tyN x) T = some b) : EP (tCB (rIsi K) (tCons ta (tCons tb tNil))) Γ (Da K (.bool b)) := fun B σ F H I Q q =>
  (ap_cons ha (ap_cons hb ap_nil)) B σ F H I _ fun Γ1 ss vs F1 H1 ⟨a, c⟩ n I1 e1 => by
    subst a c
    match vs, n with
    | [v1, v2], _ =>
      obtain ⟨v', e, hv⟩ := Ok.head I1
      cases e
      obtain ⟨v2', e, hv2⟩ := Ok.head (Ok.pop I1)
      cases e
      cases hv2
      exact ⟨v1, .ty T, _, _, b, rfl, .ty T, Dq.tyX hv I1.ex, hk, q _ _ _ F1 H1 ⟨rfl, rfl⟩ ((Ok.pop (Ok.pop I1)).push (Dq.bl b)) e1⟩
def isInt : PyData → Bool
  | .int _ => true
  | .bool _ => true
  | _ => false
def isBool : PyData → Bool
  | .bool _ => true
  | _ => false
def isTup : PyData → Bool
  | .tuple _ => true
  | _ => false
def isLst : PyData → Bool
  | .list _ => true
  | _ => false
def isStr : PyData → Bool
  | .str _ => true
  | _ => false
theorem kit_int (x : PyData) : kitB (tyN x) "int" = some (isInt x) := by cases x <;> rfl
theorem kit_bool (x : PyData) : kitB (tyN x) "bool" = some (isBool x) := by cases x <;> rfl
theorem kit_tuple (x : PyData) : kitB (tyN x) "tuple" = some (isTup x) := by cases x <;> rfl
theorem kit_list (x : PyData) : kitB (tyN x) "list" = some (isLst x) := by cases x <;> rfl
theorem kit_str (x : PyData) : kitB (tyN x) "str" = some (isStr x) := by cases x <;> rfl
/-! ### calls by data -/
theorem cd_len0 {r : List V → Hp → VK → Prop} (hr : r = fun xs H Q => ∃ x n, xs = [x] ∧ LenV K x H n ∧ Q (.int n) H := by rfl) : CD K r [.list ds] (.int (ds.length : Nat)) := fun B Γ σ F H vs I hv Q q => by
  subst hr
  cases hv with
  | cons h1 h2 =>
    cases h2
    cases h1 with
    | @lst a xs _ h3 _ h4 => exact ⟨_, _, rfl, .inl ⟨xs, ex_l I.ex h3, rfl⟩, by rw [h4.len]; exact q _ F H (I.push (Dq.int _)) (Ex.refl F)⟩
theorem cd_lenT0 {r : List V → Hp → VK → Prop} (hr : r = fun xs H Q => ∃ x n, xs = [x] ∧ LenV K x H n ∧ Q (.int n) H := by rfl) : CD K r [.tuple ds] (.int (ds.length : Nat)) := fun B Γ σ F H vs I hv Q q => by
  subst hr
  cases hv with
  | cons h1 h2 =>
    cases h2
    cases h1 with
    | @tup a xs _ h3 _ h4 => exact ⟨_, _, rfl, .inr ⟨xs, ex_t I.ex h3, rfl⟩, by rw [h4.len]; exact q _ F H (I.push (Dq.int _)) (Ex.refl F)⟩
theorem cd_all {bs : List Bool} : CD K (rAll K) [.list (bs.map .bool)] (.bool (bs.all id)) := fun B Γ σ F H vs I hv Q q => by
  cases hv with
  | cons h1 h2 =>
    cases h2
    cases h1 with
    | @lst a xs _ h3 _ h4 => exact ⟨a, bs, rfl, by rw [← h4.bools_inv]; exact ex_l I.ex h3, q _ F H (I.push (Dq.bl _)) (Ex.refl F)⟩
theorem cd_any {bs : List Bool} : CD K (rAny K) [.list (bs.map .bool)] (.bool (bs.any id)) := fun B Γ σ F H vs I hv Q q => by
  cases hv with
  | cons h1 h2 =>
    cases h2
    cases h1 with
    | @lst a xs _ h3 _ h4 => exact ⟨a, bs, rfl, by rw [← h4.bools_inv]; exact ex_l I.ex h3, q _ F H (I.push (Dq.bl _)) (Ex.refl F)⟩
theorem cd_sum {ns : List Int} : CD K (rSum K) [.list (ns.map .int)] (.int ns.sum) := fun B Γ σ F H vs I hv Q q => by
  cases hv with
  | cons h1 h2 =>
    cases h2
    cases h1 with
    | @lst a xs _ h3 _ h4 => exact ⟨a, ns, rfl, by rw [← h4.ints_inv]; exact ex_l I.ex h3, q _ F H (I.push (Dq.int _)) (Ex.refl F)⟩
/-- the greatest, the least -/
def maxL (ns : List Int) : Int := ns.tail.foldl max (ns.headD 0)
def minL (ns : List Int) : Int := ns.tail.foldl min (ns.headD 0)
theorem foldl_max (l : List Int) : ∀ a : Int, (l.foldl max a = a ∨ l.foldl max a ∈ l) ∧ a ≤ l.foldl max a ∧ ∀ y ∈ l, y ≤ l.foldl max a := by
  induction l with
  | nil => exact fun a => ⟨.inl rfl, Int.le_refl a, fun _ h => nomatch h⟩
  | cons b r ih =>
    intro a
    obtain ⟨h1, h2, h3⟩ := ih (max a b)
    rw [List.foldl_cons]
    refine ⟨?_, by omega, fun y hy => ?_⟩
    · rcases h1 with h1 | h1
      · rw [h1]
        by_cases c : a ≤ b
        · exact .inr (by rw [show max a b = b by omega]; exact List.mem_cons_self)
        · exact .inl (by omega)
      · exact .inr (List.mem_cons_of_mem _ h1)
    · rcases List.mem_cons.mp hy with e | hy
      · subst e; omega
      · exact h3 y hy
theorem foldl_min (l : List Int) : ∀ a : Int, (l.foldl min a = a ∨ l.foldl min a ∈ l) ∧ l.foldl min a ≤ a ∧ ∀ y ∈ l, l.foldl min a ≤ y := by
  induction l with
  | nil => exact fun a => ⟨.inl rfl, Int.le_refl a, fun _ h => nomatch h⟩
  | cons b r ih =>
    intro a
    obtain ⟨h1, h2, h3⟩ := ih (min a b)
    rw [List.foldl_cons]
    refine ⟨?_, by omega, fun y hy => ?_⟩
    · rcases h1 with h1 | h1
      · rw [h1]
        by_cases c : a ≤ b
        · exact .inl (by omega)
        · exact .inr (by rw [show min a b = b by omega]; exact List.mem_cons_self)
      · exact .inr (List.mem_cons_of_mem _ h1)
    · rcases List.mem_cons.mp hy with e | hy
      · subst e; omega
      · exact h3 y hy
theorem maxL_mem {ns : List Int} (h : ns ≠ []) : maxL ns ∈ ns ∧ ∀ y ∈ ns, y ≤ maxL ns := by
  cases ns with
  | nil => exact absurd rfl h
  | cons a r =>
    obtain ⟨h1, h2, h3⟩ := foldl_max r a
    refine ⟨?_, fun y hy => ?_⟩
    · rcases h1 with h1 | h1
      · show r.foldl max a ∈ a :: r
        rw [h1]; exact List.mem_cons_self
      · exact List.mem_cons_of_mem _ h1
    · rcases List.mem_cons.mp hy with e | hy
      · subst e; exact h2
      · exact h3 y hy
theorem minL_mem {ns : List Int} (h : ns ≠ []) : minL ns ∈ ns ∧ ∀ y ∈ ns, minL ns ≤ y := by
  cases ns with
  | nil => exact absurd rfl h
  | cons a r =>
    obtain ⟨h1, h2, h3⟩ := foldl_min r a
    refine ⟨?_, fun y hy => ?_⟩
    · rcases h1 with h1 | h1
      · show r.foldl min a ∈ a :: r
        rw [h1]; exact List.mem_cons_self
      · exact List.mem_cons_of_mem _ h1
    · rcases List.mem_cons.mp hy with e | hy
      · subst e; exact h2
      · exact h3 y hy
theorem cd_max {ns : List Int} (hn : ns ≠ []) : CD K (rMax K) [.list (ns.map .int)] (.int (maxL ns)) := fun B Γ σ F H vs I hv Q q => by
  cases hv with
  | cons h1 h2 =>
    cases h2
    cases h1 with
    | @lst a xs _ h3 _ h4 =>
      refine ⟨a, ns, rfl, by rw [← h4.ints_inv]; exact ex_l I.ex h3, List.length_pos_iff.mpr hn, fun m hm hle => ?_⟩
      obtain ⟨k1, k2⟩ := maxL_mem hn
      have e : m = maxL ns := Int.le_antisymm (k2 m hm) (hle _ k1)
      rw [e]; exact q _ F H (I.push (Dq.int _)) (Ex.refl F)
theorem cd_min {ns : List Int} (hn : ns ≠ []) : CD K (rMin K) [.list (ns.map .int)] (.int (minL ns)) := fun B Γ σ F H vs I hv Q q => by
  cases hv with
  | cons h1 h2 =>
    cases h2
    cases h1 with
    | @lst a xs _ h3 _ h4 =>
      refine ⟨a, ns, rfl, by rw [← h4.ints_inv]; exact ex_l I.ex h3, List.length_pos_iff.mpr hn, fun m hm hle => ?_⟩
      obtain ⟨k1, k2⟩ := minL_mem hn
      have e : m = minL ns := Int.le_antisymm (hle _ k1) (k2 m hm)
      rw [e]; exact q _ F H (I.push (Dq.int _)) (Ex.refl F)
theorem cd_max2 {a b : Int} {r : List V → Hp → VK → Prop} (hr : r = fun xs H Q => ∃ i j, xs = [.int i, .int j] ∧ Q (.int (if j > i then j else i)) H := by rfl) : CD K r [.int a, .int b] (.int (max a b)) := fun B Γ σ F H vs I hv Q q => by
  subst hr
  cases hv with
  | cons h1 h2 =>
    cases h2 with
    | cons h2 h3 =>
      cases h3
      cases h1
      cases h2
      have e : (if b > a then b else a) = max a b := by split <;> omega
      exact ⟨a, b, rfl, by rw [e]; exact q _ F H (I.push (Dq.int _)) (Ex.refl F)⟩
theorem cd_min2 {a b : Int} {r : List V → Hp → VK → Prop} (hr : r = fun xs H Q => ∃ i j, xs = [.int i, .int j] ∧ Q (.int (if j < i then j else i)) H := by rfl) : CD K r [.int a, .int b] (.int (min a b)) := fun B Γ σ F H vs I hv Q q => by
  subst hr
  cases hv with
  | cons h1 h2 =>
    cases h2 with
    | cons h2 h3 =>
      cases h3
      cases h1
      cases h2
      have e : (if b < a then b else a) = min a b := by split <;> omega
      exact ⟨a, b, rfl, by rw [e]; exact q _ F H (I.push (Dq.int _)) (Ex.refl F)⟩
/-- list(..), tuple(..) -/
theorem co_list0 {r : List V → Hp → VK → Prop} (hr : r = fun xs H Q => ∃ p ys, xs = [.ref p] ∧ (SqL K H p ys ∨ SqT K H p ys) ∧ ∀ l, H l = none → Q (.ref l) (upd H l (.lst ys)) := by rfl) (hx : x = .list ds ∨ x = .tuple ds) : CO K r [x] ds := fun B Γ σ F H vs I hv Q q => by
  subst hr
  cases hv with
  | cons h1 h2 =>
    cases h2
    rcases hx with hx | hx
    · subst hx
      cases h1 with
      | @lst a xs _ h3 hz h4 => exact ⟨a, xs, rfl, .inl (ex_l I.ex h3), fun l hl => q l _ (I.pushL hl hz h4)⟩
    · subst hx
      cases h1 with
      | @tup a xs _ h3 hz h4 => exact ⟨a, xs, rfl, .inr (ex_t I.ex h3), fun l hl => q l _ (I.pushL hl hz h4)⟩
theorem cd_tuple0 {r : List V → Hp → VK → Prop} (hr : r = fun xs H Q => ∃ p ys, xs = [.ref p] ∧ ((SqL K H p ys ∧ ∀ l, H l = none → Q (.ref l) (upd H l (.tup ys))) ∨ (SqT K H p ys ∧ Q (.ref p) H)) := by rfl) (hx : x = .list ds ∨ x = .tuple ds) : CD K r [x] (.tuple ds) := fun B Γ σ F H vs I hv Q q => by
  subst hr
  cases hv with
  | cons h1 h2 =>
    cases h2
    rcases hx with hx | hx
    · subst hx
      cases h1 with
      | @lst a xs _ h3 hz h4 =>
        refine ⟨a, xs, rfl, .inl ⟨ex_l I.ex h3, fun l hl => ?_⟩⟩
        have eF : Ex F (upd F l (.tup xs)) := Ex.new (I.nF hl)
        exact q _ _ _ ((I.alloc hl).push (Dq.tup (.inl (.inl upd_same)) hz (DqAll.mono eF _ _ h4))) eF
    · subst hx
      cases h1 with
      | @tup a xs _ h3 hz h4 => exact ⟨a, xs, rfl, .inr ⟨ex_t I.ex h3, q _ F H (I.push (Dq.tup h3 hz h4)) (Ex.refl F)⟩⟩
/-- in -/
theorem rd_inI {neg : Bool} {n : Int} {ns : List Int} (hx : x = .list (ns.map .int) ∨ x = .tuple (ns.map .int)) : RD K (rIn K neg) (.int n) x (.bool (if neg then !decide (n ∈ ns) else decide (n ∈ ns))) := fun B Γ σ F H v w I hv hw Q q => by
  cases hv
  have e1 : inV (.int n) (ns.map V.int) = decide (n ∈ ns) := by
    unfold inV
    rw [List.any_map]
    have : ((fun y => eqV y (.int n)) ∘ V.int) = fun m : Int => decide (m = n) := by
      funext m
      show eqV (.int m) (.int n) = _
      show (m == n) = decide (m = n)
      rw [Bool.beq_eq_decide_eq]
    rw [this]
    by_cases h : n ∈ ns
    · rw [decide_eq_true h, List.any_eq_true]; exact ⟨n, h, by simp⟩
    · rw [decide_eq_false h, List.any_eq_false]; intro m hm; simp; intro e; exact h (e ▸ hm)
  have e2 : (ns.map V.int).all flatV = true := by
    rw [List.all_eq_true]; intro y hy; obtain ⟨m, _, rfl⟩ := List.mem_map.mp hy; rfl
  rcases hx with hx | hx
  · subst hx
    cases hw with
    | @lst a xs _ h3 _ h4 =>
      rw [h4.ints_inv] at h3
      exact ⟨a, _, rfl, .inl (ex_l I.ex h3), rfl, e2, by rw [e1]; exact q _ F H (I.push (Dq.bl _)) (Ex.refl F)⟩
  · subst hx
    cases hw with
    | @tup a xs _ h3 _ h4 =>
      rw [h4.ints_inv] at h3
      exact ⟨a, _, rfl, .inr (ex_t I.ex h3), rfl, e2, by rw [e1]; exact q _ F H (I.push (Dq.bl _)) (Ex.refl F)⟩
/-! ### slices -/
def OPt (to : TO) (Γ : List Sl) (o : Option Int) : Prop := ∀ (B : Bs) (σ : St) (F H : Hp), Ok B Γ σ F H → ∀ Q : Option Int → Hp → Prop, (∀ F' H', Ok B Γ σ F' H' → Ex F F' → Q o H') → to σ H Q
theorem op_no : OPt tNoPart Γ none := fun B σ F H I Q q => q F H I (Ex.refl F)
theorem op_some {n : Int} (h : EP te Γ (Da K (.int n))) : OPt (tPart te) Γ (some n) := fun B σ F H I Q q => h B σ F H I _ fun Γ1 s1 v F1 H1 ⟨a, b⟩ I1 e1 => by
  subst a b
  obtain ⟨v', e, hv⟩ := Ok.head I1
  cases e
  cases hv
  exact ⟨n, rfl, q F1 H1 (Ok.pop I1) e1⟩
theorem OPt.under {to : TO} {o : Option Int} (h : OPt to Γ o) (hl : τ.length = Δ.length) (I : Ok B (Δ ++ Γ) (τ ++ σ) F H) {Q : Option Int → Hp → Prop} (q : ∀ F' H', Ok B (Δ ++ Γ) (τ ++ σ) F' H' → Ex F F' → Q o H') : to σ H Q := by
  obtain ⟨B', I', c⟩ := TL.under hl I
  exact h B' σ F H I' Q fun F' H' b e => q F' H' (c _ _ _ _ b) e
def cutD (xs : List PyData) (lo hi : Option Int) : List PyData := (xs.drop (HT.sIx xs.length 0 lo)).take (HT.sIx xs.length xs.length hi - HT.sIx xs.length 0 lo)
theorem cutD_all {xs : List V} {lo hi : Option Int} (h : DqAll K F xs ds) : DqAll K F (cutV xs lo hi) (cutD ds lo hi) := by
  unfold cutV cutD
  rw [h.len]
  exact (h.drop _).take _
theorem cutD_len {lo hi : Option Int} : (cutD ds lo hi).length ≤ ds.length := by
  unfold cutD; rw [List.length_take, List.length_drop]; omega
theorem ep_slT {tl th : TO} {lo hi : Option Int} (h : EP te Γ (Da K (.tuple ds))) (h1 : OPt tl Γ lo) (h2 : OPt th Γ hi) : EP (tSl (rSlA K) te tl th) Γ (Da K (.tuple (cutD ds lo hi))) := fun B σ F H I Q q => h B σ F H I _ fun Γ1 s1 v F1 H1 ⟨a, b⟩ I1 e1 => by
  subst a b
  refine h1.under (τ := [some v]) (Δ := [Da K (.tuple ds)]) rfl I1 fun F2 H2 I2 e2 => ?_
  refine h2.under (τ := [some v]) (Δ := [Da K (.tuple ds)]) rfl I2 fun F3 H3 I3 e3 => ?_
  obtain ⟨v', e, hv⟩ := Ok.head I3
  cases e
  have I4 := Ok.pop I3
  have eA := (e1.trans e2).trans e3
  cases hv with
  | @tup p xs _ h3 hz h4 =>
    refine ⟨p, xs, rfl, ex_t I3.ex h3, fun hw => ?_, fun hw p' hp => ?_⟩
    · have ec : cutD ds lo hi = ds := by
        obtain ⟨w1, w2⟩ := hw
        unfold cutD
        rw [← h4.len, w1, w2, List.drop_zero, h4.len, Nat.sub_zero, List.take_length]
      rw [ec] at q
      exact q _ _ _ F3 H3 ⟨rfl, rfl⟩ (I4.push (Dq.tup h3 hz h4)) eA
    · have eF : Ex F3 (upd F3 p' (.tup (cutV xs lo hi))) := Ex.new (I4.nF hp)
      exact q _ _ _ _ _ ⟨rfl, rfl⟩ ((I4.alloc hp).push (Dq.tup (.inl (.inl upd_same)) (Nat.le_trans cutD_len hz) (DqAll.mono eF _ _ (cutD_all h4)))) (eA.trans eF)
theorem eo_slL {tl th : TO} {lo hi : Option Int} (h : EP te Γ (Da K (.list ds))) (h1 : OPt tl Γ lo) (h2 : OPt th Γ hi) : EO (tSl (rSlL K) te tl th) Γ (oL K) (cutD ds lo hi) := fun B σ F H I Q q => h B σ F H I _ fun Γ1 s1 v F1 H1 ⟨a, b⟩ I1 e1 => by
  subst a b
  refine h1.under (τ := [some v]) (Δ := [Da K (.list ds)]) rfl I1 fun F2 H2 I2 e2 => ?_
  refine h2.under (τ := [some v]) (Δ := [Da K (.list ds)]) rfl I2 fun F3 H3 I3 e3 => ?_
  obtain ⟨v', e, hv⟩ := Ok.head I3
  cases e
  have I4 := Ok.pop I3
  cases hv with
  | @lst p xs _ h3 hz h4 => exact ⟨p, xs, rfl, ex_l I3.ex h3, fun p' hp => q _ _ _ F3 _ ⟨rfl, p', rfl⟩ (I4.pushL hp (Nat.le_trans cutD_len hz) (cutD_all h4)) ((e1.trans e2).trans e3)⟩
theorem eo_revL (h : EP te Γ (Da K (.list ds))) : EO (tRevL K te) Γ (oL K) ds.reverse := fun B σ F H I Q q => h B σ F H I _ fun Γ1 s1 v F1 H1 ⟨a, b⟩ I1 e1 => by
  subst a b
  obtain ⟨v', e, hv⟩ := Ok.head I1
  cases e
  cases hv with
  | @lst p xs _ h3 hz h4 => exact ⟨p, xs, rfl, ex_l I1.ex h3, fun p' hp => q _ _ _ F1 _ ⟨rfl, p', rfl⟩ ((Ok.pop I1).pushL hp (by rw [List.length_reverse]; exact hz) h4.reverse) e1⟩
end
end TL
namespace TL
open PySem L2
/-- a def that stands at the module's name x and keeps its promise -/
def Has (P : Program) (w : World) (K : PySem.W.Frag) (mg : Str → Option Value) (base : Heap) (k : Nat) (x : Str) (ps : List Str) (sp : Sp) : Prop :=
  ∃ fd : FuncData, mg x = some (.ref (He.ga K x)) ∧ PySem.W.keepIn K (.ref (He.ga K x)) = true ∧ Binds K fd ps [] ∧ FnOk P w K mg base (L2.CX P w) k (He.ga K x) fd ps sp
end TL
namespace TL
open PySem L2
open Evl (Ex)
def Sl.plain : Sl → Bool
  | .own _ _ _ => false
  | _ => true
theorem noOwn {Γ : List Sl} {vs : List Nat} (h : (vs.all fun j => match Γ[j]? with
    | some s => s.plain
    | none => true) = true := by rfl) : NoOwn Γ vs := fun j hj α p o a e => by
  have := List.all_eq_true.mp h j hj
  rw [e] at this
  cases this
section
variable {K : PySem.W.Frag} {B : Bs} {Γ Δ Γ' : List Sl} {te ta tb tc tl : TE} {tt tu : TT} {vs : List Nat} {ds es : List PyData} {wi : TI} {g : TG} {α : Type} {xs : List α} {e : α → PyData} {f : α → Bool} {w : α → PyData} {j : Nat}
theorem filt_true {β : Type} (l : List β) : l.filter (fun _ => true) = l := List.filter_eq_self.mpr fun _ _ => rfl
theorem ep_andF (h : EP ta Γ (Da K (.bool false))) : EP (tAndV ta tb) Γ (Da K (.bool false)) := ep_andV (b := true) h fun z => absurd z Bool.false_ne_true
theorem ep_orT (h : EP ta Γ (Da K (.bool true))) : EP (tOrV ta tb) Γ (Da K (.bool true)) := ep_orV (b := true) h fun z => absurd z.symm Bool.false_ne_true
theorem ep_andT {b : Bool} (h : EP ta Γ (Da K (.bool true))) (h2 : EP tb Γ (Da K (.bool b))) : EP (tAndV ta tb) Γ (Da K (.bool b)) := (ep_andV (b := b) h fun _ => h2).is (by rw [Bool.true_and])
theorem ep_orF {b : Bool} (h : EP ta Γ (Da K (.bool false))) (h2 : EP tb Γ (Da K (.bool b))) : EP (tOrV ta tb) Γ (Da K (.bool b)) := (ep_orV (b := b) h fun _ => h2).is (by rw [Bool.false_or])
theorem tp_andF (h : TP tt Γ false) : TP (tAnd tt tu) Γ false := tp_and (b := true) h fun z => absurd z Bool.false_ne_true
theorem tp_orT (h : TP tt Γ true) : TP (tOr tt tu) Γ true := tp_or (b := true) h fun z => absurd z.symm Bool.false_ne_true
theorem tp_andT {b : Bool} (h : TP tt Γ true) (h2 : TP tu Γ b) : TP (tAnd tt tu) Γ b := (tp_and (b := b) h fun _ => h2).is (by rw [Bool.true_and])
theorem tp_orF {b : Bool} (h : TP tt Γ false) (h2 : TP tu Γ b) : TP (tOr tt tu) Γ b := (tp_or (b := b) h fun _ => h2).is (by rw [Bool.false_or])
/-- a comprehension to a name, its test the usual ones; the element's slots are those of Γ with the target set -/
theorem eo_lcN {ws : List PyData} (hi : IP K wi Γ (xs.map e)) (ht : ∀ x ∈ xs, TP tt ((wipeL Γ [j]).set j (Da K (e x))) (f x)) (he : ∀ x ∈ xs, f x = true → EP te ((wipeL Γ [j]).set j (Da K (e x))) (Da K (w x))) (hw : (xs.filter f).map w = ws) (hv : NoOwn Γ [j] := by exact noOwn) : EO (tLc wi (gName j) tt te [j]) Γ (oL K) ws := by
  subst hw
  refine eo_lc hi hv fun x hx => ⟨_, gp_name (List.mem_singleton.mpr rfl), ?_, ht x hx, he x hx⟩
  show ((((Γ.set j .no).set j (Da K (e x))).set j .no)) = Γ.set j .no
  rw [List.set_set, List.set_set]
/-- .. without a test -/
theorem eo_map {ws : List PyData} (hi : IP K wi Γ (xs.map e)) (he : ∀ x ∈ xs, EP te ((wipeL Γ [j]).set j (Da K (e x))) (Da K (w x))) (hw : xs.map w = ws) (hv : NoOwn Γ [j] := by exact noOwn) : EO (tLc wi (gName j) tYes te [j]) Γ (oL K) ws :=
  eo_lcN (f := fun _ => true) hi (fun _ _ => tp_yes) (fun x hx _ => he x hx) (by rw [filt_true]; exact hw) hv
/-- .. over pairs, without a test -/
theorem eo_map2 {ws : List PyData} {i : Nat} {p q : α → PyData} (hi : IP K wi Γ (xs.map fun x => .tuple [p x, q x])) (he : ∀ x ∈ xs, EP te (((wipeL Γ [i, j]).set i (Da K (p x))).set j (Da K (q x))) (Da K (w x))) (hw : xs.map w = ws) (hij : i ≠ j := by decide) (hv : NoOwn Γ [i, j] := by exact noOwn) :
    EO (tLc wi (gTup K 2 (gCons (gName i) (gCons (gName j) gNil))) tYes te [i, j]) Γ (oL K) ws := by
  subst hw
  have h := eo_lc (f := fun _ => true) (w := w) hi hv (tt := tYes) (te := te) (g := gTup K 2 (gCons (gName i) (gCons (gName j) gNil))) fun x hx => ⟨_, gp_tup2 (by simp) (by simp), ?_, tp_yes, fun _ => he x hx⟩
  · rw [filt_true] at h
    exact h
  · show (((((Γ.set j .no).set i .no).set i (Da K (p x))).set j (Da K (q x))).set j .no).set i .no = (Γ.set j .no).set i .no
    rw [List.set_set, List.set_set, List.set_comm _ _ (Ne.symm hij), List.set_set, List.set_comm _ _ hij, List.set_set]
theorem eo_lc2 {ws : List PyData} {i : Nat} {p q : α → PyData} (hi : IP K wi Γ (xs.map fun x => .tuple [p x, q x])) (ht : ∀ x ∈ xs, TP tt (((wipeL Γ [i, j]).set i (Da K (p x))).set j (Da K (q x))) (f x)) (he : ∀ x ∈ xs, f x = true → EP te (((wipeL Γ [i, j]).set i (Da K (p x))).set j (Da K (q x))) (Da K (w x))) (hw : (xs.filter f).map w = ws) (hij : i ≠ j := by decide) (hv : NoOwn Γ [i, j] := by exact noOwn) :
    EO (tLc wi (gTup K 2 (gCons (gName i) (gCons (gName j) gNil))) tt te [i, j]) Γ (oL K) ws := by
  subst hw
  refine eo_lc hi hv fun x hx => ⟨_, gp_tup2 (by simp) (by simp), ?_, ht x hx, he x hx⟩
  show (((((Γ.set j .no).set i .no).set i (Da K (p x))).set j (Da K (q x))).set j .no).set i .no = (Γ.set j .no).set i .no
  rw [List.set_set, List.set_set, List.set_comm _ _ (Ne.symm hij), List.set_set, List.set_comm _ _ hij, List.set_set]
theorem IP.is (h : IP K wi Γ ds) (e : ds = es) : IP K wi Γ es := by subst e; exact h
theorem cutD_from {n : Nat} : cutD ds (some (n : Int)) none = ds.drop n := by
  unfold cutD
  rw [HT.sIx_nat, HT.sIx_none]
  by_cases h : n ≤ ds.length
  · rw [Nat.min_eq_left h, ← List.length_drop, List.take_length]
  · rw [Nat.min_eq_right (by omega), List.drop_length, List.take_nil, List.drop_eq_nil_of_le (by omega)]
theorem cutD_to {n : Nat} : cutD ds none (some (n : Int)) = ds.take n := by
  unfold cutD
  rw [HT.sIx_nat, HT.sIx_none, List.drop_zero, Nat.sub_zero]
  by_cases h : n ≤ ds.length
  · rw [Nat.min_eq_left h]
  · rw [Nat.min_eq_right (by omega), List.take_length, List.take_of_length_le (by omega)]
theorem tp_notF (h : TP tt Γ true) : TP (tNot tt) Γ false := tp_not h
theorem tp_notT (h : TP tt Γ false) : TP (tNot tt) Γ true := tp_not h
theorem ep_notF (h : EP ta Γ (Da K (.bool true))) : EP (tNotV ta) Γ (Da K (.bool false)) := ep_notV h
theorem ep_notT (h : EP ta Γ (Da K (.bool false))) : EP (tNotV ta) Γ (Da K (.bool true)) := ep_notV h
theorem map_bool (l : List α) (f : α → Bool) : l.map (fun x => PyData.bool (f x)) = (l.map f).map .bool := by rw [List.map_map]; rfl
theorem rng_get {a b x : Int} {i : Nat} (h : (rng a b)[i]? = some x) : x = a + i := by
  unfold rng at h
  rw [List.getElem?_map] at h
  obtain ⟨k, h1, h2⟩ := Option.map_eq_some_iff.mp h
  obtain ⟨h3, h4⟩ := List.getElem?_eq_some_iff.mp h1
  rw [List.getElem_range] at h4
  subst h4; exact h2.symm
theorem mem_rng {a b x : Int} : x ∈ rng a b ↔ a ≤ x ∧ x < b := by
  unfold rng
  rw [List.mem_map]
  constructor
  · rintro ⟨i, hi, rfl⟩
    have := List.mem_range.mp hi
    omega
  · rintro ⟨h1, h2⟩
    exact ⟨(x - a).toNat, List.mem_range.mpr (by omega), by omega⟩
/-- zip of tuples -/
theorem ip_zipT {ta : TA} (h : AP ta Γ [Da K (.tuple ds), Da K (.tuple es)]) : IP K (RZ.iZipA K ta) Γ (zipP ds es) := fun B σ F H I R q => h B σ F H I _ fun Γ1 ss ws F1 H1 ⟨a, b⟩ hn I1 e1 => by
  subst a b
  obtain ⟨ha, I2⟩ := Ok.all (xs := [PyData.tuple ds, PyData.tuple es]) (by simpa using hn) I1
  cases ha with
  | cons hv hr =>
    cases hr with
    | cons hv2 hr2 =>
      cases hr2
      cases hv with
      | @tup a xs _ hs hz hc =>
        cases hv2 with
        | @tup b ys _ hs2 hz2 hc2 =>
          refine ⟨a, b, xs, ys, rfl, .inr ⟨Evl.ex_t I2.ex hs, Evl.ex_t I2.ex hs2, q _ F1 H1 I2 e1 (fun i F2 H2 e2 e3 => ⟨fun d hd => ?_, fun hl => ?_⟩) (by rw [zipP_len]; exact Nat.le_trans (Nat.min_le_left _ _) hz)⟩⟩
          · obtain ⟨p1, p2, h1, h2, h3⟩ := zipP_get hd
            obtain ⟨u, hu, du⟩ := hc.get h1
            obtain ⟨w, hw, dw⟩ := hc2.get h2
            refine ⟨⟨xs, ys, u, w, Evl.ex_t (e2.trans e3) hs, Evl.ex_t (e2.trans e3) hs2, hu, hw⟩, fun x H3 hy => ?_⟩
            obtain ⟨A', x', y', e4, hA, eH, hx, hy'⟩ := hy
            subst e4 h3
            have ew := hx xs (Evl.ex_t (e2.trans e3) hs)
            rw [hu] at ew
            cases ew
            have ew := hy' ys (Evl.ex_t (e2.trans e3) hs2)
            rw [hw] at ew
            cases ew
            exact new_pair e3 hA eH (Dq.mono e2 _ _ du) (Dq.mono e2 _ _ dw)
          · rw [zipP_len] at hl
            exact ⟨xs, ys, Evl.ex_t (e2.trans e3) hs, Evl.ex_t (e2.trans e3) hs2, by rw [hc.len, hc2.len]; omega⟩
/-- pairs of two mapped lists -/
theorem zipP_map {β : Type} {p : α → PyData} {q : β → PyData} {xs : List α} {ys : List β} : zipP (xs.map p) (ys.map q) = (xs.zip ys).map fun z => .tuple [p z.1, q z.2] := by
  unfold zipP
  rw [List.zipWith_map, List.zip, List.map_zipWith]
theorem enumP_map {p : α → PyData} {xs : List α} : enumP (xs.map p) = ((List.range xs.length).zip xs).map fun z => .tuple [.int (z.1 : Nat), p z.2] := by
  unfold enumP
  rw [List.length_map, List.zipWith_map_right, List.zip, List.map_zipWith]
end
end TL
/-! TL6: the layer's rules with the written part named once (K), so that a comprehension's parts read alike. -/
namespace TL
open PySem L2
section
variable {X : Cx} {e o : Expr} {es : List Expr} {te ta : TE} {t : TA}
def rLenK (K : PySem.W.Frag) : List V → Hp → VK → Prop := fun xs H Q => ∃ x n, xs = [x] ∧ LenV K x H n ∧ Q (.int n) H
def rListK (K : PySem.W.Frag) : List V → Hp → VK → Prop := fun xs H Q => ∃ p ys, xs = [.ref p] ∧ (SqL K H p ys ∨ SqT K H p ys) ∧ ∀ l, H l = none → Q (.ref l) (upd H l (.lst ys))
def rTupK (K : PySem.W.Frag) : List V → Hp → VK → Prop := fun xs H Q => ∃ p ys, xs = [.ref p] ∧ ((SqL K H p ys ∧ ∀ l, H l = none → Q (.ref l) (upd H l (.tup ys))) ∨ (SqT K H p ys ∧ Q (.ref p) H))
theorem kLen (K : PySem.W.Frag) (h : X.K = K := by rfl) : CallR X (.builtin "len") (rLenK K) := by subst h; exact call_len
theorem kIsi (K : PySem.W.Frag) (h : X.K = K := by rfl) : CallR X (.builtin "isinstance") (rIsi K) := by subst h; exact call_isi
theorem kAll (K : PySem.W.Frag) (hc : X.calm = true := by rfl) (h : X.K = K := by rfl) : CallR X (.builtin "all") (rAll K) := by subst h; exact cr_all hc
theorem kAny (K : PySem.W.Frag) (hc : X.calm = true := by rfl) (h : X.K = K := by rfl) : CallR X (.builtin "any") (rAny K) := by subst h; exact cr_any hc
theorem kSum (K : PySem.W.Frag) (hc : X.calm = true := by rfl) (h : X.K = K := by rfl) : CallR X (.builtin "sum") (rSum K) := by subst h; exact cr_sum hc
theorem kMin (K : PySem.W.Frag) (hc : X.calm = true := by rfl) (h : X.K = K := by rfl) : CallR X (.builtin "min") (rMin K) := by subst h; exact cr_min hc
theorem kMax (K : PySem.W.Frag) (hc : X.calm = true := by rfl) (h : X.K = K := by rfl) : CallR X (.builtin "max") (rMax K) := by subst h; exact cr_max hc
theorem kList (K : PySem.W.Frag) (h : X.K = K := by rfl) : CallR X (.type "list") (rListK K) := by subst h; exact call_list_of
theorem kTuple (K : PySem.W.Frag) (h : X.K = K := by rfl) : CallR X (.type "tuple") (rTupK K) := by subst h; exact call_tuple_of
theorem kIxT (K : PySem.W.Frag) (h : X.K = K := by rfl) : IxR X (rIxT K) := by subst h; exact ix_tup
theorem kIxL (K : PySem.W.Frag) (h : X.K = K := by rfl) : IxR X (rIxL K) := by subst h; exact ix_list
theorem kSlT (K : PySem.W.Frag) (h : X.K = K := by rfl) : SlR X (rSlA K) := by subst h; exact sl_tupA
theorem kSlL (K : PySem.W.Frag) (h : X.K = K := by rfl) : SlR X (rSlL K) := by subst h; exact sl_list
theorem kCatT (K : PySem.W.Frag) (h : X.K = K := by rfl) : OpR X (binaryOp .Add) (rCatA K) := by subst h; exact op_catA
theorem kCatL (K : PySem.W.Frag) (h : X.K = K := by rfl) : OpR X (binaryOp .Add) (rCatS K) := by subst h; exact op_catS
theorem kIn (K : PySem.W.Frag) (h : X.K = K := by rfl) : OpR X (compareOp .In) (rIn K false) := by subst h; exact op_in_seq
theorem kNotIn (K : PySem.W.Frag) (h : X.K = K := by rfl) : OpR X (compareOp .NotIn) (rIn K true) := by subst h; exact op_notIn_seq
theorem kEq (K : PySem.W.Frag) (hu : X.A.units + 64 < cLine) (h : X.K = K := by rfl) : OpR X (compareOp .Eq) (rEqD K) := by subst h; exact op_eqD hu
theorem kNe (K : PySem.W.Frag) (hu : X.A.units + 64 < cLine) (h : X.K = K := by rfl) : OpR X (compareOp .NotEq) (rNeD K) := by subst h; exact op_neD hu
theorem kpi_list {tg : Expr} (K : PySem.W.Frag) (hl : PE X e te) (h : X.K = K := by rfl) : PI X tg e (iList K te) := by subst h; exact pi_list hl
theorem kpi_tup {tg : Expr} (K : PySem.W.Frag) (hl : PE X e te) (h : X.K = K := by rfl) : PI X tg e (iTup K te) := by subst h; exact pi_tup hl
theorem kpi_enum (K : PySem.W.Frag) {p pos tpos : Pos} {elts : List Expr} {kk : Nat} (hg : Gl X "enumerate") (hm : X.mg "enumerate" = none) (ha : PA X [e] t) (hs : starEach [e] X.env = [(false, eval e X.env)] := by rfl) (h : X.K = K := by rfl) :
    PI X (.Tuple elts kk tpos) (.Call (.Name "enumerate" p) [e] [] pos) (iEnum K t) := by subst h; exact pi_enum hg hm ha hs
theorem kpi_zip (K : PySem.W.Frag) {e2 : Expr} {p pos tpos : Pos} {elts : List Expr} {kk : Nat} (hg : Gl X "zip") (hm : X.mg "zip" = none) (ha : PA X [e, e2] t) (hs : starEach [e, e2] X.env = (false, eval e X.env) :: starEach [e2] X.env := by rfl)
    (hpl : (backTo pos (starEach [e2] X.env)).any (·.1) = false := by rfl) (h : X.K = K := by rfl) : PI X (.Tuple elts kk tpos) (.Call (.Name "zip" p) [e, e2] [] pos) (iZip K t) := by subst h; exact pi_zip hg hm ha hs hpl
theorem kpi_zipA (K : PySem.W.Frag) {e2 : Expr} {p pos tpos : Pos} {elts : List Expr} {kk : Nat} (hg : Gl X "zip") (hm : X.mg "zip" = none) (ha : PA X [e, e2] t) (hs : starEach [e, e2] X.env = (false, eval e X.env) :: starEach [e2] X.env := by rfl)
    (hpl : (backTo pos (starEach [e2] X.env)).any (·.1) = false := by rfl) (h : X.K = K := by rfl) : PI X (.Tuple elts kk tpos) (.Call (.Name "zip" p) [e, e2] [] pos) (RZ.iZipA K t) := by subst h; exact RZ.pi_zipA hg hm ha hs hpl
theorem kpg_tup (K : PySem.W.Frag) {k n : Nat} {pos : Pos} {tt : TGs} (hc : X.calm = true) (g : PGs X es tt) (hn : (assignEach es X.env).length = n := by rfl) (hst : (assignEach es X.env).findIdx? (·.1) = none := by rfl) (h : X.K = K := by rfl) :
    PG X (.Tuple es k pos) (gTup K n tt) := by subst h; exact pg_tup hc g hn hst
theorem kRevL (K : PySem.W.Frag) {k : Nat} {p1 p2 p3 pos : Pos} (he : PE X e te) (h : X.K = K := by rfl) : PE X (.Subscript e (.Slice none none (some (.UnaryOp .USub (.Constant (.int 1) k p1) p2)) p3) pos) (tRevL K te) := by subst h; exact pe_revL he
theorem kApp (K : PySem.W.Frag) {apos cpos : Pos} (ho : PE X o te) (ha : PA X (e :: es) t)
    (hbase : attributeBase o "append" X.env (eval o X.env) = eval o X.env := by rfl)
    (hfew : ((backTo cpos (starEach (e :: es) X.env)).all (fun x => !x.1) && (backToKw cpos (keywordEach [] X.env)).all (fun x => x.1.isSome)
      && decide ((e :: es).length + ([] : List Keyword).length + (if ([] : List Keyword).isEmpty then 0 else 1) < 30)) = true := by rfl)
    (hline : (apos.endLine == cpos.line) = true := by rfl) (hs : starEach (e :: es) X.env = (false, eval e X.env) :: starEach es X.env := by rfl) (hplain : (backTo cpos (starEach es X.env)).any (·.1) = false := by rfl) (h : X.K = K := by rfl) :
    PE X (.Call (.Attribute o "append" apos) (e :: es) [] cpos) (tBM K "list" rAppend te t) := by
  subst h
  exact pe_bm PySem.F.plainAttrs_list PySem.F.slot_list_append PySem.F.type_list_append mt_append ho ha hbase hfew hline hs hplain
end
section
variable {K : PySem.W.Frag} {B : Bs} {Γ Δ Γ' : List Sl} {te ta tb tc tl : TE} {tt tu : TT} {vs : List Nat} {ds es : List PyData} {x : PyData}
theorem cd_len {ds : List PyData} : CD K (rLenK K) [.list ds] (.int (ds.length : Nat)) := TL.cd_len0
theorem cd_lenT : CD K (rLenK K) [.tuple ds] (.int (ds.length : Nat)) := TL.cd_lenT0
theorem co_list (hx : x = .list ds ∨ x = .tuple ds) : CO K (rListK K) [x] ds := TL.co_list0 rfl hx
theorem cd_tuple (hx : x = .list ds ∨ x = .tuple ds) : CD K (rTupK K) [x] (.tuple ds) := TL.cd_tuple0 rfl hx
end
end TL
/-! TL7: steps with effects; a deck of drawn numbers handed from def to def. -/
namespace TL
open PySem L2
open Evl (Ex ex_l ex_t)
section
variable {K : PySem.W.Frag} {B : Bs} {Γ Δ Γ' : List Sl} {σ τ : St} {F F' H H' : Hp} {s : Sl} {v : V} {te ta tb tc tl : TE} {tt tu : TT} {t u : TS} {D : AD} {d e x y z : PyData} {i j : Nat} {vs : List Nat} {ds es : List PyData} {k : List Sl → Sl → Prop}
theorem OkF.perm {L L' : List (List Addr)} (h : OkF B Γ σ F H L) {Γ' : List Sl} {σ' : St} (g : SlsOk F H σ' Γ' L') (nd : L'.flatten.Nodup) (m : ∀ q ∈ L'.flatten, q ∈ L.flatten) : OkF B Γ' σ' F H L' :=
  ⟨g, nd, fun q z => h.fz q (m q z), h.ex, h.bF, h.bG, h.bK, h.bD, fun q z => h.bO q (m q z)⟩
theorem part_nodup : ∀ {L : List (List Addr)} {fp : List Addr}, L.flatten.Nodup → fp ∈ L → fp.Nodup
  | a :: r, fp, h, m => by
    rw [List.flatten_cons, List.nodup_append] at h
    rcases List.mem_cons.mp m with e | m
    · rw [e]; exact h.1
    · exact part_nodup h.2.1 m
/-- the two parts change places -/
theorem Ok.rot (h : Ok B (Δ ++ Γ) (τ ++ σ) F H) (hl : τ.length = Δ.length) : Ok B (Γ ++ Δ) (σ ++ τ) F H := by
  obtain ⟨L, h⟩ := h
  obtain ⟨f₁, f₂, e, g1, g2⟩ := split hl h.sl
  subst e
  refine ⟨f₂ ++ f₁, h.perm (g2.append g1) ?_ fun q z => ?_⟩
  · have nd := h.nd
    rw [List.flatten_append, List.nodup_append] at nd ⊢
    exact ⟨nd.2.1, nd.1, fun x hx y hy e => nd.2.2 y hy x hx e.symm⟩
  · rw [List.flatten_append] at z ⊢
    exact List.mem_append.mpr (List.mem_append.mp z).symm
/-- a slot's object taken to the head -/
theorem Ok.lift (h : Ok B Γ σ F H) (e : Γ[i]? = some s) : ∃ x, σ[i]? = some x ∧ Ok B (s :: Γ.set i .no) (x :: σ.set i none) F H := by
  obtain ⟨L, h⟩ := h
  obtain ⟨x, fp, e1, e2, u⟩ := h.sl.get e
  refine ⟨x, e1, fp :: L.set i [], h.perm (.cons u (h.sl.set .no)) ?_ fun q z => ?_⟩
  · rw [List.flatten_cons, List.nodup_append]
    refine ⟨?_, nodup_drop h.nd, fun a ha b hb e => ?_⟩
    · obtain ⟨hi, e3⟩ := List.getElem?_eq_some_iff.mp e2
      exact part_nodup h.nd (List.mem_of_getElem? e2)
    · subst e
      exact apart h.nd e2 ha hb
  · rw [List.flatten_cons] at z
    rcases List.mem_append.mp z with z | z
    · exact mem_at e2 z
    · exact (mem_set z).elim id fun z => nomatch z
theorem atI_nat' {α : Type} {l : List α} {r : Int} (h0 : 0 ≤ r) (h : r.toNat < l.length) : atI l r = some l[r.toNat] := by
  unfold atI ixN
  rw [if_pos h0, if_pos (by omega)]
  show l[r.toNat]? = _
  rw [List.getElem?_eq_getElem h]
/-- two operands, whatever they do -/
theorem e_op {r : R2} (h : E ta Γ fun Γ1 s1 => ∃ x, s1 = Da K x ∧ E tb Γ1 fun Γ2 s2 => ∃ y z, s2 = Da K y ∧ RD K r x y z ∧ k Γ2 (Da K z)) : E (tOp r ta tb) Γ k := fun B σ F H I Q q =>
  h B σ F H I _ fun Γ1 s1 v F1 H1 ⟨x, e, hb⟩ I1 e1 => by
    subst e
    refine E.under hb (τ := [some v]) (Δ := [Da K x]) rfl I1 fun Γ2 s2 w F2 H2 ⟨y, z, e, hr, hk⟩ I2 e2 => ?_
    subst e
    obtain ⟨v', h1, hv⟩ := Ok.head I2
    cases h1
    obtain ⟨w', h2, hw⟩ := Ok.head (Ok.pop I2)
    cases h2
    exact hr B _ _ F2 H2 v w (Ok.pop (Ok.pop I2)) hv hw Q fun u F3 H3 I3 e3 => q _ _ u F3 H3 hk I3 ((e1.trans e2).trans e3)
/-- a test of a truth value, whatever it does -/
theorem t_test {k : List Sl → Bool → Prop} (h : E te Γ fun Γ1 s1 => ∃ b, s1 = Da K (.bool b) ∧ k Γ1 b) : T (tTest te) Γ k := fun B σ F H I Q q => h B σ F H I _ fun Γ1 s1 v F1 H1 ⟨b, e, hk⟩ I1 e1 => by
  subst e
  obtain ⟨v', e, hv⟩ := Ok.head I1
  cases e
  cases hv
  exact ⟨b, rfl, q _ _ F1 H1 hk (Ok.pop I1) e1⟩
theorem t_B {k : List Sl → Bool → Prop} (h : E te Γ fun Γ1 s1 => ∃ b, s1 = Da K (.bool b) ∧ k Γ1 b) : T (tB te) Γ k := fun B σ F H I Q q => h B σ F H I _ fun Γ1 s1 v F1 H1 ⟨b, e, hk⟩ I1 e1 => by
  subst e
  obtain ⟨v', e, hv⟩ := Ok.head I1
  cases e
  cases hv
  exact ⟨b, rfl, q _ _ F1 H1 hk (Ok.pop I1) e1⟩
/-- arguments, whatever they do -/
theorem a_nil {k : List Sl → List Sl → Prop} (h : k Γ []) : A tNil Γ k := fun B σ F H I Q q => q _ _ [] F H h rfl I (Ex.refl F)
theorem a_cons {tr : TA} {k : List Sl → List Sl → Prop} (h : E ta Γ fun Γ1 s1 => A tr Γ1 fun Γ2 ss => k Γ2 (s1 :: ss)) : A (tCons ta tr) Γ k := fun B σ F H I Q q =>
  h B σ F H I _ fun Γ1 s1 v F1 H1 hr I1 e1 => by
    refine A.under hr (τ := [some v]) (Δ := [s1]) rfl I1 fun Γ2 ss w F2 H2 hk n I2 e2 => ?_
    exact q _ (s1 :: ss) (v :: w) F2 H2 hk (by simp [n]) I2 (e1.trans e2)
theorem AP.to {ta : TA} {ss : List Sl} {k : List Sl → List Sl → Prop} (h : AP ta Γ ss) (w : k Γ ss) : A ta Γ k := fun B σ F H I Q q => h B σ F H I Q fun Γ' s' v F' H' ⟨a, b⟩ n c e => by subst a b; exact q _ _ v F' H' w n c e
theorem e_cb {r : List V → Hp → VK → Prop} {t : TA} (h : A t Γ fun Γ1 ss => ∃ xs z, ss = xs.map (Da K) ∧ CD K r xs z ∧ k Γ1 (Da K z)) : E (tCB r t) Γ k := fun B σ F H I Q q =>
  h B σ F H I _ fun Γ1 ss vs F1 H1 ⟨xs, z, a, hr, hk⟩ n I1 e1 => by
    subst a
    obtain ⟨h1, h2⟩ := Ok.all (by simpa using n) I1
    exact hr B _ _ F1 H1 vs h2 h1 Q fun u F3 H3 I3 e3 => q _ _ u F3 H3 hk I3 (e1.trans e3)
theorem e_tup {t : TA} (h : A t Γ fun Γ1 ss => ∃ xs, ss = xs.map (Da K) ∧ xs.length ≤ wee ∧ k Γ1 (Da K (.tuple xs))) : E (tTup t) Γ k := fun B σ F H I Q q =>
  h B σ F H I _ fun Γ1 ss vs F1 H1 ⟨xs, a, hz, hk⟩ n I1 e1 => by
    subst a
    obtain ⟨h1, h2⟩ := Ok.all (by simpa using n) I1
    refine ⟨Nat.le_trans (by rw [h1.len]; exact hz) (by decide), fun p hp => ?_⟩
    have eF : Ex F1 (upd F1 p (.tup vs)) := Ex.new (h2.nF hp)
    exact q _ _ _ (upd F1 p (.tup vs)) _ hk ((h2.alloc hp).push (Dq.tup (.inl (.inl upd_same)) hz (DqAll.mono eF _ _ h1))) (e1.trans eF)
/-- a list made, frozen or not -/
theorem e_cbO {r : List V → Hp → VK → Prop} {t : TA} (h : A t Γ fun Γ1 ss => ∃ xs ds, ss = xs.map (Da K) ∧ CO K r xs ds ∧ ∀ p, k Γ1 (.own p (oL K) ds)) : E (tCB r t) Γ k := fun B σ F H I Q q =>
  h B σ F H I _ fun Γ1 ss vs F1 H1 ⟨xs, ds, a, hr, hk⟩ n I1 e1 => by
    subst a
    obtain ⟨h1, h2⟩ := Ok.all (by simpa using n) I1
    exact hr B _ _ F1 H1 vs h2 h1 Q fun p H3 I3 => q _ _ _ F1 H3 (hk p) I3 e1
/-- what is new is frozen -/
theorem e_frz (h : E te Γ fun Γ1 s1 => (∃ p ds, s1 = .own p (oL K) ds ∧ k Γ1 (Da K (.list ds)))) : E te Γ k := fun B σ F H I Q q => h B σ F H I Q fun Γ' s v F' H' ⟨p, ds, a, hk⟩ c e => by
  subst a
  obtain ⟨F2, e1, e2, c2⟩ := c.freeze
  exact q _ _ v F2 H' hk c2 (e.trans e2)
theorem q_asgGE {g : TG} (h : E te Γ fun Γ1 s => ∃ d vs Γ', s = Da K d ∧ GP K g d vs Γ1 Γ' ∧ S B u Γ' D) : S B (tSeq (tAsg te g) u) Γ D := fun σ F H I D' hn hr hb hc =>
  h B σ F H I _ fun Γ1 s1 v F1 H1 ⟨d, vs, Γ', e, hg, m⟩ I1 e1 => by
    subst e
    obtain ⟨v', ev, hv⟩ := Ok.head I1
    cases ev
    exact hg B σ F1 H1 v (Ok.pop I1) hv _ fun σ' _ I2 => m _ F1 H1 I2 D' (fun a b c d p q r => hn a b c d p q (e1.trans r)) (fun a b c d f g p q r => hr a b c d f g p q (e1.trans r)) (fun a b c d p q r => hb a b c d p q (e1.trans r)) (fun a b c d p q r => hc a b c d p q (e1.trans r))
/-- a, b = x, y -/
theorem q_par {ta : TA} (h : A ta Γ fun Γ1 ss => ∃ x y, ss = [Da K x, Da K y] ∧ S B u ((Γ1.set i (Da K x)).set j (Da K y)) D) : S B (tSeq (tPar i j ta) u) Γ D := fun σ F H I D' hn hr hb hc =>
  h B σ F H I _ fun Γ1 ss vs F1 H1 ⟨x, y, a, m⟩ n I1 e1 => by
    subst a
    match vs, n with
    | [v, w], _ =>
      obtain ⟨v', ev, hv⟩ := Ok.head I1
      cases ev
      obtain ⟨w', ew, hw⟩ := Ok.head (Ok.pop I1)
      cases ew
      exact ⟨v, w, rfl, m _ F1 H1 (((Ok.pop (Ok.pop I1)).setv (.val hv)).setv (.val hw)) D' (fun a b c d p q r => hn a b c d p q (e1.trans r)) (fun a b c d f g p q r => hr a b c d f g p q (e1.trans r)) (fun a b c d p q r => hb a b c d p q (e1.trans r)) (fun a b c d p q r => hc a b c d p q (e1.trans r))⟩
/-! ### the deck -/
/-- three ints, the second a rest, the third at most n -/
def oDk : Ow Nat where
  O := fun F H p fp n => fp = [p] ∧ ∃ a b c : Int, H p = some (.lst [.int a, .int b, .int c]) ∧ 0 ≤ b ∧ b < 2147483579 ∧ 0 ≤ c ∧ c ≤ n
  frame := fun {F F' H H' p fp a} e k ⟨h1, a', b, c, h2, h3⟩ => ⟨h1, a', b, c, by rw [k p (by rw [h1]; exact List.mem_singleton.mpr rfl)]; exact h2, h3⟩
  there := fun {F H p fp a} ⟨h1, a', b, c, h2, _⟩ q hq => by
    rw [h1] at hq
    have e : q = p := by simpa using hq
    rw [e]; exact ⟨_, h2⟩
theorem set_self {α : Type _} {l : List α} {i : Nat} {a : α} (e : l[i]? = some a) : l.set i a = l := by
  obtain ⟨h, e⟩ := List.getElem?_eq_some_iff.mp e
  rw [← e]; exact List.set_getElem_self h
theorem Ok.deck {p : Addr} {a b c : Int} {n : Nat} (h : Ok B Γ σ F H) (e : Γ[i]? = some (.own p (oL K) [.int a, .int b, .int c])) (hb : 0 ≤ b ∧ b < 2147483579) (hc : 0 ≤ c ∧ c ≤ n) : Ok B (Γ.set i (.own p oDk n)) σ F H := by
  obtain ⟨L, h⟩ := h
  obtain ⟨x, fp, e1, e2, u⟩ := h.sl.get e
  cases u with
  | own ho =>
    obtain ⟨f1, xs, f2, _, f4⟩ := ho
    have f5 := DqAll.ints_inv (ns := [a, b, c]) f4
    subst f5
    have g := h.sl.set (i := i) (SlOk.own (o := oDk) (p := p) (a := n) (fp := fp) (F := F) (H := H) ⟨f1, a, b, c, f2, hb.1, hb.2, hc⟩)
    rw [set_self e1, set_self e2] at g
    exact ⟨L, h.perm g h.nd fun _ z => z⟩
theorem s_deck {p : Addr} {a b c : Int} {n : Nat} (e : Γ[i]? = some (.own p (oL K) [.int a, .int b, .int c])) (hb : 0 ≤ b ∧ b < 2147483579) (hc : 0 ≤ c ∧ c ≤ n) (h : S B t (Γ.set i (.own p oDk n)) D) : S B t Γ D := fun σ F H I => h σ F H (I.deck e hb hc)
/-- a deck's state told larger -/
theorem Ok.more {p : Addr} {n m : Nat} (h : Ok B Γ σ F H) (e : Γ[i]? = some (.own p oDk n)) (hm : n ≤ m) : Ok B (Γ.set i (.own p oDk m)) σ F H := by
  obtain ⟨L, h⟩ := h
  obtain ⟨x, fp, e1, e2, u⟩ := h.sl.get e
  cases u with
  | own ho =>
    obtain ⟨f1, a, b, c, f2, f3, f4, f5, f6⟩ := ho
    have g := h.sl.set (i := i) (SlOk.own (o := oDk) (p := p) (a := m) (fp := fp) (F := F) (H := H) ⟨f1, a, b, c, f2, f3, f4, f5, by omega⟩)
    rw [set_self e1, set_self e2] at g
    exact ⟨L, h.perm g h.nd fun _ z => z⟩
theorem s_more {p : Addr} {n m : Nat} (e : Γ[i]? = some (.own p oDk n)) (hm : n ≤ m) (h : S B t (Γ.set i (.own p oDk m)) D) : S B t Γ D := fun σ F H I => h σ F H (I.more e hm)
/-- deck[0], deck[1], deck[2] -/
theorem dk_at {p : Addr} {n : Nat} (I : Ok B Γ σ F H) (e : Γ[i]? = some (.own p oDk n)) : σ[i]? = some (some (.ref p)) ∧ ∃ a b c : Int, H p = some (.lst [.int a, .int b, .int c]) ∧ 0 ≤ b ∧ b < 2147483579 ∧ 0 ≤ c ∧ c ≤ n := by
  obtain ⟨L, h⟩ := I
  obtain ⟨x, fp, e1, e2, u⟩ := h.sl.get e
  cases u with
  | own ho => exact ⟨e1, ho.2⟩
theorem e_dk0 {p : Addr} {n : Nat} (e : Γ[i]? = some (.own p oDk n)) (h : ∀ a, k Γ (Da K (.int a))) : E (tOp (rIxL K) (tVar i) (tC (.int 0))) Γ k := fun B σ F H I Q q => by
  obtain ⟨e1, a, b, c, h1, _⟩ := dk_at I e
  exact ⟨_, e1, p, _, 0, _, rfl, rfl, SqL.of h1, rfl, q _ _ _ F H (h a) (I.push (Dq.int a)) (Ex.refl F)⟩
theorem e_dk1 {p : Addr} {n : Nat} (e : Γ[i]? = some (.own p oDk n)) (h : ∀ b, 0 ≤ b → b < 2147483579 → k Γ (Da K (.int b))) : E (tOp (rIxL K) (tVar i) (tC (.int 1))) Γ k := fun B σ F H I Q q => by
  obtain ⟨e1, a, b, c, h1, h2, h3, _⟩ := dk_at I e
  exact ⟨_, e1, p, _, 1, _, rfl, rfl, SqL.of h1, rfl, q _ _ _ F H (h b h2 h3) (I.push (Dq.int b)) (Ex.refl F)⟩
theorem e_dk2 {p : Addr} {n : Nat} (e : Γ[i]? = some (.own p oDk n)) (h : ∀ c : Int, 0 ≤ c → c ≤ (n : Int) → k Γ (Da K (.int c))) : E (tOp (rIxL K) (tVar i) (tC (.int 2))) Γ k := fun B σ F H I Q q => by
  obtain ⟨e1, a, b, c, h1, _, _, h2, h3⟩ := dk_at I e
  exact ⟨_, e1, p, _, 2, _, rfl, rfl, SqL.of h1, rfl, q _ _ _ F H (h c h2 h3) (I.push (Dq.int c)) (Ex.refl F)⟩
/-- an own object written at p -/
theorem Ok.wr {p : Addr} {n m : Nat} {a b c : Int} (I : Ok B Γ σ F H) (e : Γ[i]? = some (.own p oDk n)) (hb : 0 ≤ b ∧ b < 2147483579) (hc : 0 ≤ c ∧ c ≤ m) : Ok B (Γ.set i (.own p oDk m)) σ F (upd H p (.lst [.int a, .int b, .int c])) := by
  obtain ⟨L, h⟩ := I
  obtain ⟨x, fp, e1, e2, u⟩ := h.sl.get e
  cases u with
  | own ho =>
    obtain ⟨f1, a', b', c', f2, f3⟩ := ho
    subst f1
    have pin : p ∈ L.flatten := mem_at e2 (List.mem_singleton.mpr rfl)
    have nF : ∀ q o, F q = some o → q ≠ p := fun q o z y => by rw [y, h.fz p pin] at z; cases z
    have g0 : SlsOk F (upd H p (.lst [.int a, .int b, .int c])) (σ.set i none) (Γ.set i .no) (L.set i []) := (h.sl.set (i := i) (.no (x := none))).frame (Ex.refl F) fun q z => upd_ne fun y => apart h.nd e2 (List.mem_singleton.mpr rfl) (y ▸ z)
    have g := g0.set (i := i) (SlOk.own (o := oDk) (p := p) (a := m) (fp := [p]) (F := F) ⟨rfl, a, b, c, upd_same, hb.1, hb.2, hc⟩)
    rw [List.set_set, List.set_set, List.set_set, set_self e1, set_self e2] at g
    refine ⟨L, g, h.nd, h.fz, fun q o z => by rw [upd_ne (nF q o z)]; exact h.ex q o z, h.bF, h.bG, fun q o z y => ?_, fun q o z => ?_, h.bO⟩
    · have ne : q ≠ p := fun w => by
        subst w
        rcases h.bO q pin with w | w
        · exact y w
        · rw [w] at z; cases z
      rw [upd_ne ne]; exact h.bK q o z y
    · by_cases w : q = p
      · subst w; exact ⟨_, upd_same⟩
      · rw [upd_ne w]; exact h.bD q o z
/-- deck[0] = e -/
theorem q_dk0 {p : Addr} {n : Nat} (h : E te Γ fun Γ1 s1 => ∃ x : Int, s1 = Da K (.int x) ∧ Γ1[i]? = some (.own p oDk n) ∧ S B u Γ1 D) : S B (tSeq (tAsg te (gSub (tVar i) (tC (.int 0)) rSetL)) u) Γ D := fun σ F H I D' hn hr hb hc =>
  h B σ F H I _ fun Γ1 s1 v F1 H1 ⟨x, e, e2, hs⟩ I1 e1 => by
    subst e
    obtain ⟨v', ev, hv⟩ := Ok.head I1
    cases ev
    cases hv
    have I2 := Ok.pop I1
    obtain ⟨g1, a, b, c, g2, g3, g4, g5, g6⟩ := dk_at I2 e2
    refine ⟨_, g1, p, _, 0, 0, rfl, rfl, g2, rfl, ?_⟩
    have I3 := I2.wr (m := n) (a := x) e2 ⟨g3, g4⟩ ⟨g5, g6⟩
    rw [set_self e2] at I3
    exact hs σ F1 _ I3 D' (fun a b c d p q r => hn a b c d p q (e1.trans r)) (fun a b c d f g p q r => hr a b c d f g p q (e1.trans r)) (fun a b c d p q r => hb a b c d p q (e1.trans r)) (fun a b c d p q r => hc a b c d p q (e1.trans r))
/-- deck[2] = e -/
theorem q_dk2 {p : Addr} {n m : Nat} (h : E te Γ fun Γ1 s1 => ∃ x : Int, s1 = Da K (.int x) ∧ Γ1[i]? = some (.own p oDk n) ∧ 0 ≤ x ∧ x ≤ m ∧ S B u (Γ1.set i (.own p oDk m)) D) : S B (tSeq (tAsg te (gSub (tVar i) (tC (.int 2)) rSetL)) u) Γ D := fun σ F H I D' hn hr hb hc =>
  h B σ F H I _ fun Γ1 s1 v F1 H1 ⟨x, e, e2, hx, hx2, hs⟩ I1 e1 => by
    subst e
    obtain ⟨v', ev, hv⟩ := Ok.head I1
    cases ev
    cases hv
    have I2 := Ok.pop I1
    obtain ⟨g1, a, b, c, g2, g3, g4, g5, g6⟩ := dk_at I2 e2
    refine ⟨_, g1, p, _, 2, 2, rfl, rfl, g2, rfl, ?_⟩
    have I3 := I2.wr (m := m) (a := a) (c := x) e2 ⟨g3, g4⟩ ⟨hx, hx2⟩
    exact hs σ F1 _ I3 D' (fun a b c d p q r => hn a b c d p q (e1.trans r)) (fun a b c d f g p q r => hr a b c d f g p q (e1.trans r)) (fun a b c d p q r => hb a b c d p q (e1.trans r)) (fun a b c d p q r => hc a b c d p q (e1.trans r))
/-! ### a def that draws -/
def dkMost : Nat := 1000000
/-- a deck, then data; c draws at most; what comes is one of R's -/
def DF (K : PySem.W.Frag) (c : Nat) (Pr : List PyData → Prop) (R : List PyData → PyData → Prop) : Sp := fun vs H Q X => ∃ (p : Addr) (ds : List PyData) (n : Nat) (F : Hp), n + c ≤ dkMost ∧ Pr ds ∧ Ok ⟨F, H, [p]⟩ (.own p oDk n :: ds.map (Da K)) (vs.map some) F H ∧
  ∀ d v F' H', R ds d → Ok ⟨F, H, [p]⟩ [Da K d, .own p oDk (n + c)] [some v, some (.ref p)] F' H' → Q v H'
theorem e_callD {c : Nat} {Pr : List PyData → Prop} {R : List PyData → PyData → Prop} {E' : XK} {ta : TA} {p : Addr} {n : Nat} (e : Γ[i]? = some (.own p oDk n)) (hn : n + c ≤ dkMost) (ha : AP ta Γ (ds.map (Da K))) (hp : Pr ds) (hk : ∀ d, R ds d → k (Γ.set i (.own p oDk (n + c))) (Da K d)) :
    E (tCall (DF K c Pr R) [] E' (tCons (tVar i) ta)) Γ k := fun B σ F H I Q q => by
  obtain ⟨x0, ex0, _⟩ := I.lift e
  refine ⟨.ref p, (dk_at I e).1, ?_⟩
  refine ha B σ F H I _ fun Γ1 ss vs F1 H1 ⟨a, b⟩ nl I1 e1 => ?_
  subst a b
  obtain ⟨h1, h2⟩ := Ok.all (by simpa using nl) I1
  show DF K c Pr R ((.ref p :: vs) ++ []) H1 Q E'
  rw [List.append_nil]
  obtain ⟨x, ex, I3⟩ := h2.lift e
  have ex' : x = some (.ref p) := by
    have := (dk_at h2 e).1
    rw [ex] at this; exact Option.some.inj this
  subst ex'
  have I4 : Ok B (Γ1.set i .no ++ [.own p oDk n]) (σ.set i none ++ [some (.ref p)]) F1 H1 := Ok.rot (Δ := [.own p oDk n]) (τ := [some (.ref p)]) I3 rfl
  obtain ⟨L, I5⟩ := I4
  have hlen : (σ.set i none).length = (Γ1.set i .no).length := by rw [List.length_set, List.length_set]; exact h2.lens
  obtain ⟨f₁, f₂, ef, g1, g2⟩ := split hlen I5.sl
  subst ef
  have ef2 : f₂ = [[p]] := by
    cases g2 with
    | cons a b =>
      cases b
      cases a with
      | own ho => rw [ho.1]
  subst ef2
  have sub : ∀ q ∈ ([[p]] : List (List Addr)).flatten, q ∈ (f₁ ++ [[p]]).flatten := fun q z => by rw [List.flatten_append]; exact List.mem_append_right _ z
  have nd := I5.nd
  rw [List.flatten_append, List.nodup_append] at nd
  have base : OkF ⟨F1, H1, [p]⟩ [.own p oDk n] [some (.ref p)] F1 H1 [[p]] := (OkF.base (B := B) (fps := [[p]]) ⟨g2, nd.2.1, fun q z => I5.fz q (sub q z), I5.ex, I5.bF, I5.bG, I5.bK, I5.bD, fun q z => I5.bO q (sub q z)⟩)
  have args : ∀ {xs : List PyData} {ws : List V}, DqAll K F1 ws xs → Ok ⟨F1, H1, [p]⟩ (xs.map (Da K) ++ [.own p oDk n]) (ws.map some ++ [some (.ref p)]) F1 H1 := by
    intro xs
    induction xs with
    | nil => intro ws h; cases h; exact ⟨_, base⟩
    | cons x xs ih =>
      intro ws h
      cases h with
      | cons a b => exact (ih b).push a
  refine ⟨p, ds, n, F1, hn, hp, Ok.rot (Δ := ds.map (Da K)) (τ := vs.map some) (args h1) (by simpa using nl.symm), fun d v F' H' hR I6 => ?_⟩
  obtain ⟨L6, I7⟩ := OkF.compose (Δ := Γ1.set i .no) (τ := σ.set i none) (fpd := f₁) (fps := [[p]]) I5 g1 I6
  have I8 : Ok B ([Da K d, .own p oDk (n + c)] ++ Γ1.set i .no) ([some v, some (.ref p)] ++ σ.set i none) F' H' := Ok.rot ⟨_, I7⟩ hlen
  obtain ⟨v', ev, hv⟩ := Ok.head (show Ok B (Da K d :: ([.own p oDk (n + c)] ++ Γ1.set i .no)) (some v :: ([some (.ref p)] ++ σ.set i none)) F' H' from I8)
  cases ev
  have I9 := Ok.store (i := i) (show Ok B (.own p oDk (n + c) :: Γ1.set i .no) (some (.ref p) :: σ.set i none) F' H' from Ok.pop I8)
  rw [List.set_set, List.set_set, set_self (dk_at h2 e).1] at I9
  have eF : Ex F1 F' := by
    obtain ⟨L, I'⟩ := I6
    exact I'.bF
  exact q _ _ v F' H' (hk d hR) (I9.push hv) (e1.trans eF)
/-! ### comprehensions with effects -/
theorem e_lcE {α : Type} {xs : List α} {en : α → PyData} {wi : TI} {g : TG} (hi : IP K wi Γ (xs.map en)) (Inv : Nat → List PyData → List Sl → Prop) (h0 : Inv 0 [] Γ)
    (hs : ∀ (i : Nat) (x : α) (acc : List PyData) (Γ1 : List Sl), xs[i]? = some x → acc.length ≤ i → Inv i acc Γ1 → NoOwn Γ1 vs ∧ ∃ Γi, GP K g (en x) vs (wipeL Γ1 vs) Γi ∧ T tt Γi fun Γ2 b =>
      (b = false → ∃ Γ3, wipeL Γ2 vs = wipeL Γ3 vs ∧ (∀ j ∈ vs, Γ3[j]? = Γ1[j]?) ∧ Γ3.length = Γ1.length ∧ Inv (i + 1) acc Γ3) ∧
      (b = true → E te Γ2 fun Γ2' s => ∃ y Γ3, s = Da K y ∧ wipeL Γ2' vs = wipeL Γ3 vs ∧ (∀ j ∈ vs, Γ3[j]? = Γ1[j]?) ∧ Γ3.length = Γ1.length ∧ Inv (i + 1) (acc ++ [y]) Γ3))
    (hd : ∀ acc Γ1, acc.length ≤ xs.length → Inv xs.length acc Γ1 → ∀ p, k Γ1 (.own p (oL K) acc)) : E (tLc wi g tt te vs) Γ k := fun B σ F H I Q q => by
  refine hi B σ F H I _ fun J F1 H1 I1 e1 tn hz D hD => ?_
  rw [List.length_map] at hz
  refine ⟨fun i m H' => m = xs.length - i ∧ i ≤ xs.length ∧ ∃ acc Γ1 F', acc.length ≤ i ∧ Inv i acc Γ1 ∧ Ok B (.own D (oL K) acc :: Γ1) (some (.ref D) :: σ) F' H' ∧ Ex F1 F', ⟨_, rfl, Nat.zero_le _, [], Γ, F1, Nat.zero_le _, h0, I1.pushL hD (Nat.zero_le _) .nil, Ex.refl _⟩, ?_⟩
  rintro i m H' ⟨rfl, hi', acc, Γ1, F', ha, hv, I', e'⟩
  by_cases hlt : i < xs.length
  · have hx : xs[i]? = some xs[i] := List.getElem?_eq_getElem hlt
    obtain ⟨go, yl⟩ := (tn i F' H' e' I'.ex).1 (en xs[i]) (by rw [List.getElem?_map, hx]; rfl)
    refine .inr ⟨go, fun H2 => ∃ acc Γ1 F', acc.length ≤ i + 1 ∧ Inv (i + 1) acc Γ1 ∧ Ok B (.own D (oL K) acc :: Γ1) (some (.ref D) :: σ) F' H2 ∧ Ex F1 F', fun H2 w => ⟨xs.length - (i + 1), by omega, rfl, hlt, w⟩, fun x H3 hy => ?_⟩
    obtain ⟨F3, carry, e3, dx⟩ := yl x H3 hy
    have I3 := carry _ _ _ I'
    obtain ⟨no, Γi, hg, hT⟩ := hs i xs[i] acc Γ1 hx ha hv
    obtain ⟨B', Iw, back⟩ := TL.under (τ := [some (.ref D)]) (Δ := [.own D (oL K) acc]) rfl I3
    have pl : ∀ {F' H' : Hp}, Ex F3 F' → ∀ j ∈ vs, ∀ s, Γ1[j]? = some s → ∃ x, σ[j]? = some x ∧ SlOk F' H' x s [] := fun e => Iw.plain no e
    refine hg B' _ F3 H3 x (Iw.wipe (vs := vs)) dx _ fun σ2 es I4 => ⟨es.trans wipe_wipe, ?_⟩
    have es' : L2.wipe σ2 vs = L2.wipe σ vs := es.trans wipe_wipe
    refine hT B' σ2 F3 H3 I4 _ fun Γ2 b F5 H5 ⟨hF, hT'⟩ I5 e5 => ?_
    cases b with
    | false =>
      show ∃ acc Γ1 F', _
      obtain ⟨Γ3, w1, w2, w3, w4⟩ := hF rfl
      exact ⟨acc, Γ3, F5, by omega, w4, back _ _ _ _ (I5.back es' w1 (by rw [w3]; exact Iw.lens) fun j hj s z => pl e5 j hj s (by rw [← w2 j hj]; exact z)), (e'.trans e3).trans e5⟩
    | true =>
      show te σ2 H5 _
      refine hT' rfl B' σ2 F5 H5 I5 _ fun Γ6 s6 y F6 H6 ⟨d, Γ3, w0, w1, w2, w3, w4⟩ I6 e6 => ?_
      subst w0
      obtain ⟨y', ey, dy⟩ := Ok.head I6
      cases ey
      have I7 := back _ _ _ _ ((Ok.pop I6).back es' w1 (by rw [w3]; exact Iw.lens) fun j hj s z => pl (e5.trans e6) j hj s (by rw [← w2 j hj]; exact z))
      obtain ⟨ac, _, hA, hl, I8⟩ := Ok.appL I7 dy (by omega)
      exact ⟨ac, hA, by rw [hl]; exact Nat.lt_of_le_of_lt (Nat.le_trans ha (Nat.le_trans hi' hz)) (by decide), acc ++ [d], Γ3, F6, by rw [List.length_append]; simp; omega, w4, I8, ((e'.trans e3).trans e5).trans e6⟩
  · have ei : i = xs.length := by omega
    subst ei
    exact .inl ⟨(tn _ F' H' e' I'.ex).2 (by simp), q _ _ _ F' H' (hd acc Γ1 ha hv D) I' (e1.trans e')⟩
end
section
variable {P : Program} {w : World} {K : PySem.W.Frag} {mg : Str → Option Value} {base : Heap}
/-- THE RULE for a def that draws -/
theorem fn_df {x qual : Str} {params : Arguments} {body : List Stmt} {scope : Scope} {f : Addr} {fd : FuncData} {N ps : List Str} {k c : Nat} {Pr : List PyData → Prop} {R : List PyData → PyData → Prop} (Fd : FunD K x qual params body scope [] [] f fd) (sc : FnScope N ps scope) (hl : ∀ ds, Pr ds → ds.length + 1 = ps.length) (hN : ps.length ≤ N.length)
    (hbody : ∀ (cdv : Value) (A : Around) (outer : List Env) (s : Shared) (H : Hp) (E : XK) (ds : List PyData) (p : Addr) (n : Nat) (B : Bs), Room k (A.deeper (PyProof.Rows.envOfC qual scope s.heap.objs.size f cdv)) → Pr ds → n + c ≤ dkMost →
      ∃ t, PSs (cxOf (L2.CX P w) P w K mg base N qual scope f cdv A outer s H E) body t ∧ S B t (.own p oDk n :: Γ0 K ds (N.length - 1)) ⟨fun _ => False, fun Γ' s => ∃ d m, Γ'[0]? = some (.own p oDk m) ∧ m ≤ n + c ∧ s = Da K d ∧ R ds d, fun _ => False, fun _ => False⟩) :
    FnOk P w K mg base (L2.CX P w) (k + 1) f fd ps (DF K c Pr R) := by
  refine FunD.ok Fd sc (fun vs H Q E h => ?_) fun cdv A outer s H vs Q E hr h => ?_
  · obtain ⟨p, ds, n, F, _, h1, h2, _⟩ := h
    have e := h2.lens
    rw [← hl ds h1]
    simpa using e
  · obtain ⟨p, ds, n, F, hn, h1, h2, h3⟩ := h
    obtain ⟨t, ht, hs⟩ := hbody cdv A outer s H E ds p n ⟨F, H, [p]⟩ hr h1 hn
    refine ⟨t, ht, ?_⟩
    have e := h2.lens
    have el : vs.length = ds.length + 1 := by simpa using e
    have I0 : Ok ⟨F, H, [p]⟩ (.own p oDk n :: Γ0 K ds (N.length - 1)) (L2.start N vs) F H := by
      have z := nos_ok h2 (N.length - vs.length)
      unfold Γ0 L2.start
      rw [show N.length - 1 - ds.length = N.length - vs.length by omega]
      exact z
    refine hs _ F H I0 _ (fun _ _ _ _ z => z.elim) (fun Γ' s v σ' F' H' ⟨d, m, e1, hm, e2, hR⟩ I' _ => ?_) (fun _ _ _ _ z => z.elim) (fun _ _ _ _ z => z.elim)
    subst e2
    obtain ⟨v', ev, hv⟩ := Ok.head I'
    cases ev
    have I2 := (Ok.pop I').more e1 hm
    obtain ⟨x, ex, I3⟩ := I2.lift (i := 0) (s := .own p oDk (n + c)) (by
      obtain ⟨h0, e0⟩ := List.getElem?_eq_some_iff.mp e1
      rw [List.getElem?_set_self h0])
    have ex2 := (dk_at (Ok.pop I') e1).1
    rw [ex] at ex2
    cases ex2
    exact h3 d v F' H' hR ((Ok.take1 I3).push hv)
end
end TL
/-! Mirror1: what the defs of pieces, places, sizes come to, in plain Lean; what each promises. -/
namespace Q
open PySem TL

def okI (lo hi i : Int) : Bool := decide (lo ≤ i) && decide (i ≤ hi)
def isFrom (v : PyData) (lo hi : Int) : Bool :=
  match v with
  | .int i => okI lo hi i
  | _ => false
def ltD : PyData → Bool
  | .tuple [.int a, .int b] => decide (a < b)
  | _ => false
def ascD (ds : List PyData) : Bool := (zipP ds (ds.drop 1)).all ltD
def goodBeats (c : Int) (v : PyData) : Bool :=
  match v with
  | .tuple ds => ds.all (fun d => isFrom d 0 (c - 1)) && ascD ds
  | _ => false
def isPiece : PyData → Bool
  | .tuple [.int c, b] => okI 1 60 c && goodBeats c b
  | _ => false
def isChoir : PyData → Bool
  | .tuple [.int s, .int b, .int h] => okI 1 30 s && (okI 1 60 b && okI 0 s h)
  | _ => false
def tI (l : List Int) : PyData := .tuple (l.map .int)
def lI (l : List Int) : PyData := .list (l.map .int)
def pcD (c : Int) (al : List Int) : PyData := .tuple [.int c, tI al]
def chD (s b h : Int) : PyData := .tuple [.int s, .int b, .int h]
structure ValidP (c : Int) (al : List Int) : Prop where
  c1 : 1 ≤ c
  c2 : c ≤ 60
  asc : al.Pairwise (· < ·)
  lo : ∀ x ∈ al, 0 ≤ x
  hi : ∀ x ∈ al, x < c
structure ValidC (s b h : Int) : Prop where
  s1 : 1 ≤ s
  s2 : s ≤ 30
  b1 : 1 ≤ b
  b2 : b ≤ 60
  h1 : 0 ≤ h
  h2 : h ≤ s
/-- places in a stretch -/
def inW (st b x : Int) : Bool := decide (st ≤ x) && decide (x ≤ st + b)
def cnt (al : List Int) (st b : Int) : Int := ((al.filter (inW st b)).length : Nat)
def wc (c b : Int) (al : List Int) : List Int := (rng 0 (c - b)).map fun st => cnt al st b
def en (c : Int) (al : List Int) (s b h : Int) : Bool := (wc c b al).all fun m => decide (s ≤ (s - h) * m)

/-! ### the checks of data and the plain ones -/
def ascI (ns : List Int) : Bool := (ns.zip (ns.drop 1)).all fun z => decide (z.1 < z.2)
theorem ascD_ints (ns : List Int) : ascD (ns.map .int) = ascI ns := by
  unfold ascD ascI
  rw [← List.map_drop, zipP_map, List.all_map]
  rfl
theorem all_ints {lo hi : Int} : ∀ {ds : List PyData}, ds.all (fun d => isFrom d lo hi) = true → ∃ ns : List Int, ds = ns.map .int ∧ ∀ n ∈ ns, lo ≤ n ∧ n ≤ hi
  | [], _ => ⟨[], rfl, fun _ h => nomatch h⟩
  | d :: ds, h => by
    rw [List.all_cons, Bool.and_eq_true] at h
    obtain ⟨ns, e, hn⟩ := all_ints h.2
    cases d with
    | int i =>
      have h1 : (decide (lo ≤ i) && decide (i ≤ hi)) = true := h.1
      rw [Bool.and_eq_true, decide_eq_true_eq, decide_eq_true_eq] at h1
      exact ⟨i :: ns, by rw [e]; rfl, fun n hm => (List.mem_cons.mp hm).elim (fun z => z ▸ h1) (hn n)⟩
    | _ => exact absurd h.1 Bool.false_ne_true
theorem ints_all {lo hi : Int} {ns : List Int} (h : ∀ n ∈ ns, lo ≤ n ∧ n ≤ hi) : (ns.map PyData.int).all (fun d => isFrom d lo hi) = true := by
  rw [List.all_map, List.all_eq_true]
  intro n hn
  show (decide (lo ≤ n) && decide (n ≤ hi)) = true
  rw [Bool.and_eq_true, decide_eq_true_eq, decide_eq_true_eq]
  exact h n hn
theorem ascI_iff : ∀ {ns : List Int}, ascI ns = true ↔ ns.Pairwise (· < ·)
  | [] => by simp [ascI]
  | [a] => by simp [ascI]
  | a :: b :: r => by
    have ih := ascI_iff (ns := b :: r)
    have e : ascI (a :: b :: r) = (decide (a < b) && ascI (b :: r)) := rfl
    rw [e, Bool.and_eq_true, ih, decide_eq_true_eq]
    constructor
    · rintro ⟨h1, h2⟩
      refine List.pairwise_cons.mpr ⟨fun x hx => ?_, h2⟩
      rcases List.mem_cons.mp hx with e | hx
      · rw [e]; exact h1
      · exact Int.lt_trans h1 ((List.pairwise_cons.mp h2).1 x hx)
    · intro h
      obtain ⟨h1, h2⟩ := List.pairwise_cons.mp h
      exact ⟨h1 b List.mem_cons_self, h2⟩
theorem goodBeats_tI {c : Int} {al : List Int} (h : al.Pairwise (· < ·)) (h0 : ∀ x ∈ al, 0 ≤ x) (h1 : ∀ x ∈ al, x < c) : goodBeats c (tI al) = true := by
  show ((al.map PyData.int).all (fun d => isFrom d 0 (c - 1)) && ascD (al.map .int)) = true
  rw [ints_all fun n hn => ⟨h0 n hn, by have := h1 n hn; omega⟩, ascD_ints, ascI_iff.mpr h]
  rfl
theorem goodBeats_inv {c : Int} {v : PyData} (h : goodBeats c v = true) : ∃ al : List Int, v = tI al ∧ al.Pairwise (· < ·) ∧ (∀ x ∈ al, 0 ≤ x) ∧ ∀ x ∈ al, x < c := by
  cases v with
  | tuple ds =>
    have h' : (ds.all (fun d => isFrom d 0 (c - 1)) && ascD ds) = true := h
    rw [Bool.and_eq_true] at h'
    obtain ⟨ns, e, hn⟩ := all_ints h'.1
    subst e
    rw [ascD_ints] at h'
    exact ⟨ns, rfl, ascI_iff.mp h'.2, fun x hx => (hn x hx).1, fun x hx => by have := (hn x hx).2; omega⟩
  | _ => exact absurd h Bool.false_ne_true
theorem isFrom_int {lo hi i : Int} : isFrom (.int i) lo hi = true ↔ lo ≤ i ∧ i ≤ hi := by
  show (decide (lo ≤ i) && decide (i ≤ hi)) = true ↔ _
  rw [Bool.and_eq_true, decide_eq_true_eq, decide_eq_true_eq]
theorem isFrom_inv {v : PyData} {lo hi : Int} (h : isFrom v lo hi = true) : ∃ i, v = .int i ∧ lo ≤ i ∧ i ≤ hi := by
  cases v with
  | int i => exact ⟨i, rfl, isFrom_int.mp h⟩
  | _ => exact absurd h Bool.false_ne_true
theorem okI_iff {lo hi i : Int} : okI lo hi i = true ↔ lo ≤ i ∧ i ≤ hi := isFrom_int
theorem isPiece_pc {c : Int} {al : List Int} (h : ValidP c al) : isPiece (pcD c al) = true := by
  show (okI 1 60 c && goodBeats c (tI al)) = true
  rw [okI_iff.mpr ⟨h.c1, h.c2⟩, goodBeats_tI h.asc h.lo h.hi]
  rfl
theorem isPiece_inv {v : PyData} (h : isPiece v = true) : ∃ c al, v = pcD c al ∧ ValidP c al := by
  unfold isPiece at h
  split at h
  · rename_i c b
    rw [Bool.and_eq_true] at h
    obtain ⟨h1, h2⟩ := okI_iff.mp h.1
    obtain ⟨al, e, a1, a2, a3⟩ := goodBeats_inv h.2
    subst e
    exact ⟨c, al, rfl, h1, h2, a1, a2, a3⟩
  · cases h
theorem isChoir_ch {s b h : Int} (v : ValidC s b h) : isChoir (chD s b h) = true := by
  show (okI 1 30 s && (okI 1 60 b && okI 0 s h)) = true
  rw [okI_iff.mpr ⟨v.s1, v.s2⟩, okI_iff.mpr ⟨v.b1, v.b2⟩, okI_iff.mpr ⟨v.h1, v.h2⟩]
  rfl
theorem isChoir_inv {v : PyData} (h : isChoir v = true) : ∃ s b h, v = chD s b h ∧ ValidC s b h := by
  unfold isChoir at h
  split at h
  · rename_i s b u
    rw [Bool.and_eq_true, Bool.and_eq_true, okI_iff, okI_iff, okI_iff] at h
    obtain ⟨⟨h1, h2⟩, ⟨h3, h4⟩, h5, h6⟩ := h
    exact ⟨s, b, u, rfl, h1, h2, h3, h4, h5, h6⟩
  · cases h

/-! ### promises -/
def is_from : Rl := fun ds r => ∃ v lo hi, ds = [v, .int lo, .int hi] ∧ r = .ok (.bool (isFrom v lo hi))
def good_beats : Rl := fun ds r => ∃ c v, ds = [.int c, v] ∧ r = .ok (.bool (goodBeats c v))
def is_piece : Rl := fun ds r => ∃ v, ds = [v] ∧ r = .ok (.bool (isPiece v))
def is_choir : Rl := fun ds r => ∃ v, ds = [v] ∧ r = .ok (.bool (isChoir v))
def need_piece : Rl := fun ds r => ∃ v, ds = [v] ∧ r = if isPiece v = true then .ok .none else .error "InvalidPiece"
def need_choir : Rl := fun ds r => ∃ v u, ds = [v, u] ∧ r = if isPiece v = true then (if isChoir u = true then .ok .none else .error "InvalidChoir") else .error "InvalidPiece"
def window_counts : Rl := fun ds r => ∃ c al b, ValidP c al ∧ 0 ≤ b ∧ b ≤ 60 ∧ ds = [pcD c al, .int b] ∧ r = .ok (lI (wc c b al))
def enough : Rl := fun ds r => ∃ c al s b h, ValidP c al ∧ ValidC s b h ∧ ds = [pcD c al, chD s b h] ∧ r = .ok (.bool (en c al s b h))
/-- errors of a piece and a choir, then what is promised of valid ones -/
def PCerr (ds : List PyData) (r : Except Str PyData) (n : Nat) : Prop := ∃ v u l, ds = v :: u :: l ∧ l.length = n ∧ (isPiece v && isChoir u) = false ∧ r = if isPiece v = true then .error "InvalidChoir" else .error "InvalidPiece"
def can_sing : Rl := fun ds r => (∃ c al s b h, ValidP c al ∧ ValidC s b h ∧ ds = [pcD c al, chD s b h] ∧ r = .ok (.bool (en c al s b h))) ∨ PCerr ds r 0

theorem is_from_len : ∀ ds r, is_from ds r → ds.length = ["value", "low", "high"].length := by rintro ds r ⟨v, lo, hi, rfl, _⟩; rfl
theorem good_beats_len : ∀ ds r, good_beats ds r → ds.length = ["count", "value"].length := by rintro ds r ⟨c, v, rfl, _⟩; rfl
theorem is_piece_len : ∀ ds r, is_piece ds r → ds.length = ["value"].length := by rintro ds r ⟨v, rfl, _⟩; rfl
theorem is_choir_len : ∀ ds r, is_choir ds r → ds.length = ["value"].length := by rintro ds r ⟨v, rfl, _⟩; rfl
theorem need_piece_len : ∀ ds r, need_piece ds r → ds.length = ["piece"].length := by rintro ds r ⟨v, rfl, _⟩; rfl
theorem need_choir_len : ∀ ds r, need_choir ds r → ds.length = ["piece", "choir"].length := by rintro ds r ⟨v, u, rfl, _⟩; rfl
theorem window_counts_len : ∀ ds r, window_counts ds r → ds.length = ["piece", "breath"].length := by rintro ds r ⟨c, al, b, _, _, _, rfl, _⟩; rfl
theorem enough_len : ∀ ds r, enough ds r → ds.length = ["piece", "choir"].length := by rintro ds r ⟨c, al, s, b, h, _, _, rfl, _⟩; rfl
theorem can_sing_len : ∀ ds r, can_sing ds r → ds.length = ["piece", "choir"].length := by
  rintro ds r (⟨c, al, s, b, h, _, _, rfl, _⟩ | ⟨v, u, l, rfl, hl, _⟩)
  · rfl
  · simp [hl]
theorem isTup_no {v : PyData} (h : ¬ ∃ ds, v = .tuple ds) : isTup v = false := by
  cases v with
  | tuple ds => exact absurd ⟨ds, rfl⟩ h
  | _ => rfl
theorem isPiece_no {a b : PyData} (h : isFrom a 1 60 = false) : isPiece (.tuple [a, b]) = false := by
  cases a with
  | int c => show (okI 1 60 c && _) = false; rw [show okI 1 60 c = false from h]; rfl
  | _ => rfl
theorem isPiece_tup {v : PyData} (h : ¬ ∃ ds, v = .tuple ds) : isPiece v = false := by
  unfold isPiece
  split
  · exact absurd ⟨_, rfl⟩ h
  · rfl
theorem isPiece_len2 {ds : List PyData} (h : ¬ ∃ a b, ds = [a, b]) : isPiece (.tuple ds) = false := by
  unfold isPiece
  split
  · rename_i c b e
    cases e
    exact absurd ⟨_, _, rfl⟩ h
  · rfl
theorem two {α : Type} {ds : List α} (h : ds.length = 2) : ∃ a b, ds = [a, b] := match ds, h with
  | [a, b], _ => ⟨a, b, rfl⟩
theorem three {α : Type} {ds : List α} (h : ds.length = 3) : ∃ a b c, ds = [a, b, c] := match ds, h with
  | [a, b, c], _ => ⟨a, b, c, rfl⟩
theorem isChoir_tup {v : PyData} (h : ¬ ∃ ds, v = .tuple ds) : isChoir v = false := by
  unfold isChoir
  split
  · exact absurd ⟨_, rfl⟩ h
  · rfl
theorem isChoir_len3 {ds : List PyData} (h : ¬ ∃ a b c, ds = [a, b, c]) : isChoir (.tuple ds) = false := by
  unfold isChoir
  split
  · rename_i e
    cases e
    exact absurd ⟨_, _, _, rfl⟩ h
  · rfl
theorem isChoir_no {a b c : PyData} (h : isFrom a 1 30 = false ∨ isFrom b 1 60 = false) : isChoir (.tuple [a, b, c]) = false := by
  unfold isChoir
  split
  · rename_i s b u e
    cases e
    rcases h with h | h
    · rw [show okI 1 30 s = false from h]; rfl
    · rw [show okI 1 60 b = false from h]; simp
  · rfl
theorem isChoir_of {s b : Int} {c : PyData} (h1 : 1 ≤ s) (h2 : s ≤ 30) (h3 : 1 ≤ b) (h4 : b ≤ 60) : isChoir (.tuple [.int s, .int b, c]) = isFrom c 0 s := by
  cases c with
  | int u => show (okI 1 30 s && (okI 1 60 b && _)) = _; rw [okI_iff.mpr ⟨h1, h2⟩, okI_iff.mpr ⟨h3, h4⟩]; rfl
  | _ => rfl
theorem need_choir_ok {c : Int} {al : List Int} {s b h : Int} (hp : ValidP c al) (hc : ValidC s b h) : need_choir [pcD c al, chD s b h] (.ok .none) :=
  ⟨_, _, rfl, by rw [isPiece_pc hp, isChoir_ch hc]; rfl⟩
theorem need_choir_no {v u : PyData} (h : (isPiece v && isChoir u) = false) : need_choir [v, u] (if isPiece v = true then .error "InvalidChoir" else .error "InvalidPiece") := ⟨_, _, rfl, by
  cases hv : isPiece v with
  | true => rw [hv] at h; rw [show isChoir u = false from h]; rfl
  | false => rfl⟩
theorem pcerr_ne (v d : PyData) : (if isPiece v = true then (.error "InvalidChoir" : Except Str PyData) else .error "InvalidPiece") ≠ .ok d := by
  cases isPiece v <;> intro h <;> cases h
end Q
/-! Mirror2: what the laws' own helpers come to: the drawn numbers, pieces, choirs. -/
namespace Q
open PySem TL
def law_deck : Rl := fun ds r => ∃ c t : Int, ds = [.int c, .int t] ∧ r = .ok (.list [.int (if 10 ^ 18 ≤ c then c - 10 ^ 18 else 0), .int (c % 2147483579), .int t])
theorem law_deck_len : ∀ ds r, law_deck ds r → ds.length = ["cell", "turn"].length := by rintro ds r ⟨c, t, rfl, _⟩; rfl
def law_pick_pre (ds : List PyData) : Prop := ∃ m : Int, ds = [.int m] ∧ 1 ≤ m ∧ m ≤ 1000000
def law_pick_res (ds : List PyData) (d : PyData) : Prop := ∃ m r : Int, ds = [.int m] ∧ d = .int r ∧ 0 ≤ r ∧ r < m
theorem law_pick_len : ∀ ds, law_pick_pre ds → ds.length + 1 = ["deck", "limit"].length := by rintro ds ⟨m, rfl, _⟩; rfl
def law_one_pre (ds : List PyData) : Prop := ∃ l : List PyData, ds = [.list l] ∧ 1 ≤ l.length ∧ l.length ≤ 1000
def law_one_res (ds : List PyData) (d : PyData) : Prop := ∃ l : List PyData, ds = [.list l] ∧ d ∈ l
theorem law_one_len : ∀ ds, law_one_pre ds → ds.length + 1 = ["deck", "some"].length := by rintro ds ⟨m, rfl, _⟩; rfl
def law_song_pre (ds : List PyData) : Prop := ∃ a b : Int, ds = [.int a, .int b] ∧ 1 ≤ a ∧ a ≤ b ∧ b ≤ 60
def law_song_res (ds : List PyData) (d : PyData) : Prop := ∃ (a b c : Int) (al : List Int), ds = [.int a, .int b] ∧ d = pcD c al ∧ ValidP c al ∧ a ≤ c ∧ c ≤ b
theorem law_song_len : ∀ ds, law_song_pre ds → ds.length + 1 = ["deck", "few", "many"].length := by rintro ds ⟨a, b, rfl, _⟩; rfl
def law_group_pre (ds : List PyData) : Prop := ∃ a b : Int, ds = [.int a, .int b] ∧ 1 ≤ a ∧ a ≤ 30 ∧ 1 ≤ b ∧ b ≤ 60
def law_group_res (ds : List PyData) (d : PyData) : Prop := ∃ a b s r h : Int, ds = [.int a, .int b] ∧ d = chD s r h ∧ ValidC s r h ∧ s ≤ a ∧ r ≤ b
theorem law_group_len : ∀ ds, law_group_pre ds → ds.length + 1 = ["deck", "singers", "breath"].length := by rintro ds ⟨a, b, rfl, _⟩; rfl
end Q
/-! TL8: equality of data; lists that grow; loops that forget; draws among the arguments. -/
namespace TL
open PySem L2
open Evl (Ex ex_l ex_t)
/-! ### equality -/
def sh (n : Nat) (d : PyData) : Prop := d.canLay0 = true ∧ d.depth ≤ n
theorem sh.shaped {n : Nat} {d : PyData} (h : sh n d) (hn : n ≤ 64 := by decide) : SeqAt.shaped d = true := by
  unfold SeqAt.shaped
  rw [h.1, Bool.true_and]
  exact decide_eq_true (Nat.le_trans h.2 hn)
theorem sh_int {n : Nat} {i : Int} : sh n (.int i) := ⟨by simp only [PyData.canLay0], by simp only [PyData.depth]; exact Nat.zero_le _⟩
theorem sh_bool {n : Nat} {i : Bool} : sh n (.bool i) := ⟨by simp only [PyData.canLay0], by simp only [PyData.depth]; exact Nat.zero_le _⟩
theorem sh_none {n : Nat} : sh n .none := ⟨by simp only [PyData.canLay0], by simp only [PyData.depth]; exact Nat.zero_le _⟩
theorem sh_all {n : Nat} : ∀ {ds : List PyData}, (∀ d ∈ ds, sh n d) → PyData.canLayAll0 ds = true ∧ PyData.depthAll ds ≤ n
  | [], _ => ⟨by simp only [PyData.canLayAll0], by simp only [PyData.depthAll]; exact Nat.zero_le _⟩
  | d :: ds, h => by
    obtain ⟨a, b⟩ := sh_all fun x hx => h x (List.mem_cons_of_mem _ hx)
    obtain ⟨c, e⟩ := h d List.mem_cons_self
    refine ⟨by simp only [PyData.canLayAll0]; rw [a, c]; rfl, ?_⟩
    simp only [PyData.depthAll]
    omega
theorem sh_tup {n : Nat} {ds : List PyData} (h : ∀ d ∈ ds, sh n d) : sh (n + 1) (.tuple ds) := by
  obtain ⟨a, b⟩ := sh_all h
  exact ⟨by simp only [PyData.canLay0]; exact a, by simp only [PyData.depth]; omega⟩
theorem sh_lst {n : Nat} {ds : List PyData} (h : ∀ d ∈ ds, sh n d) : sh (n + 1) (.list ds) := by
  obtain ⟨a, b⟩ := sh_all h
  exact ⟨by simp only [PyData.canLay0]; exact a, by simp only [PyData.depth]; omega⟩
theorem sh_map {α : Type} {n : Nat} {l : List α} {e : α → PyData} (h : ∀ a, sh n (e a)) : ∀ d ∈ l.map e, sh n d := fun d hd => by
  obtain ⟨a, _, rfl⟩ := List.mem_map.mp hd
  exact h a
theorem sh.mono {n m : Nat} {d : PyData} (h : sh n d) (hm : n ≤ m) : sh m d := ⟨h.1, Nat.le_trans h.2 hm⟩
theorem sh_tI {l : List Int} : sh 1 (.tuple (l.map .int)) := sh_tup (sh_map fun _ => sh_int)
theorem sh_lI {l : List Int} : sh 1 (.list (l.map .int)) := sh_lst (sh_map fun _ => sh_int)
/-- data of one kind: equal if the things are -/
def EqvOk {α : Type} [DecidableEq α] (e : α → PyData) : Prop := ∀ a b, PyData.eqv (e a) (e b) = decide (a = b)
theorem eqv_int : EqvOk PyData.int := fun a b => by simp only [PyData.eqv]; rw [Bool.beq_eq_decide_eq]
theorem eqvAll_map {α : Type} [DecidableEq α] {e : α → PyData} (h : EqvOk e) : ∀ l m : List α, PyData.eqvAll (l.map e) (m.map e) = decide (l = m)
  | [], [] => by simp [PyData.eqvAll]
  | [], b :: m => by simp [PyData.eqvAll]
  | a :: l, [] => by simp [PyData.eqvAll]
  | a :: l, b :: m => by
    simp only [List.map_cons, PyData.eqvAll]
    rw [h a b, eqvAll_map h l m, ← Bool.decide_and]
    simp
theorem eqv_tup {α : Type} [DecidableEq α] {e : α → PyData} (h : EqvOk e) : EqvOk fun l : List α => PyData.tuple (l.map e) := fun l m => by
  simp only [PyData.eqv]; exact eqvAll_map h l m
theorem eqv_lst {α : Type} [DecidableEq α] {e : α → PyData} (h : EqvOk e) : EqvOk fun l : List α => PyData.list (l.map e) := fun l m => by
  simp only [PyData.eqv]; exact eqvAll_map h l m
theorem eqv_nil (ds : List PyData) : PyData.eqv (.list ds) (.list []) = decide (ds = []) := by
  cases ds <;> simp [PyData.eqv, PyData.eqvAll]
theorem eqv_nilT (ds : List PyData) : PyData.eqv (.tuple ds) (.tuple []) = decide (ds = []) := by
  cases ds <;> simp [PyData.eqv, PyData.eqvAll]
mutual
theorem eqv_self : ∀ {d : PyData}, d.canLay0 = true → PyData.eqv d d = true
  | .none, _ => by simp only [PyData.eqv]
  | .bool b, _ => by simp [PyData.eqv]
  | .int i, _ => by simp [PyData.eqv]
  | .str x, _ => by simp [PyData.eqv]
  | .list ds, h => by
    simp only [PyData.canLay0] at h
    simp only [PyData.eqv]; exact eqvAll_self h
  | .tuple ds, h => by
    simp only [PyData.canLay0] at h
    simp only [PyData.eqv]; exact eqvAll_self h
  | .dict _, h => by simp only [PyData.canLay0] at h; cases h
theorem eqvAll_self : ∀ {ds : List PyData}, PyData.canLayAll0 ds = true → PyData.eqvAll ds ds = true
  | [], _ => by simp only [PyData.eqvAll]
  | d :: ds, h => by
    simp only [PyData.canLayAll0, Bool.and_eq_true] at h
    simp only [PyData.eqvAll]
    rw [eqv_self h.1, eqvAll_self h.2]; rfl
end
section
variable {K : PySem.W.Frag} {B : Bs} {Γ Δ Γ' : List Sl} {σ τ : St} {F F' H H' : Hp} {s : Sl} {v : V} {te ta tb tc tl : TE} {tt tu : TT} {t u : TS} {D : AD} {d e x y z : PyData} {i j : Nat} {vs : List Nat} {ds es : List PyData} {k : List Sl → Sl → Prop} {g : TG} {wi : TI}
theorem rd_eqE {b : Bool} {n m : Nat} (hx : sh n x) (hy : sh m y) (hb : PyData.eqv x y = b) (h1 : n ≤ 64 := by decide) (h2 : m ≤ 64 := by decide) : RD K (rEqD K) x y (.bool b) := by subst hb; exact rd_eqD (hx.shaped h1) (hy.shaped h2)
theorem rd_neE {b : Bool} {n m : Nat} (hx : sh n x) (hy : sh m y) (hb : PyData.eqv x y = b) (h1 : n ≤ 64 := by decide) (h2 : m ≤ 64 := by decide) : RD K (rNeD K) x y (.bool (!b)) := by subst hb; exact rd_neD (hx.shaped h1) (hy.shaped h2)
theorem sh_nilL : sh 1 (.list []) := sh_lst fun _ h => nomatch h
theorem sh_nilT : sh 1 (.tuple []) := sh_tup fun _ h => nomatch h
theorem rd_eqL0 {ns : List Int} : RD K (rEqD K) (.list (ns.map .int)) (.list []) (.bool (decide (ns = []))) := rd_eqE sh_lI sh_nilL (by rw [eqv_nil]; simp)
theorem rd_neL0 {ns : List Int} : RD K (rNeD K) (.list (ns.map .int)) (.list []) (.bool (!decide (ns = []))) := rd_neE sh_lI sh_nilL (by rw [eqv_nil]; simp)
theorem ep_nil0 : EP (tLst tNil) Γ (Da K (.list [])) := EO.frz (eo_lst (xs := []) ap_nil (Nat.zero_le _))
/-- is None, is True -/
def isNoneD : PyData → Bool
  | .none => true
  | _ => false
theorem rd_isN {r : R2} (hr : r = fun x y H Q => y = .non ∧ Q (.bl (decide (x = .non))) H := by rfl) : RD K r x .none (.bool (isNoneD x)) := rd_v fun F H v w _ hv hw => by
  subst hr
  cases hw
  refine ⟨.bl (isNoneD x), Dq.bl _, fun Q q => ⟨rfl, ?_⟩⟩
  cases hv <;> exact q
theorem rd_notN {r : R2} (hr : r = fun x y H Q => y = .non ∧ Q (.bl (!decide (x = .non))) H := by rfl) : RD K r x .none (.bool (!isNoneD x)) := rd_v fun F H v w _ hv hw => by
  subst hr
  cases hw
  refine ⟨.bl (!isNoneD x), Dq.bl _, fun Q q => ⟨rfl, ?_⟩⟩
  cases hv <;> exact q
/-! ### slots -/
/-- a list of one's own stands still from now on -/
theorem s_frz {p : Addr} (e : Γ[i]? = some (.own p (oL K) ds)) (h : S B t (Γ.set i (Da K (.list ds))) D) : S B t Γ D := fun σ F H I D' hn hr hb hc => by
  obtain ⟨x, ex, I2⟩ := I.lift e
  obtain ⟨F', e1, e2, I3⟩ := I2.freeze
  have I4 := Ok.store (i := i) I3
  rw [List.set_set, List.set_set, set_self ex] at I4
  exact h σ F' H I4 D' (fun a b c d p q r => hn a b c d p q (e2.trans r)) (fun a b c d f g p q r => hr a b c d f g p q (e2.trans r)) (fun a b c d p q r => hb a b c d p q (e2.trans r)) (fun a b c d p q r => hc a b c d p q (e2.trans r))
theorem Ok.forgetG (h : Ok B Γ σ F H) : Ok B (Γ.set i .no) σ F H := by
  cases e : σ[i]? with
  | none =>
    have : Γ[i]? = none := by
      rw [List.getElem?_eq_none_iff] at e ⊢
      rw [← h.lens]; exact e
    rw [set_out this]; exact h
  | some x =>
    have h2 := h.forget (i := i) (x := x)
    rwa [set_self e] at h2
theorem s_forget (i : Nat) (h : S B t (Γ.set i .no) D) : S B t Γ D := fun σ F H I => h σ F H I.forgetG
theorem Ok.wipeG : ∀ {ms : List Nat}, Ok B Γ σ F H → Ok B (wipeL Γ ms) σ F H
  | [], h => h
  | m :: ms, h => (Ok.wipeG (ms := ms) h).forgetG
theorem s_wipe (ms : List Nat) (h : S B t (wipeL Γ ms) D) : S B t Γ D := fun σ F H I => h σ F H I.wipeG
/-- what is wanted, with slots forgotten first -/
theorem S.nxW {Nx : List Sl → Prop} (ms : List Nat) (h : S B t Γ { D with nx := fun Γ' => Nx (wipeL Γ' ms) }) : S B t Γ { D with nx := Nx } := fun σ F H I D' hn hr hb hc =>
  h σ F H I D' (fun Γ' σ' F' H' m I' e => hn _ σ' F' H' m I'.wipeG e) hr hb hc
/-- a loop that forgets the slots ms at each turn's end -/
theorem q_forM {α : Type} {xs : List α} {en : α → PyData} (ms : List Nat) (hi : IP K wi Γ (xs.map en)) (Inv : Nat → List Sl → Prop) (h0 : Inv 0 (wipeL Γ ms))
    (hs : ∀ (i : Nat) (x : α) (Γ1 : List Sl), xs[i]? = some x → Inv i Γ1 → ∃ Γ2 vs, GP K g (en x) vs Γ1 Γ2 ∧ S B t Γ2 { D with nx := fun Γ' => Inv (i + 1) (wipeL Γ' ms), ct := fun Γ' => Inv (i + 1) (wipeL Γ' ms), bk := fun Γ' => S B u Γ' D }) (hd : ∀ Γ1, Inv xs.length Γ1 → S B u Γ1 D) : S B (tSeq (tFor wi g t) u) Γ D := by
  refine q_for hi (fun i Γ1 => Inv i (wipeL Γ1 ms)) h0 (fun i x Γ1 hx hv => ?_) fun Γ1 hv => s_wipe ms (hd _ hv)
  obtain ⟨Γ2, vs, hg, hS⟩ := hs i x (wipeL Γ1 ms) hx hv
  exact ⟨Γ2, vs, fun B σ F H v I hq Q q => hg B σ F H v I.wipeG hq Q q, hS⟩
/-! ### x.append(e) on a list of one's own -/
theorem Ok.at_own {α : Type} {o : Ow α} {a : α} {p : Addr} (I : Ok B Γ σ F H) (e : Γ[i]? = some (.own p o a)) : σ[i]? = some (some (.ref p)) ∧ ∃ fp, o.O F H p fp a := by
  obtain ⟨L, h⟩ := I
  obtain ⟨x, fp, e1, e2, u⟩ := h.sl.get e
  cases u with
  | own ho => exact ⟨e1, fp, ho⟩
theorem e_app {p : Addr} (h : E te Γ fun Γ1 s1 => ∃ d ds, s1 = Da K d ∧ Γ1[i]? = some (.own p (oL K) ds) ∧ ds.length + 1 ≤ wee ∧ k (Γ1.set i (.own p (oL K) (ds ++ [d]))) (Da K .none)) (e0 : ∃ ds, Γ[i]? = some (.own p (oL K) ds)) :
    E (tBM K "list" rAppend (tVar i) (tCons te tNil)) Γ k := fun B σ F H I Q q => by
  obtain ⟨ds0, e0⟩ := e0
  obtain ⟨g1, fp, g2, xs0, g3, _⟩ := I.at_own e0
  refine ⟨_, g1, Or.inl ⟨rfl, xs0, SqL.of g3⟩, ?_⟩
  refine h B σ F H I _ fun Γ1 s1 v F1 H1 ⟨d, ds, e1, e2, hz, hk⟩ I1 e3 => ?_
  subst e1
  obtain ⟨v', ev, hv⟩ := Ok.head I1
  cases ev
  have I2 := Ok.pop I1
  obtain ⟨x, ex, I3⟩ := I2.lift e2
  have eg := (I2.at_own e2).1
  rw [ex] at eg
  cases eg
  obtain ⟨acc, _, hA, hl, I4⟩ := Ok.appL I3 hv hz
  refine ⟨p, acc, v, rfl, rfl, hA, ?_, ?_⟩
  · rw [hl]; exact Nat.lt_of_lt_of_le (Nat.lt_of_succ_le hz) (by decide)
  · have I5 := Ok.store (i := i) I4
    rw [List.set_set, List.set_set, set_self ex] at I5
    exact q _ _ _ F1 _ hk (I5.push Dq.non) e3
theorem q_app {p : Addr} (e : Γ[i]? = some (.own p (oL K) ds)) (h : EP te Γ (Da K d)) (hz : ds.length + 1 ≤ wee) (hs : S B u (Γ.set i (.own p (oL K) (ds ++ [d]))) D) : S B (tSeq (tDrop (tBM K "list" rAppend (tVar i) (tCons te tNil))) u) Γ D :=
  q_drop (e_app (K := K) (p := p) (h.to ⟨d, ds, rfl, e, hz, hs⟩) ⟨ds, e⟩)
theorem s_app {p : Addr} (e : Γ[i]? = some (.own p (oL K) ds)) (h : EP te Γ (Da K d)) (hz : ds.length + 1 ≤ wee) (hs : D.nx (Γ.set i (.own p (oL K) (ds ++ [d])))) : S B (tDrop (tBM K "list" rAppend (tVar i) (tCons te tNil))) Γ D :=
  s_drop (e_app (K := K) (p := p) (h.to ⟨d, ds, rfl, e, hz, hs⟩) ⟨ds, e⟩)
/-! ### draws among the arguments -/
theorem e_callDA {c : Nat} {Pr : List PyData → Prop} {R : List PyData → PyData → Prop} {E' : XK} {ta : TA} {p : Addr} {n0 : Nat} (e : Γ[i]? = some (.own p oDk n0))
    (ha : A ta Γ fun Γ1 ss => ∃ ds n, ss = ds.map (Da K) ∧ Γ1[i]? = some (.own p oDk n) ∧ n + c ≤ dkMost ∧ Pr ds ∧ ∀ d, R ds d → k (Γ1.set i (.own p oDk (n + c))) (Da K d)) : E (tCall (DF K c Pr R) [] E' (tCons (tVar i) ta)) Γ k := fun B σ F H I Q q => by
  refine ⟨.ref p, (dk_at I e).1, ?_⟩
  refine ha B σ F H I _ fun Γ1 ss vs F1 H1 ⟨ds, n, a, b, hn, hp, hk⟩ nl I1 e1 => ?_
  subst a
  obtain ⟨h1, h2⟩ := Ok.all (by simpa using nl) I1
  show DF K c Pr R ((.ref p :: vs) ++ []) H1 Q E'
  rw [List.append_nil]
  obtain ⟨x, ex, I3⟩ := h2.lift b
  have ex' : x = some (.ref p) := by
    have := (dk_at h2 b).1
    rw [ex] at this; exact Option.some.inj this
  subst ex'
  have I4 : Ok B (Γ1.set i .no ++ [.own p oDk n]) (σ.set i none ++ [some (.ref p)]) F1 H1 := Ok.rot (Δ := [.own p oDk n]) (τ := [some (.ref p)]) I3 rfl
  obtain ⟨L, I5⟩ := I4
  have hlen : (σ.set i none).length = (Γ1.set i .no).length := by rw [List.length_set, List.length_set]; exact h2.lens
  obtain ⟨f₁, f₂, ef, g1, g2⟩ := split hlen I5.sl
  subst ef
  have ef2 : f₂ = [[p]] := by
    cases g2 with
    | cons a b =>
      cases b
      cases a with
      | own ho => rw [ho.1]
  subst ef2
  have sub : ∀ q ∈ ([[p]] : List (List Addr)).flatten, q ∈ (f₁ ++ [[p]]).flatten := fun q z => by rw [List.flatten_append]; exact List.mem_append_right _ z
  have nd := I5.nd
  rw [List.flatten_append, List.nodup_append] at nd
  have base : OkF ⟨F1, H1, [p]⟩ [.own p oDk n] [some (.ref p)] F1 H1 [[p]] := (OkF.base (B := B) (fps := [[p]]) ⟨g2, nd.2.1, fun q z => I5.fz q (sub q z), I5.ex, I5.bF, I5.bG, I5.bK, I5.bD, fun q z => I5.bO q (sub q z)⟩)
  have args : ∀ {xs : List PyData} {ws : List V}, DqAll K F1 ws xs → Ok ⟨F1, H1, [p]⟩ (xs.map (Da K) ++ [.own p oDk n]) (ws.map some ++ [some (.ref p)]) F1 H1 := by
    intro xs
    induction xs with
    | nil => intro ws h; cases h; exact ⟨_, base⟩
    | cons x xs ih =>
      intro ws h
      cases h with
      | cons a b => exact (ih b).push a
  refine ⟨p, ds, n, F1, hn, hp, Ok.rot (Δ := ds.map (Da K)) (τ := vs.map some) (args h1) (by simpa using nl.symm), fun d v F' H' hR I6 => ?_⟩
  obtain ⟨L6, I7⟩ := OkF.compose (Δ := Γ1.set i .no) (τ := σ.set i none) (fpd := f₁) (fps := [[p]]) I5 g1 I6
  have I8 : Ok B ([Da K d, .own p oDk (n + c)] ++ Γ1.set i .no) ([some v, some (.ref p)] ++ σ.set i none) F' H' := Ok.rot ⟨_, I7⟩ hlen
  obtain ⟨v', ev, hv⟩ := Ok.head (show Ok B (Da K d :: ([.own p oDk (n + c)] ++ Γ1.set i .no)) (some v :: ([some (.ref p)] ++ σ.set i none)) F' H' from I8)
  cases ev
  have I9 := Ok.store (i := i) (show Ok B (.own p oDk (n + c) :: Γ1.set i .no) (some (.ref p) :: σ.set i none) F' H' from Ok.pop I8)
  rw [List.set_set, List.set_set, set_self (dk_at h2 b).1] at I9
  have eF : Ex F1 F' := by
    obtain ⟨L, I'⟩ := I6
    exact I'.bF
  exact q _ _ v F' H' (hk d hR) (I9.push hv) (e1.trans eF)
end
end TL
/-! Mirror3: sizes. -/
namespace Q
open PySem TL
def need_number : Rl := fun ds r => ∃ v lo hi, ds = [v, .int lo, .int hi] ∧ r = if isFrom v lo hi = true then .ok .none else .error "InvalidNumber"
theorem need_number_len : ∀ ds r, need_number ds r → ds.length = ["value", "low", "high"].length := by rintro ds r ⟨v, lo, hi, rfl, _⟩; rfl
theorem need_ok {b : Bool} {e : Str} {d : PyData} (h : (if b = true then (.ok .none : Except Str PyData) else .error e) = .ok d) : b = true := by
  cases b with
  | true => rfl
  | false => cases h
theorem need_err {b : Bool} {e x : Str} (h : (if b = true then (.ok .none : Except Str PyData) else .error e) = .error x) : ¬ b = true ∧ x = e := by
  cases b with
  | true => cases h
  | false => cases h; exact ⟨Bool.false_ne_true, rfl⟩
theorem need_piece_ok {c : Int} {al : List Int} (h : ValidP c al) : need_piece [pcD c al] (.ok .none) := ⟨_, rfl, by rw [isPiece_pc h]; rfl⟩
theorem need_number_ok {v : PyData} {lo hi : Int} (h : isFrom v lo hi = true) : need_number [v, .int lo, .int hi] (.ok .none) := ⟨v, lo, hi, rfl, by rw [h]; rfl⟩
def sfD (l v : Int) : PyData := if l = 0 ∨ (l = 1 ∧ 0 < v) then .none else if 1 < l then .int (max 1 (-(-v * l / (l - 1)))) else .int 1
def singers_for : Rl := fun ds r => ∃ l v : Int, ds = [.int l, .int v] ∧ 0 ≤ l ∧ l ≤ 100000 ∧ 0 ≤ v ∧ v ≤ 30 ∧ r = .ok (sfD l v)
theorem singers_for_len : ∀ ds r, singers_for ds r → ds.length = ["least", "voices"].length := by rintro ds r ⟨l, v, rfl, _⟩; rfl
def fsD (c b : Int) (al : List Int) (v : Int) : PyData := if wc c b al = [] then .int (max 1 v) else sfD (minL (wc c b al)) v
def mvD (c : Int) (al : List Int) (s b : Int) : PyData := if wc c b al = [] then .int s else if 0 < minL (wc c b al) then .int (s + -s / minL (wc c b al)) else .none
/-- errors: a piece, then two numbers -/
def NNerr (ds : List PyData) (r : Except Str PyData) (a1 b1 a2 b2 : Int) : Prop := ∃ p v u, ds = [p, v, u] ∧ (isPiece p && (isFrom v a1 b1 && isFrom u a2 b2)) = false ∧ r = if isPiece p = true then .error "InvalidNumber" else .error "InvalidPiece"
def fewest_singers : Rl := fun ds r => (∃ c al b v, ValidP c al ∧ 1 ≤ b ∧ b ≤ 60 ∧ 0 ≤ v ∧ v ≤ 30 ∧ ds = [pcD c al, .int b, .int v] ∧ r = .ok (fsD c b al v)) ∨ NNerr ds r 1 60 0 30
def most_voices : Rl := fun ds r => (∃ c al s b, ValidP c al ∧ 1 ≤ s ∧ s ≤ 30 ∧ 1 ≤ b ∧ b ≤ 60 ∧ ds = [pcD c al, .int s, .int b] ∧ r = .ok (mvD c al s b)) ∨ NNerr ds r 1 30 1 60
theorem fewest_singers_len : ∀ ds r, fewest_singers ds r → ds.length = ["piece", "breath", "voices"].length := by
  rintro ds r (⟨c, al, b, v, _, _, _, _, _, rfl, _⟩ | ⟨p, v, u, rfl, _⟩) <;> rfl
theorem most_voices_len : ∀ ds r, most_voices ds r → ds.length = ["piece", "singers", "breath"].length := by
  rintro ds r (⟨c, al, b, v, _, _, _, _, _, rfl, _⟩ | ⟨p, v, u, rfl, _⟩) <;> rfl
theorem cnt_nonneg (al : List Int) (st b : Int) : 0 ≤ cnt al st b := Int.natCast_nonneg _
theorem asc_len : ∀ {al : List Int} {lo hi : Int}, al.Pairwise (· < ·) → (∀ x ∈ al, lo ≤ x) → (∀ x ∈ al, x < hi) → al = [] ∨ (al.length : Int) ≤ hi - lo
  | [], _, _, _, _, _ => .inl rfl
  | a :: l, lo, hi, h, h0, h1 => by
    right
    obtain ⟨p, q⟩ := List.pairwise_cons.mp h
    have ha := h0 a List.mem_cons_self
    have hb := h1 a List.mem_cons_self
    rcases asc_len (lo := a + 1) (hi := hi) q (fun x hx => by have := p x hx; omega) (fun x hx => h1 x (List.mem_cons_of_mem _ hx)) with e | e
    · subst e; simp; omega
    · rw [List.length_cons]; omega
theorem ValidP.len {c : Int} {al : List Int} (h : ValidP c al) : (al.length : Int) ≤ c := by
  rcases asc_len (lo := 0) h.asc h.lo h.hi with e | e
  · subst e; have := h.c1; simp; omega
  · omega
theorem cnt_le {c : Int} {al : List Int} (h : ValidP c al) (st b : Int) : cnt al st b ≤ c := by
  have := h.len
  have h2 : (al.filter (inW st b)).length ≤ al.length := List.length_filter_le _ _
  unfold cnt
  omega
theorem wc_mem {c b m : Int} {al : List Int} : m ∈ wc c b al ↔ ∃ st, 0 ≤ st ∧ st < c - b ∧ cnt al st b = m := by
  unfold wc
  rw [List.mem_map]
  constructor
  · rintro ⟨st, h, e⟩; exact ⟨st, (mem_rng.mp h).1, (mem_rng.mp h).2, e⟩
  · rintro ⟨st, h1, h2, e⟩; exact ⟨st, mem_rng.mpr ⟨h1, h2⟩, e⟩
theorem wc_bd {c b m : Int} {al : List Int} (h : ValidP c al) (hm : m ∈ wc c b al) : 0 ≤ m ∧ m ≤ c := by
  obtain ⟨st, _, _, rfl⟩ := wc_mem.mp hm
  exact ⟨cnt_nonneg _ _ _, cnt_le h _ _⟩
theorem wc_nil {c b : Int} {al : List Int} : wc c b al = [] ↔ c ≤ b := by
  unfold wc
  rw [List.map_eq_nil_iff, ← List.length_eq_zero_iff, rng_len]
  omega
theorem wc_min {c b : Int} {al : List Int} (h : ValidP c al) (hn : wc c b al ≠ []) : 0 ≤ minL (wc c b al) ∧ minL (wc c b al) ≤ c := wc_bd h (minL_mem hn).1
theorem okB {i lo hi : Int} (h1 : lo ≤ i) (h2 : i ≤ hi) : isFrom (.int i) lo hi = true := isFrom_int.mpr ⟨h1, h2⟩
theorem sfD_nl {l v : Int} : ∀ ds, sfD l v ≠ .list ds := by
  intro ds h
  unfold sfD at h
  split at h
  · cases h
  · split at h <;> cases h
/-! ### the least breath -/
def lbS (c : Int) (al : List Int) (s v : Int) : List Int → Int
  | [] => c
  | b :: r => if en c al s b v = true then b else lbS c al s v r
def lb (c : Int) (al : List Int) (s v : Int) : Int := lbS c al s v (rng 1 c)
/-- errors: a piece, singers, voices up to these -/
def least_breath : Rl := fun ds r => (∃ c al s v, ValidP c al ∧ 1 ≤ s ∧ s ≤ 30 ∧ 0 ≤ v ∧ v ≤ s ∧ ds = [pcD c al, .int s, .int v] ∧ r = .ok (.int (lb c al s v))) ∨
  (∃ p v u, ds = [p, v, u] ∧ (isPiece p && (isFrom v 1 30 && match v with | .int s => isFrom u 0 s | _ => false)) = false ∧ r = if isPiece p = true then .error "InvalidNumber" else .error "InvalidPiece")
theorem least_breath_len : ∀ ds r, least_breath ds r → ds.length = ["piece", "singers", "voices"].length := by
  rintro ds r (⟨c, al, b, v, _, _, _, _, _, rfl, _⟩ | ⟨p, v, u, rfl, _⟩) <;> rfl
theorem lbS_drop {c : Int} {al : List Int} {s v : Int} : ∀ {l : List Int} {i : Nat}, (∀ j b, j < i → l[j]? = some b → en c al s b v = false) → lbS c al s v l = lbS c al s v (l.drop i)
  | _, 0, _ => rfl
  | [], _ + 1, _ => rfl
  | b :: r, i + 1, h => by
    have h0 := h 0 b (Nat.succ_pos _) rfl
    show (if en c al s b v = true then b else _) = lbS c al s v (r.drop i)
    rw [if_neg (by rw [h0]; exact Bool.false_ne_true)]
    exact lbS_drop fun j b hj e => h (j + 1) b (Nat.succ_lt_succ hj) e
theorem lbS_at {c : Int} {al : List Int} {s v b : Int} {l : List Int} {i : Nat} (h : ∀ j b, j < i → l[j]? = some b → en c al s b v = false) (e : l[i]? = some b) (hb : en c al s b v = true) : lbS c al s v l = b := by
  rw [lbS_drop h, List.drop_eq_getElem_cons (List.getElem?_eq_some_iff.mp e).1, (List.getElem?_eq_some_iff.mp e).2]
  show (if en c al s b v = true then b else _) = b
  rw [if_pos hb]
theorem lbS_end {c : Int} {al : List Int} {s v : Int} {l : List Int} (h : ∀ j b, j < l.length → l[j]? = some b → en c al s b v = false) : lbS c al s v l = c := by
  rw [lbS_drop h, List.drop_length]
  rfl
end Q
/-! Mirror4: sameness, and what the laws' checks of k05 come to. -/
namespace Q
open PySem TL
def srt (x : PyData) : Int := if isBool x = true then 1 else if isInt x = true then 2 else if isStr x = true then 3 else if isLst x = true then 4 else if isTup x = true then 5 else 6
def law_sort : Rl := fun ds r => ∃ x, ds = [x] ∧ r = .ok (.int (srt x))
theorem law_sort_len : ∀ ds r, law_sort ds r → ds.length = ["thing"].length := by rintro ds r ⟨x, rfl, _⟩; rfl
/-- data without tuples, of depth below n -/
def NT : Nat → PyData → Prop
  | 0, _ => False
  | n + 1, .list ds => ∀ x ∈ ds, NT n x
  | _ + 1, .tuple _ => False
  | _ + 1, .dict _ => False
  | _ + 1, .str x => PyData.strOk x = true
  | _ + 1, _ => True
noncomputable def same (a b : PyData) : Bool := @decide (a = b) (Classical.propDecidable _)
theorem same_iff {a b : PyData} : same a b = true ↔ a = b := by unfold same; exact @decide_eq_true_iff _ (Classical.propDecidable _)
theorem same_rfl {a : PyData} : same a a = true := same_iff.mpr rfl
theorem same_no {a b : PyData} (h : a ≠ b) : same a b = false := by
  cases e : same a b with
  | true => exact absurd (same_iff.mp e) h
  | false => rfl
theorem same_int {a b : Int} : same (.int a) (.int b) = decide (a = b) := by
  by_cases h : a = b
  · subst h; rw [same_rfl, decide_eq_true rfl]
  · rw [same_no (fun e => h (by cases e; rfl)), decide_eq_false h]
theorem same_lI {a b : List Int} : same (lI a) (lI b) = decide (a = b) := by
  by_cases h : a = b
  · subst h; rw [same_rfl, decide_eq_true rfl]
  · rw [same_no, decide_eq_false h]
    intro e
    apply h
    unfold lI at e
    injection e with e
    exact (List.map_inj_right (fun x y z => by cases z; rfl)).mp e
def law_same (n : Nat) : Rl := fun ds r => ∃ a b, ds = [a, b] ∧ NT n a ∧ NT n b ∧ r = .ok (.bool (same a b))
theorem law_same_len {n : Nat} : ∀ ds r, law_same n ds r → ds.length = ["told", "due"].length := by rintro ds r ⟨a, b, rfl, _⟩; rfl
theorem law_same_zero {ds : List PyData} {r : Except Str PyData} (h : law_same 0 ds r) : False := by
  obtain ⟨a, b, _, h, _⟩ := h
  exact h
theorem nt_int {n : Nat} {i : Int} : NT (n + 1) (.int i) := trivial
theorem nt_none {n : Nat} : NT (n + 1) .none := trivial
theorem nt_bool {n : Nat} {b : Bool} : NT (n + 1) (.bool b) := trivial
theorem nt_lI {n : Nat} {l : List Int} : NT (n + 2) (lI l) := fun x hx => by
  obtain ⟨i, _, rfl⟩ := List.mem_map.mp hx
  exact trivial
theorem srt_ne {a b : PyData} (h : srt a ≠ srt b) : same a b = false := same_no fun e => h (by rw [e])
/-- things that are no lists -/
def plainD : PyData → Bool
  | .none => true
  | .bool _ => true
  | .int _ => true
  | .str x => PyData.strOk x
  | _ => false
theorem plain_sh {a : PyData} (h : plainD a = true) : sh 1 a := by
  cases a with
  | str x => exact ⟨by simp only [PyData.canLay0]; exact h, by simp only [PyData.depth]; omega⟩
  | none => exact sh_none
  | bool b => exact sh_bool
  | int i => exact sh_int
  | _ => cases h
theorem plain_eqv {a b : PyData} (ha : plainD a = true) (h : srt a = srt b) : PyData.eqv a b = same a b := by
  by_cases e : a = b
  · subst e; rw [eqv_self (plain_sh ha).1, same_rfl]
  · rw [same_no e]
    cases a with
    | none => cases b <;> first | exact absurd rfl e | simp only [PyData.eqv]
    | bool x => cases b <;> first | (simp [srt, isBool, isInt, isStr, isLst, isTup] at h; done) | (simp only [PyData.eqv]; simpa using fun z => e (by rw [z]))
    | int x => cases b <;> first | (simp [srt, isBool, isInt, isStr, isLst, isTup] at h; done) | (simp only [PyData.eqv]; simpa using fun z => e (by rw [z]))
    | str x => cases b <;> first | (simp [srt, isBool, isInt, isStr, isLst, isTup] at h; done) | (simp only [PyData.eqv]; simpa using fun z => e (by rw [z]))
    | _ => cases ha
theorem nt_plain {n : Nat} {a : PyData} (h : NT (n + 1) a) (hl : ∀ ds, a ≠ .list ds) : plainD a = true := by
  cases a with
  | list ds => exact absurd rfl (hl ds)
  | tuple ds => exact h.elim
  | dict ds => exact h.elim
  | str x => exact h
  | _ => rfl
theorem nt_srt {n : Nat} {a : PyData} (h : NT (n + 1) a) (hl : ∀ ds, a ≠ .list ds) : srt a ≤ 3 ∨ srt a = 6 := by
  cases a with
  | list ds => exact absurd rfl (hl ds)
  | tuple ds => exact h.elim
  | dict ds => exact h.elim
  | none => right; rfl
  | bool b => left; show (1 : Int) ≤ 3; decide
  | int i => left; show (2 : Int) ≤ 3; decide
  | str x => left; show (3 : Int) ≤ 3; decide
/-- the places where two lists differ -/
noncomputable def differ (ds es : List PyData) : List Int := (((List.range ds.length).zip ds).filter fun z => !same z.2 (es.getD z.1 .none)).map fun z => ((z.1 : Nat) : Int)
theorem differ_nil {ds es : List PyData} (h : ds.length = es.length) : decide (differ ds es = []) = same (.list ds) (.list es) := by
  have key : differ ds es = [] ↔ ds = es := by
    unfold differ
    rw [List.map_eq_nil_iff, List.filter_eq_nil_iff]
    constructor
    · intro k
      refine List.ext_getElem h fun i h1 h2 => ?_
      have hm : (i, ds[i]) ∈ (List.range ds.length).zip ds := by
        rw [List.mem_iff_getElem]
        refine ⟨i, by simp [h1], by simp⟩
      have := k _ hm
      simp only [Bool.not_eq_true', Bool.not_eq_false] at this
      have e := same_iff.mp (by simpa using this)
      rw [e, List.getElem?_eq_getElem h2]; rfl
    · intro e z hz
      subst e
      obtain ⟨i, h1, e⟩ := List.mem_iff_getElem.mp hz
      have h2 : i < ds.length := by simpa using h1
      rw [List.getElem_zip, List.getElem_range] at e
      subst e
      simp [h2, same_rfl]
  by_cases e : differ ds es = []
  · rw [decide_eq_true e, key.mp e, same_rfl]
  · rw [decide_eq_false e, same_no fun z => e (key.mpr (by cases z; rfl))]
def posD : PyData → Int → Int → Bool
  | .int m, s, h => decide (s ≤ m * (s - h))
  | _, _, _ => true
def law_possible : Rl := fun ds r => ∃ p s h, ds = [p, .int s, .int h] ∧ (p = .none ∨ ∃ m : Int, p = .int m ∧ 0 ≤ m ∧ m ≤ 60) ∧ r = .ok (.bool (posD p s h))
theorem law_possible_len : ∀ ds r, law_possible ds r → ds.length = ["poorest", "singers", "heard"].length := by rintro ds r ⟨p, s, h, rfl, _⟩; rfl
def poorD (c : Int) (al : List Int) (b : Int) : PyData := if wc c b al = [] then .none else .int (minL (wc c b al))
def law_poorest : Rl := fun ds r => ∃ c al b, ValidP c al ∧ 0 ≤ b ∧ b ≤ 60 ∧ ds = [pcD c al, .int b] ∧ r = .ok (poorD c al b)
theorem law_poorest_len : ∀ ds r, law_poorest ds r → ds.length = ["song", "breath"].length := by rintro ds r ⟨c, al, b, _, _, _, rfl, _⟩; rfl
end Q
namespace Q
open PySem TL
def law : Rl := fun ds r => ∃ ns : List Int, ns.length ≤ 63 ∧ ds = [.list (ns.map .int)] ∧ r = .ok (.bool true)
theorem law_len : ∀ ds r, law ds r → ds.length = ["script"].length := by rintro ds r ⟨ns, _, rfl, _⟩; rfl
theorem law_true : ∀ ns : List Int, ns.length ≤ 63 → law [.list (ns.map .int)] (.ok (.bool true)) := fun ns h => ⟨ns, h, rfl, rfl⟩
end Q
/-! TL9: the end: a law whose def keeps its promise holds. -/
namespace TL
open PySem L2
theorem ints_dq {K : PySem.W.Frag} {F : Hp} : ∀ ns : List Int, DqAll K F (ns.map V.int) (ns.map PyData.int)
  | [] => .nil
  | n :: ns => .cons (.int n) (ints_dq ns)
theorem ends_true {K : PySem.W.Frag} {R : Rl} {H : Hp} {a : Addr} {ns : List Int} (hR : R [.list (ns.map .int)] (.ok (.bool true))) (hl : ns.length ≤ wee) (hS : SqL K H a (ns.map V.int)) : PF K R [.ref a] H (fun v _ => v = .bl true) fun _ _ _ => False := by
  refine ⟨_, _, H, hR, Evl.Ex.refl H, .cons (.lst hS (by rw [List.length_map]; exact hl) (ints_dq ns)) .nil, fun d s v F' H' e hs I => ?_, fun x F' H' e _ => by cases e⟩
  cases e
  rcases hs with ⟨ds, p, e, _⟩ | ⟨_, e⟩
  · cases e
  · subst e
    obtain ⟨v', ev, hv⟩ := Ok.head I
    cases ev
    cases hv
    rfl
theorem no_air {P : Program} {w : World} {H : Hp} {s s' : Shared} {e : Value} (h : L2.CX P w [] H s (fun _ _ _ => False) e s') : False := by
  obtain ⟨_, _, _, _, _, _, _, _, _, _, _, _, h⟩ := h
  exact h
theorem walk_end {l : PySem.W.OpenLaw} {n k : Nat} {q : Program} {loose : List Str} {XP : (Str → Option Value) → Heap → Prop} {YP : World → Heap → Prop} {d : DefRec} {x : Str} {R : Rl} (hn : l.most = some n) (hn2 : n ≤ wee) (hdf : d.params.defaults = []) (hr : Room k callerA)
    (F : ∀ (w : World) (mg : Str → Option Value) (fa : Addr) (h : Heap), YP w h → h.Ns mainGlobals mg → mg d.name = some (.ref fa) →
      ∃ (K : PySem.W.Frag) (fd : FuncData), K.In h ∧ (∀ (s : Shared) (u : Value), BindsTo s fd ⟨[u], []⟩ [(x, u)]) ∧ ∀ base : Heap, K.In base → base.Ns mainGlobals mg → FnOk l.prog w K mg base (L2.CX l.prog w) k fa fd [x] (PF K R))
    (hR : ∀ ns : List Int, ns.length ≤ n → R [.list (ns.map .int)] (.ok (.bool true))) :
    PySem.W.WalkO q loose XP YP l.row.toRowW d [] (fun f vs => PySem.call f vs) := by
  have hs : n ≤ sizeLine := Nat.le_trans hn2 (by decide)
  refine Att.attach_call hn hdf fun w s₀ s₁ mg mb fa o pm cd doc a vs ns G Y ho hd hcd hmg hobj hints hlen hg => ?_
  obtain ⟨K, fd, KX, hb, hF⟩ := F w mg fa _ Y G.T.g hmg
  exact law_call KX G.T.g G.T.b G.T.builtins G.T.nolimit hg hobj hints (Nat.le_trans hlen hs) hr hF hb (fun H _ hS => ends_true (hR ns hlen) (Nat.le_trans hlen hn2) hS) fun H e s' h => no_air h
end TL
namespace TL
open PySem L2
section
variable {K : PySem.W.Frag}
theorem rd_isB {r : R2} {a b : Bool} (hr : r = fun x y H Q => ∃ a b, x = .bl a ∧ y = .bl b ∧ Q (.bl (decide (a = b))) H := by rfl) : RD K r (.bool a) (.bool b) (.bool (decide (a = b))) := rd_v fun F H v w _ hv hw => by
  subst hr
  cases hv
  cases hw
  exact ⟨_, Dq.bl _, fun Q q => ⟨a, b, rfl, rfl, q⟩⟩
theorem rd_nisB {r : R2} {a b : Bool} (hr : r = fun x y H Q => ∃ a b, x = .bl a ∧ y = .bl b ∧ Q (.bl (!decide (a = b))) H := by rfl) : RD K r (.bool a) (.bool b) (.bool (!decide (a = b))) := rd_v fun F H v w _ hv hw => by
  subst hr
  cases hv
  cases hw
  exact ⟨_, Dq.bl _, fun Q q => ⟨a, b, rfl, rfl, q⟩⟩
end
end TL
/-! TL10: loops over what draws; a new deck; the first and the last of a list of ints, or None. -/
namespace TL
open PySem L2
open Evl (Ex ex_l ex_t)
section
variable {K : PySem.W.Frag} {B : Bs} {Γ Δ Γ' : List Sl} {σ τ : St} {F F' H H' : Hp} {s : Sl} {v : V} {te ta tb tc tl : TE} {tt tu : TT} {t u : TS} {D : AD} {d e x y z : PyData} {i j : Nat} {vs : List Nat} {ds es : List PyData} {k : List Sl → Sl → Prop} {g : TG} {wi : TI}
/-- what is walked, with draws in it -/
def IE (K : PySem.W.Frag) (wi : TI) (Γ : List Sl) (k : List Sl → List PyData → Prop) : Prop := ∀ (B : Bs) (σ : St) (F H : Hp), Ok B Γ σ F H → ∀ R : It → Hp → Prop, (∀ J Γ1 ds F1 H1, k Γ1 ds → Ok B Γ1 σ F1 H1 → Ex F F1 → Turns K J F1 ds → ds.length ≤ wee → R J H1) → wi σ H R
theorem ie_list {q : List Sl → List PyData → Prop} (h : E tl Γ fun Γ1 s => ∃ ds, s = Da K (.list ds) ∧ q Γ1 ds) : IE K (iList K tl) Γ q := fun B σ F H I R hR => by
  refine h B σ F H I _ fun Γ1 s1 v F1 H1 ⟨ds, a, hq⟩ I1 e1 => ?_
  subst a
  obtain ⟨v', ev, hv⟩ := Ok.head I1
  cases ev
  cases hv with
  | @lst a xs _ hs hz ha =>
    refine ⟨a, rfl, ⟨xs, ex_l I1.ex hs⟩, hR _ Γ1 ds F1 H1 hq (Ok.pop I1) e1 (fun i F2 H2 e2 e3 => ?_) hz⟩
    have now := ex_l (e2.trans e3) hs
    refine ⟨fun d hd => ?_, fun hn => ⟨xs, now, by rw [ha.len]; exact hn⟩⟩
    obtain ⟨u, hu, du⟩ := ha.get hd
    refine ⟨⟨xs, u, now, hu⟩, fun x H3 hy => ?_⟩
    rcases hy with ⟨eH, hx⟩
    have ex := hx xs now
    rw [hu] at ex
    cases ex
    cases eH
    exact ⟨F2, fun _ _ _ z => z, Ex.refl _, Dq.mono e2 _ _ du⟩
theorem s_forE (hi : IE K wi Γ fun Γ0 ds => ∃ Iv : Nat → List Sl → Prop, Iv 0 Γ0 ∧
      (∀ (i : Nat) (d : PyData) (Γ1 : List Sl), ds[i]? = some d → Iv i Γ1 → ∃ Γ2 vs, GP K g d vs Γ1 Γ2 ∧ S B t Γ2 { D with nx := Iv (i + 1), ct := Iv (i + 1), bk := D.nx }) ∧ ∀ Γ1, Iv ds.length Γ1 → D.nx Γ1) : S B (tFor wi g t) Γ D := fun σ F H I D' hn hr hb hc => by
  refine hi B σ F H I _ fun J Γ0 ds F1 H1 ⟨Iv, h0, hs, hd⟩ I1 e1 tn _ => ?_
  refine ⟨fun i m σ' H' => m = ds.length - i ∧ i ≤ ds.length ∧ ∃ Γ' F', Iv i Γ' ∧ Ok B Γ' σ' F' H' ∧ Ex F1 F', ⟨_, rfl, Nat.zero_le _, Γ0, F1, h0, I1, Ex.refl _⟩, ?_⟩
  rintro i m σ' H' ⟨rfl, hi', Γ', F', hv, I', e'⟩
  have eF := e1.trans e'
  by_cases hlt : i < ds.length
  · have hx : ds[i]? = some ds[i] := List.getElem?_eq_getElem hlt
    obtain ⟨go, yl⟩ := (tn i F' H' e' I'.ex).1 ds[i] hx
    obtain ⟨Γ2, vs, hg, hb2⟩ := hs i ds[i] Γ' hx hv
    refine .inr ⟨go, fun σ2 H2 => ∃ Γ' F', Iv (i + 1) Γ' ∧ Ok B Γ' σ2 F' H2 ∧ Ex F1 F', fun σ2 H2 q => ⟨ds.length - (i + 1), by omega, rfl, hlt, q⟩, fun x H3 hy => ?_⟩
    obtain ⟨F3, carry, e3, dx⟩ := yl x H3 hy
    refine hg B σ' F3 H3 x (carry _ _ _ I') dx _ fun σ2 _ I2 => ?_
    have eA := e'.trans e3
    have eB := e1.trans eA
    exact hb2 σ2 F3 H3 I2 { D' with nx := _, ct := _, bk := D'.nx } (fun Γ5 σ5 F5 H5 a I5 e5 => ⟨Γ5, F5, a, I5, eA.trans e5⟩) (fun a b c d f g p q r => hr a b c d f g p q (eB.trans r))
      (fun a b c d p q r => hn a b c d p q (eB.trans r)) (fun Γ5 σ5 F5 H5 a I5 e5 => ⟨Γ5, F5, a, I5, eA.trans e5⟩)
  · cases (show i = ds.length by omega)
    exact .inl ⟨(tn _ F' H' e' I'.ex).2 (Nat.le_refl _), hn Γ' σ' F' H' (hd Γ' hv) I' eF⟩
/-- .. with something behind; each turn forgets the slots ms -/
theorem q_forE (ms : List Nat) (hi : IE K wi Γ fun Γ0 ds => ∃ Iv : Nat → List Sl → Prop, Iv 0 (wipeL Γ0 ms) ∧
      (∀ (i : Nat) (d : PyData) (Γ1 : List Sl), ds[i]? = some d → Iv i Γ1 → ∃ Γ2 vs, GP K g d vs Γ1 Γ2 ∧ S B t Γ2 { D with nx := fun Γ' => Iv (i + 1) (wipeL Γ' ms), ct := fun Γ' => Iv (i + 1) (wipeL Γ' ms), bk := fun Γ' => S B u Γ' D }) ∧ ∀ Γ1, Iv ds.length Γ1 → S B u Γ1 D) : S B (tSeq (tFor wi g t) u) Γ D := by
  refine s_seq (fun Γ' => S B u Γ' D) (s_forE (D := { D with nx := fun Γ' => S B u Γ' D }) fun B' σ F H I R hR => hi B' σ F H I R fun J Γ1 ds F1 H1 ⟨Iv, h0, hs, hd⟩ I1 e1 tn hz => hR J Γ1 ds F1 H1 ⟨fun i Γ' => Iv i (wipeL Γ' ms), h0, fun i d Γ1 hx hv => ?_, fun Γ1 hv => s_wipe ms (hd _ hv)⟩ I1 e1 tn hz) fun _ h => h
  obtain ⟨Γ2, vs, hg, hS⟩ := hs i d (wipeL Γ1 ms) hx hv
  exact ⟨Γ2, vs, fun B σ F H v I hq Q q => hg B σ F H v I.wipeG hq Q q, hS⟩
/-- .. as the last statement -/
theorem s_forEM (ms : List Nat) (hi : IE K wi Γ fun Γ0 ds => ∃ Iv : Nat → List Sl → Prop, Iv 0 (wipeL Γ0 ms) ∧
      (∀ (i : Nat) (d : PyData) (Γ1 : List Sl), ds[i]? = some d → Iv i Γ1 → ∃ Γ2 vs, GP K g d vs Γ1 Γ2 ∧ S B t Γ2 { D with nx := fun Γ' => Iv (i + 1) (wipeL Γ' ms), ct := fun Γ' => Iv (i + 1) (wipeL Γ' ms), bk := D.nx }) ∧ ∀ Γ0 Γ1, Γ1 = wipeL Γ0 ms → Iv ds.length Γ1 → D.nx Γ0) : S B (tFor wi g t) Γ D := by
  refine s_forE (D := D) fun B' σ F H I R hR => hi B' σ F H I R fun J Γ1 ds F1 H1 ⟨Iv, h0, hs, hd⟩ I1 e1 tn hz => hR J Γ1 ds F1 H1 ⟨fun i Γ' => Iv i (wipeL Γ' ms), h0, fun i d Γ1 hx hv => ?_, fun Γ1 hv => hd Γ1 _ rfl hv⟩ I1 e1 tn hz
  obtain ⟨Γ2, vs, hg, hS⟩ := hs i d (wipeL Γ1 ms) hx hv
  exact ⟨Γ2, vs, fun B σ F H v I hq Q q => hg B σ F H v I.wipeG hq Q q, hS⟩
/-- the same, the source without draws -/
theorem s_forM {α : Type} {xs : List α} {en : α → PyData} (ms : List Nat) (hi : IP K wi Γ (xs.map en)) (Iv : Nat → List Sl → Prop) (h0 : Iv 0 (wipeL Γ ms))
    (hs : ∀ (i : Nat) (x : α) (Γ1 : List Sl), xs[i]? = some x → Iv i Γ1 → ∃ Γ2 vs, GP K g (en x) vs Γ1 Γ2 ∧ S B t Γ2 { D with nx := fun Γ' => Iv (i + 1) (wipeL Γ' ms), ct := fun Γ' => Iv (i + 1) (wipeL Γ' ms), bk := D.nx }) (hd : ∀ Γ0, Iv xs.length (wipeL Γ0 ms) → D.nx Γ0) : S B (tFor wi g t) Γ D := by
  refine s_for hi (fun i Γ1 => Iv i (wipeL Γ1 ms)) h0 (fun i x Γ1 hx hv => ?_) hd
  obtain ⟨Γ2, vs, hg, hS⟩ := hs i x (wipeL Γ1 ms) hx hv
  exact ⟨Γ2, vs, fun B σ F H v I hq Q q => hg B σ F H v I.wipeG hq Q q, hS⟩
theorem wipeL_get {i : Nat} : ∀ {ms : List Nat}, (wipeL Γ ms)[i]? = if i ∈ ms then (Γ[i]?).map (fun _ => Sl.no) else Γ[i]?
  | [] => by rw [if_neg (fun z => nomatch z)]; rfl
  | m :: ms => by
    show ((wipeL Γ ms).set m .no)[i]? = _
    rw [List.getElem?_set, wipeL_get (ms := ms)]
    by_cases e : m = i
    · subst e
      rw [if_pos rfl, if_pos List.mem_cons_self]
      rw [wipeL_len]
      by_cases h : m < Γ.length
      · rw [if_pos h, List.getElem?_eq_getElem h]; rfl
      · rw [if_neg h, List.getElem?_eq_none (by omega)]; rfl
    · rw [if_neg e]
      by_cases h : i ∈ ms
      · rw [if_pos h, if_pos (List.mem_cons_of_mem _ h)]
      · rw [if_neg h, if_neg (fun z => (List.mem_cons.mp z).elim (fun q => e q.symm) h)]
theorem wipeL_sub {as bs : List Nat} {X : List Sl} (h : ∀ a ∈ as, a ∈ bs) (e : wipeL Γ as = X) : wipeL Γ bs = wipeL X bs := by
  subst e
  apply List.ext_getElem?
  intro i
  rw [wipeL_get, wipeL_get, wipeL_get]
  by_cases hb : i ∈ bs
  · rw [if_pos hb, if_pos hb]
    by_cases ha : i ∈ as
    · rw [if_pos ha]; cases Γ[i]? <;> rfl
    · rw [if_neg ha]
  · rw [if_neg hb, if_neg hb, if_neg (fun z => hb (h i z))]
/-- a list written down, draws in it -/
theorem e_lst {ta : TA} (h : A ta Γ fun Γ1 ss => ∃ xs, ss = xs.map (Da K) ∧ xs.length ≤ wee ∧ ∀ p, k Γ1 (.own p (oL K) xs)) : E (tLst ta) Γ k := fun B σ F H I Q q =>
  h B σ F H I _ fun Γ1 ss vs F1 H1 ⟨xs, a, hz, hk⟩ n I1 e1 => by
    subst a
    obtain ⟨h1, h2⟩ := Ok.all (by simpa using n) I1
    refine ⟨Nat.le_trans (by rw [h1.len]; exact hz) (by decide), fun p hp => ?_⟩
    exact q _ _ _ F1 _ (hk p) (h2.pushL hp hz h1) e1
/-- a new deck -/
theorem q_mkdeck {ta : TA} {E' : XK} {c m : Int} (hi : i < Γ.length) (ha : AP ta Γ [Da K (.int c), Da K (.int m)]) (hm : 0 ≤ m) (h : ∀ p, S B u (Γ.set i (.own p oDk m.toNat)) D) : S B (tSeq (tAsg (tCall (PF K Q.law_deck) [] E' ta) (gName i)) u) Γ D := by
  refine q_setO (o := oL K) (eo_call (ds := [.int c, .int m]) ha ⟨c, m, rfl, rfl⟩) fun p => ?_
  refine s_deck (i := i) (n := m.toNat) (by rw [List.getElem?_set_self hi]) ⟨Int.emod_nonneg _ (by decide), Int.emod_lt_of_pos _ (by decide)⟩ ⟨hm, by omega⟩ ?_
  rw [List.set_set]
  exact h p
/-- the first of some ints, or None -/
def headD : List Int → PyData
  | [] => .none
  | a :: _ => .int a
def lastD (l : List Int) : PyData := headD l.reverse
theorem ep_first {L : List Int} (e : Γ[j]? = some (Da K (.list (L.map .int)))) : EP (tIf (tTest (tOp (rNeD K) (tVar j) (tLst tNil))) (tOp (rIxL K) (tVar j) (tC (.int 0))) (tC .non)) Γ (Da K (headD L)) := by
  cases L with
  | nil => exact ep_if (b := false) (tp_test (ep_op (ep_var e) ep_nil0 (rd_neL0 (ns := [])))) (fun z => absurd z (by decide)) fun _ => ep_non
  | cons a r => exact ep_if (b := true) (tp_test (ep_op (ep_var e) ep_nil0 (rd_neL0 (ns := a :: r)))) (fun _ => ep_op (ep_var e) ep_int (rd_ixL (ds := (a :: r).map .int) (atI_nat (j := 0) rfl))) fun z => absurd z (by decide)
theorem ep_last {L : List Int} (e : Γ[j]? = some (Da K (.list (L.map .int)))) : EP (tIf (tTest (tOp (rNeD K) (tVar j) (tLst tNil))) (tOp (rIxL K) (tVar j) (tUn (rU fun i => .int (-i)) (tC (.int 1)))) (tC .non)) Γ (Da K (lastD L)) := by
  rcases List.eq_nil_or_concat L with rfl | ⟨r, a, rfl⟩
  · exact ep_if (b := false) (tp_test (ep_op (ep_var e) ep_nil0 (rd_neL0 (ns := [])))) (fun z => absurd z (by decide)) fun _ => ep_non
  · rw [List.concat_eq_append] at *
    have h1 : lastD (r ++ [a]) = .int a := by unfold lastD; rw [List.reverse_append]; rfl
    rw [h1]
    refine ep_if (b := true) ((tp_test (ep_op (ep_var e) ep_nil0 (rd_neL0 (ns := r ++ [a])))).is (by simp)) (fun _ => ep_op (y := .int (-1)) (ep_var e) (ep_un ep_int (ud_I rfl)) (rd_ixL ?_)) fun z => absurd z (by decide)
    rw [List.map_append]
    exact atI_last _ _
end
end TL
/-! Mirror5: k05 in plain Lean: the closed forms against the search. -/
namespace Q
open PySem TL
/-- the first of a range that passes -/
theorem head_filter {f : Int → Bool} {a b m : Int} (h1 : a ≤ m) (h2 : m < b) (hm : f m = true) (hl : ∀ x, a ≤ x → x < m → f x = false) : headD ((rng a b).filter f) = .int m := by
  have e : rng a b = rng a m ++ m :: rng (m + 1) b := by
    unfold rng
    have e1 : (b - a).toNat = (m - a).toNat + (1 + (b - (m + 1)).toNat) := by omega
    rw [e1, List.range_add, List.map_append, List.map_map]
    congr 1
    rw [Nat.add_comm 1, List.range_succ_eq_map, List.map_cons, List.map_map]
    congr 1
    · show a + (((m - a).toNat + 0 : Nat) : Int) = m
      omega
    · apply List.map_congr_left
      intro i _
      show a + (((m - a).toNat + (i + 1) : Nat) : Int) = m + 1 + (i : Int)
      omega
  have e2 : (rng a m).filter f = [] := by
    rw [List.filter_eq_nil_iff]
    intro x hx
    have := mem_rng.mp hx
    rw [hl x this.1 this.2]
    exact Bool.false_ne_true
  rw [e, List.filter_append, e2, List.nil_append, List.filter_cons_of_pos hm]
  rfl
theorem last_filter {f : Int → Bool} {a b m : Int} (h1 : a ≤ m) (h2 : m < b) (hm : f m = true) (hl : ∀ x, m < x → x < b → f x = false) : lastD ((rng a b).filter f) = .int m := by
  have e : rng a b = rng a m ++ [m] ++ rng (m + 1) b := by
    unfold rng
    have e1 : (b - a).toNat = (m - a).toNat + (1 + (b - (m + 1)).toNat) := by omega
    rw [e1, List.range_add, List.map_append, List.map_map, List.append_assoc]
    congr 1
    rw [Nat.add_comm 1, List.range_succ_eq_map, List.map_cons, List.map_map]
    show _ = m :: _
    congr 1
    · show a + (((m - a).toNat + 0 : Nat) : Int) = m
      omega
    · apply List.map_congr_left
      intro i _
      show a + (((m - a).toNat + (i + 1) : Nat) : Int) = m + 1 + (i : Int)
      omega
  have e2 : (rng (m + 1) b).filter f = [] := by
    rw [List.filter_eq_nil_iff]
    intro x hx
    have := mem_rng.mp hx
    rw [hl x (by omega) this.2]
    exact Bool.false_ne_true
  rw [e, List.filter_append, List.filter_append, e2, List.append_nil]
  unfold lastD
  rw [List.reverse_append, List.filter_cons_of_pos hm]
  rfl
theorem none_filter {f : Int → Bool} {a b : Int} (hl : ∀ x, a ≤ x → x < b → f x = false) : (rng a b).filter f = [] := by
  rw [List.filter_eq_nil_iff]
  intro x hx
  have := mem_rng.mp hx
  rw [hl x this.1 this.2]
  exact Bool.false_ne_true
/-- the smallest choir: closed form -/
theorem sf_head {m v : Int} (m0 : 0 ≤ m) (v0 : 0 ≤ v) (v1 : v ≤ 9) : sfD m v = headD ((rng (max 1 v) 25).filter fun s => posD (.int m) s v) := by
  have pos : ∀ s, posD (.int m) s v = decide (s ≤ m * (s - v)) := fun s => rfl
  by_cases h0 : m = 0 ∨ (m = 1 ∧ 0 < v)
  · rw [none_filter]
    · unfold sfD; rw [if_pos h0]; rfl
    · intro x hx _
      rw [pos]
      apply decide_eq_false
      rcases h0 with rfl | ⟨rfl, h⟩ <;> omega
  · unfold sfD
    rw [if_neg h0]
    by_cases h1 : 1 < m
    · rw [if_pos h1]
      have hk : 0 < m - 1 := by omega
      generalize hq : -v * m / (m - 1) = q
      have q1 : q * (m - 1) ≤ -v * m := by rw [← hq]; exact Int.ediv_mul_le _ (by omega)
      have q2 : -v * m < (q + 1) * (m - 1) := by
        rw [← hq]; exact Int.lt_ediv_add_one_mul_self _ hk
      have q3 : v ≤ -q := by
        have : q ≤ -v := by
          apply Classical.byContradiction
          intro z
          have z' : -v + 1 ≤ q := by omega
          have := Int.mul_le_mul_of_nonneg_right z' (Int.le_of_lt hk)
          have e : (-v + 1) * (m - 1) = -v * m + v + m - 1 := by
            rw [Int.add_mul, Int.mul_sub]; omega
          omega
        omega
      have q4 : -q ≤ 2 * v := by
        apply Classical.byContradiction
        intro z
        have z' : q + 1 ≤ -(2 * v) := by omega
        have := Int.mul_le_mul_of_nonneg_right z' (Int.le_of_lt hk)
        have e4 : -v * m = -(v * m) := Int.neg_mul _ _
        have e : -(2 * v) * (m - 1) = -(v * m) - (v * m) + 2 * v := by
          have e5 : 2 * v * m = 2 * (v * m) := Int.mul_assoc _ _ _
          rw [Int.mul_sub, Int.neg_mul, e5]; omega
        have e3 : v * 2 ≤ v * m := Int.mul_le_mul_of_nonneg_left (by omega) v0
        omega
      have key : ∀ s : Int, posD (.int m) s v = true ↔ -q ≤ s := fun s => by
        rw [pos, decide_eq_true_eq]
        have e : m * (s - v) = s + (s * (m - 1)) - v * m := by
          rw [Int.mul_sub, Int.mul_sub, Int.mul_comm m s, Int.mul_comm m v]; omega
        rw [e]
        constructor
        · intro h
          apply Classical.byContradiction
          intro z
          have z' : s ≤ -q - 1 := by omega
          have := Int.mul_le_mul_of_nonneg_right z' (Int.le_of_lt hk)
          have e2 : (-q - 1) * (m - 1) = -((q + 1) * (m - 1)) := by
            rw [show -q - 1 = -(q + 1) by omega, Int.neg_mul]
          have e3 : -v * m = -(v * m) := Int.neg_mul _ _
          omega
        · intro h
          have := Int.mul_le_mul_of_nonneg_right h (Int.le_of_lt hk)
          have e2 : -q * (m - 1) = -(q * (m - 1)) := Int.neg_mul _ _
          have e3 : -v * m = -(v * m) := Int.neg_mul _ _
          omega
      symm
      apply head_filter
      · omega
      · omega
      · rw [key]; omega
      · intro x hx1 hx2
        cases e : posD (.int m) x v with
        | false => rfl
        | true =>
          have := (key x).mp e
          omega
    · rw [if_neg h1]
      have m1 : m = 1 := by omega
      have hv : v = 0 := by omega
      subst m1 hv
      symm
      apply head_filter
      · decide
      · decide
      · decide
      · intro x h1 h2; omega
theorem fs_head {c b v : Int} {al : List Int} (hp : ValidP c al) (v0 : 0 ≤ v) (v1 : v ≤ 9) : fsD c b al v = headD ((rng (max 1 v) 25).filter fun s => posD (poorD c al b) s v) := by
  unfold fsD poorD
  by_cases h : wc c b al = []
  · rw [if_pos h, if_pos h]
    symm
    apply head_filter
    · omega
    · omega
    · rfl
    · intro x h1 h2; omega
  · rw [if_neg h, if_neg h]
    exact sf_head (wc_min hp h).1 v0 v1
theorem mv_last {c b s : Int} {al : List Int} (hp : ValidP c al) (s1 : 1 ≤ s) : mvD c al s b = lastD ((rng 0 (s + 1)).filter fun h => posD (poorD c al b) s h) := by
  unfold mvD poorD
  by_cases h : wc c b al = []
  · rw [if_pos h, if_pos h]
    symm
    apply last_filter
    · omega
    · omega
    · rfl
    · intro x h1 h2; omega
  · rw [if_neg h, if_neg h]
    have h0 := (wc_min hp h).1
    generalize minL (wc c b al) = m at h0
    have pos : ∀ x, posD (.int m) s x = decide (s ≤ m * (s - x)) := fun x => rfl
    by_cases h1 : 0 < m
    · rw [if_pos h1]
      generalize hq : -s / m = q
      have q1 : q * m ≤ -s := by rw [← hq]; exact Int.ediv_mul_le _ (by omega)
      have q2 : -s < (q + 1) * m := by rw [← hq]; exact Int.lt_ediv_add_one_mul_self _ h1
      have key : ∀ x : Int, posD (.int m) s x = true ↔ x ≤ s + q := fun x => by
        rw [pos, decide_eq_true_eq]
        constructor
        · intro h
          apply Classical.byContradiction
          intro z
          have z' : s - x ≤ -q - 1 := by omega
          have := Int.mul_le_mul_of_nonneg_left z' h0
          have e2 : m * (-q - 1) = -((q + 1) * m) := by
            rw [show -q - 1 = -(q + 1) by omega, Int.mul_neg, Int.mul_comm]
          omega
        · intro h
          have z' : -q ≤ s - x := by omega
          have := Int.mul_le_mul_of_nonneg_left z' h0
          have e2 : m * -q = -(q * m) := by rw [Int.mul_neg, Int.mul_comm]
          omega
      symm
      apply last_filter
      · apply Classical.byContradiction
        intro z
        have z' : q ≤ -s - 1 := by omega
        have := Int.mul_le_mul_of_nonneg_right (show q + 1 ≤ -s by omega) h0
        have e3 : s * 1 ≤ s * m := Int.mul_le_mul_of_nonneg_left (by omega) (by omega)
        have e2 : -s * m = -(s * m) := Int.neg_mul _ _
        omega
      · have : q * m < 0 := by omega
        have : q < 0 := by
          apply Classical.byContradiction
          intro z
          have := Int.mul_nonneg (show 0 ≤ q by omega) h0
          omega
        omega
      · rw [key]; omega
      · intro x h1 h2
        cases e : posD (.int m) s x with
        | false => rfl
        | true => have := (key x).mp e; omega
    · rw [if_neg h1]
      have m0 : m = 0 := by omega
      subst m0
      rw [none_filter]
      · rfl
      · intro x _ _
        rw [pos]
        exact decide_eq_false (by omega)
theorem pos_en {c b s h : Int} {al : List Int} (hp : ValidP c al) (hs : h ≤ s) : posD (poorD c al b) s h = en c al s b h := by
  unfold poorD en
  by_cases e : wc c b al = []
  · rw [if_pos e, e]; rfl
  · rw [if_neg e]
    have hm := minL_mem e
    have pos : posD (.int (minL (wc c b al))) s h = decide (s ≤ minL (wc c b al) * (s - h)) := rfl
    rw [pos, Bool.eq_iff_iff, decide_eq_true_eq, List.all_eq_true]
    constructor
    · intro k m hmem
      have := Int.mul_le_mul_of_nonneg_right (hm.2 m hmem) (show 0 ≤ s - h by omega)
      rw [decide_eq_true_eq, Int.mul_comm]
      omega
    · intro k
      have := of_decide_eq_true (k _ hm.1)
      rw [Int.mul_comm] at this
      exact this
theorem en_long {c b s h : Int} {al : List Int} (hb : c ≤ b) : en c al s b h = true := by
  unfold en
  rw [wc_nil.mpr hb]
  rfl
theorem lbS_spec {c s v : Int} {al : List Int} : ∀ {n : Nat} {a : Int}, (c - a).toNat = n → a ≤ c → lbS c al s v (rng a c) ≤ c ∧ a ≤ lbS c al s v (rng a c) ∧ en c al s (lbS c al s v (rng a c)) v = true ∧ ∀ x, a ≤ x → x < lbS c al s v (rng a c) → en c al s x v = false
  | 0, a, hn, ha => by
    have e : rng a c = [] := by
      rw [← List.length_eq_zero_iff, rng_len]; exact hn
    rw [e]
    show c ≤ c ∧ a ≤ c ∧ en c al s c v = true ∧ _
    exact ⟨Int.le_refl _, ha, en_long (Int.le_refl _), fun x h1 h2 => absurd h2 (by show ¬ x < c; omega)⟩
  | n + 1, a, hn, ha => by
    have e : rng a c = a :: rng (a + 1) c := by
      unfold rng
      rw [show (c - a).toNat = (c - (a + 1)).toNat + 1 by omega, List.range_succ_eq_map, List.map_cons, List.map_map]
      congr 1
      · show a + ((0 : Nat) : Int) = a; omega
      · apply List.map_congr_left
        intro i _
        show a + ((i + 1 : Nat) : Int) = a + 1 + (i : Int)
        omega
    rw [e]
    cases h : en c al s a v with
    | true =>
      have e2 : lbS c al s v (a :: rng (a + 1) c) = a := by
        show (if en c al s a v = true then a else _) = a
        rw [if_pos h]
      rw [e2]
      exact ⟨ha, Int.le_refl _, h, fun x h1 h2 => absurd h2 (by omega)⟩
    | false =>
      have e2 : lbS c al s v (a :: rng (a + 1) c) = lbS c al s v (rng (a + 1) c) := by
        show (if en c al s a v = true then a else _) = _
        rw [if_neg (by rw [h]; exact Bool.false_ne_true)]
      rw [e2]
      obtain ⟨i1, i2, i3, i4⟩ := lbS_spec (c := c) (al := al) (s := s) (v := v) (n := n) (a := a + 1) (by omega) (by omega)
      refine ⟨i1, by omega, i3, fun x h1 h2 => ?_⟩
      by_cases ex : x = a
      · subst ex; exact h
      · exact i4 x (by omega) h2
theorem lb_spec {c s v : Int} {al : List Int} (hp : ValidP c al) : 1 ≤ lb c al s v ∧ lb c al s v ≤ c ∧ en c al s (lb c al s v) v = true ∧ ∀ x, 1 ≤ x → x < lb c al s v → en c al s x v = false := by
  obtain ⟨a, b, d, e⟩ := lbS_spec (c := c) (al := al) (s := s) (v := v) (n := (c - 1).toNat) (a := 1) rfl hp.c1
  exact ⟨b, a, d, e⟩
theorem lb_first {c s v : Int} {al : List Int} (hp : ValidP c al) (hs : v ≤ s) : headD ((rng 1 61).filter fun b => posD (poorD c al b) s v) = .int (lb c al s v) := by
  obtain ⟨a, b, d, e⟩ := lb_spec (s := s) (v := v) hp
  have := hp.c2
  apply head_filter
  · exact a
  · omega
  · rw [pos_en hp hs]; exact d
  · intro x h1 h2
    rw [pos_en hp hs]; exact e x h1 h2
end Q
namespace Q
open PySem TL
theorem poor_or {c b : Int} {al : List Int} (hp : ValidP c al) : poorD c al b = .none ∨ ∃ m : Int, poorD c al b = .int m ∧ 0 ≤ m ∧ m ≤ 60 := by
  unfold poorD
  by_cases e : wc c b al = []
  · rw [if_pos e]; exact .inl rfl
  · rw [if_neg e]
    have h := wc_min hp e
    have := hp.c2
    exact .inr ⟨_, rfl, h.1, by omega⟩
theorem nt_head {n : Nat} {L : List Int} : NT (n + 1) (headD L) := by cases L <;> exact trivial
theorem nt_last {n : Nat} {L : List Int} : NT (n + 1) (lastD L) := nt_head
theorem head_at {L : List Int} {x : Int} (h : headD L = .int x) : L2.atI (L.map PyData.int) 0 = some (.int x) := by
  cases L with
  | nil => cases h
  | cons a r => cases h; exact L2.atI_nat (j := 0) rfl
theorem song8 : ValidP 8 [0, 1, 4, 5, 6, 7] := ⟨by decide, by decide, by decide, by decide, by decide⟩
theorem song4 : ValidP 4 [0, 1, 2, 3] := ⟨by decide, by decide, by decide, by decide, by decide⟩
theorem song3 : ValidP 3 [] := ⟨by decide, by decide, by decide, by decide, by decide⟩
end Q
namespace TL
open PySem L2
section
variable {K : PySem.W.Frag}
theorem rd_neLI {l m : List Int} : RD K (rNeD K) (.list (l.map .int)) (.list (m.map .int)) (.bool (!decide (l = m))) := rd_neE sh_lI sh_lI (eqv_lst eqv_int l m)
theorem rd_eqLI {l m : List Int} : RD K (rEqD K) (.list (l.map .int)) (.list (m.map .int)) (.bool (decide (l = m))) := rd_eqE sh_lI sh_lI (eqv_lst eqv_int l m)
theorem rd_neDI {l m : Int} : RD K (rNeD K) (.int l) (.int m) (.bool (!decide (l = m))) := rd_neE (n := 0) (m := 0) sh_int sh_int (eqv_int l m)
theorem rd_eqDI {l m : Int} : RD K (rEqD K) (.int l) (.int m) (.bool (decide (l = m))) := rd_eqE (n := 0) (m := 0) sh_int sh_int (eqv_int l m)
end
end TL
/-! TL11: sorted of a tuple of ints (the library has lists). -/
namespace TLS
open PySem PySem.Spec PyProof.Rows L2
section
variable {P : Program} {w : World} {A : Around} {E : Value → Shared → Prop} {s : Shared}
/-- what the tuple at l holds, in a new list -/
abbrev heapC (h : Heap) (vs : List Value) : Heap := (h.push (seqObj "list" #[] 0)).update h.objs.size (Obj.mapSeq (· ++ vs.toArray))
theorem collect_tup {l : Addr} {vs : List Value} {Q : List Value → Shared → Prop} (hl : s.heap.IsTuple l vs.toArray) (hz : vs.length ≤ sizeLine) (hq : Q vs { s with heap := heapC s.heap vs }) : wpAny (model P w) A (collect (.ref l)) Q E s := by
  obtain ⟨o, ho, hc, n, hd⟩ := id hl
  unfold collect; refine wpAny_bind (wpAny_runValue (codeAny_builtin entry_proto_collect' ?_))
  show wpAny _ _ (do again (.builtin "list.__iadd__" ⟨[← newList [], .ref l], []⟩)) _ _ s; refine wpAny_bind (wpAny_newList (wpAny_pure ⟨Code.quiet_builtin _ (by decide +kernel), codeAny_builtin entry_list_iadd' ?_⟩))
  show wpAny _ _ (Builtin.List.listExtendWith (.ref s.heap.objs.size) (.ref l) (.ref s.heap.objs.size)) _ _ { s with heap := s.heap.push (seqObj "list" #[] 0) }; unfold Builtin.List.listExtendWith
  have hk : (s.heap.push (seqObj "list" #[] 0)).get? l = some o := Heap.get?_push_of_some _ ho
  refine wpAny_bind (wpAny_typeOf (T := "tuple") ⟨o, hk, hc⟩ ?_); have ht : (Value.type "tuple" == Value.type "tuple") = true := by rfl
  rw [if_pos (by rw [ht]; simp)]; refine wpAny_bind (listItems_at hk hd ?_); refine wpAny_bind (listItems_at (xs := #[]) (n := 0) (Heap.get?_push_size _ rfl) rfl ?_)
  rw [if_neg (by simp)]; refine wpAny_bind (listUpdate_at (xs := #[]) (n := 0) (Heap.get?_push_size _ rfl) rfl ?_ (Nat.zero_le _) (by show (#[] ++ vs.toArray).size ≤ sizeLine + 1; simp only [Array.size_append, List.size_toArray, List.length_nil]; omega))
  refine wpAny_pure ?_; show wpAny (model P w) A (do
      let o ← load s.heap.objs.size
      match o.data with
      | .seq xs _ => pure xs.toList
      | _ => unsupported "internal:collect") Q E { s with heap := heapC s.heap vs }
  refine wpAny_bind (wpAny_load (get?_update_seq (Heap.get?_push_size _ rfl) _) ?_); show wpAny _ _ (pure ((#[] : Array Value) ++ vs.toArray).toList) Q E _
  rw [show ((#[] : Array Value) ++ vs.toArray).toList = vs by simp]; exact wpAny_pure hq
theorem sorted_tup {l : Addr} {vs : List Value} {ns : List Int} {Q : Value → Shared → Prop} (hl : s.heap.IsTuple l vs.toArray) (hI : IntsAre vs ns) (h64 : vs.length < 64)
    (hq : ∀ (out : Array Value) (ns' : List Int), IntsAre out.toList ns' → ns'.Perm ns → ns'.Pairwise (· ≤ ·) → Q (.ref (s.heap.objs.size + 1)) { s with heap := sortedAll s.heap vs out }) : wpAny (model P w) A (call (.builtin "sorted") [.ref l]) Q E s := by
  have hz : vs.length ≤ sizeLine := by rw [sizeLine_eq]; omega
  refine Calls.call_function_entry kind_sorted plain_sorted entry_sorted (args_sorted1 _) ?_; unfold Builtin.«sorted»
  refine wpAny_bind (m := checkCount "sorted" 1 1 _) (wpAny_pure ?_); refine wpAny_bind (collect_tup hl hz ?_); refine wpAny_bind (wpAny_newList ?_ hz)
  have hsz : (heapC s.heap vs).objs.size = s.heap.objs.size + 1 := by rw [Heap.size_update, size_push']
  have hoL : ((heapC s.heap vs).push (seqObj "list" vs.toArray 0)).get? (s.heap.objs.size + 1) = some (seqObj "list" vs.toArray 0) := by rw [← hsz]; exact Heap.get?_push_size _ rfl
  show wpAny _ _ _ _ _ { s with heap := (heapC s.heap vs).push (seqObj "list" vs.toArray 0) }; rw [hsz]
  refine wpAny_bind (wpAny_holding (wpAny_call_entry slot_list_sort ⟨_, hoL, rfl⟩ entry_list_sort (list_sort_tree hoL hI h64 fun out ns' a1 a2 a3 => ⟨_, rfl, ?_⟩) (args_list_sort _))); exact wpAny_pure ⟨_, rfl, hq out ns' a1 a2 a3⟩
end
end TLS
namespace TL
open PySem L2
open Evl (Ex ex_l ex_t)
section
variable {X : Cx}
def rSortTup (K : PySem.W.Frag) : List V → Hp → VK → Prop := fun vs H Q => ∃ (a : Addr) (ns : List Int), vs = [V.ref a] ∧ SqT K H a (ns.map V.int) ∧ ns.length < 64 ∧
  ∀ (ns' : List Int) (p : Addr), ns'.Perm ns → ns'.Pairwise (· ≤ ·) → H p = none → Q (.ref p) (upd H p (.lst (ns'.map V.int)))
theorem cr_sortTup : CallR X (.builtin "sorted") (rSortTup X.K) := by
  intro pins s σ H vs us Q I r h
  obtain ⟨a, ns, rfl, hs, h64, q⟩ := h
  obtain ⟨its, rv, hl, _⟩ := I.tuple hs
  have hi := rv.ints
  rw [Vals.ref1 r]; refine TLS.sorted_tup hl hi (by rw [hi.length]; exact h64) fun out ns' h1 h2 h3 => ?_
  obtain ⟨ep, he⟩ := PyProof.Rows.sortedAll_at s.heap its out
  have hlen : (ns'.map V.int).length ≤ sizeLine := by rw [List.length_map, h2.length_eq]; exact small64 h64
  exact ⟨.ref _, upd H (s.heap.objs.size + 1) (.lst (ns'.map V.int)), I.laid (t' := s.toks) (fun _ _ => PyProof.Rows.sortedAll_old) (Nat.le_succ _) ⟨hlen, out.toList, ep, vals_of_ints h1, he⟩, rfl, q ns' _ h2 h3 (I.hok.fresh (Nat.le_succ _))⟩
theorem kSortedT (K : PySem.W.Frag) (h : X.K = K := by rfl) : CallR X (.builtin "sorted") (rSortTup K) := by subst h; exact cr_sortTup
theorem kSortedL (K : PySem.W.Frag) (h : X.K = K := by rfl) : CallR X (.builtin "sorted") (rSortedI K) := by subst h; exact cr_sortedI
end
end TL
/-! TL12: set of a list of ints (the library has tuples); sorted(set(..)). -/
namespace TLS
open PySem PySem.Spec PyProof.Rows L2
section
variable {P : Program} {w : World} {A : Around} {E : Value → Shared → Prop} {s : Shared}
abbrev noSet (w : World) : Obj := { cls := .type "set", dict := none, data := .set #[] 0 (.fresh 0 0 (!w.params.followText "set-order")) }
abbrev SetGot (w : World) (s : Shared) (ns : List Int) (r : Value) (s₂ : Shared) : Prop := r = .none ∧ ∃ (h' : Heap) (tk c : Nat), s₂ = { s with heap := h', toks := tk } ∧ SetR w h' s.heap.objs.size (fun j => decide (j ∈ ns)) c ∧ c ≤ ns.length ∧ ∀ b o, s.heap.get? b = some o → h'.get? b = some o
theorem call_set_listI {l : Addr} {items : Array Value} (ns : List Int) {Q : Value → Shared → Prop} (hh : A.handled = none) (hl : s.heap.IsList l items) (hit : IntsAre items.toList ns) (hb : ns.length + 1 < scanBound)
    (hq : ∀ (h' : Heap) (tk c : Nat), SetR w h' s.heap.objs.size (fun j => decide (j ∈ ns)) c → c ≤ ns.length → (∀ b o, s.heap.get? b = some o → h'.get? b = some o) → Q (.ref s.heap.objs.size) { s with heap := h', toks := tk }) : wpAny (model P w) A (call (.type "set") [.ref l]) Q E s := by
  have hisz : items.size = ns.length := by
    have q := IntsAre.length hit; rw [Array.length_toList] at q; exact q
  obtain ⟨c, tl, hmro⟩ := F.called_set.mro
  have hmade := F.called_set.made; have hsub := F.called_set.sub
  refine wpAny_call (codeAny_of_tree ?_); show wpAny _ _ (callAny (.type "set") _) _ _ _
  refine wpAny_pure ⟨Code.quiet_builtin _ (by decide +kernel), codeAny_builtin F.entry_type_call ?_⟩; rw [Around.under_plain (weight_type_call_type "set" [.ref l] []) rfl]
  have h1 := F.called_set.notType; have h2 := F.called_set.canCreate; have hct := F.typeCall_set_1 (.ref l)
  repeat (any_goals (first | assumption | wp_step))
  refine codeAny_mono (code_set_led1 (.ref l) (E := E) (Q₁ := fun obj s₁ => obj = .ref s.heap.objs.size ∧ s₁ = { s with heap := s.heap.push (noSet w) }) ⟨rfl, rfl⟩) fun r s₁ hr => ?_
  cases r with
  | error e => exact hr
  | ok fl =>
    cases fl with
    | ret obj =>
      obtain ⟨rfl, rfl⟩ := hr
      have hS : (s.heap.push (noSet w)).get? s.heap.objs.size = some (noSet w) := Heap.get?_push_size _ rfl
      have hT : Shared.TypeIs { s with heap := s.heap.push (noSet w) } (.ref s.heap.objs.size) "set" := ⟨_, hS, rfl⟩
      have hli := F.called_set.init.lookup; have hbi := F.called_set.init.bind (.ref s.heap.objs.size)
      repeat (any_goals (first | assumption | wp_step))
      refine codeAny_mono (codeAny_call_builtin (R := wants (SetGot w s ns) E) F.called_set.init.plain F.entry_set_init (check_set_init_1 hT ?_)) fun r₂ s₂ hr₂ => ?_
      · obtain ⟨⟨ocls, odict, odata, oslots⟩, hol, hcl, nl, hdl⟩ := hl
        simp only at hcl hdl; subst hcl; subst hdl
        have hol' : (s.heap.push (noSet w)).get? l = some { cls := .type "list", dict := odict, data := .seq items nl, slots := oslots } := Heap.get?_push_of_some _ hol
        have hl1 : (s.heap.push (noSet w)).IsList l items := ⟨_, hol', rfl, nl, rfl⟩
        have hsls := F.sub_list_set; have hslf := F.sub_list_frozenset; have hne : (Value.type "list" == Value.type "dict") = false := by decide
        unfold Builtin.«set.__init__» noKeywords Builtin.Frozenset.updateFrom; generalize hPI : pyIter = PI; wp_walk; subst hPI
        refine wpAny_pyIter_list hl1 ?_; refine wpAny_bind (wpAny_runValue ?_)
        have hlS : l < s.heap.objs.size := Heap.lt_size hol
        have hh3 : A.in1.in1.in1.handled = none := by simp [hh]
        have hz1 : (s.heap.push (noSet w)).objs.size = s.heap.objs.size + 1 := Heap.size_push ..
        have hneI : l ≠ (s.heap.push (noSet w)).objs.size := by rw [Heap.size_push]; exact Nat.ne_of_lt (Nat.lt_succ_of_lt hlS)
        have hSf : s.heap.objs.size ∉ [(s.heap.push (noSet w)).objs.size, l] := by
          rw [Heap.size_push]; simp only [List.mem_cons, List.mem_singleton, List.not_mem_nil, or_false, not_or]; exact ⟨Nat.ne_of_lt (Nat.lt_succ_self _), Nat.ne_of_gt hlS⟩
        have hval : ∀ (i : Nat) (v : Value), items[i]? = some v → ∃ k t, ns[i]? = some k ∧ v = .int k t := fun i v hv => by
          have hi : i < ns.length := by rw [← hisz]; exact (Array.getElem?_eq_some_iff.mp hv).1
          obtain ⟨t, e⟩ := PyProof.Rows.IntsAre.int_at hit i v (by rw [Array.getElem?_toList]; exact hv)
          refine ⟨ns[i], t, List.getElem?_eq_getElem hi, ?_⟩; rw [e, List.getD_eq_getElem?_getD, List.getElem?_eq_getElem hi] <;> rfl
        refine set_update_ints ((Walks.list hh3 _ l hneI items).toS) s.heap.objs.size hSf ns hisz hb hval (items.size - 0) 0 _ (by omega) (Nat.zero_le _) ⟨⟨_, Heap.get?_push_size _ rfl, rfl, rfl⟩, ?hL⟩ ?hS0 ?hR
        case hL => exact ⟨_, Heap.get?_push_of_some _ hol', rfl, nl, rfl⟩
        case hS0 => exact ⟨0, Nat.le_refl 0, setR_new_at (Heap.get?_push_of_some _ hS)⟩
        case hR =>
          intro s' c' hm hc' hS'
          obtain ⟨h', g2, d', tk', os'⟩ := s'
          have eg : g2 = s.gens := hm.gens
          have ed : d' = s.drawn := hm.drawn
          have eo : os' = s.os := hm.os
          subst eg ed eo
          show wpAny _ _ _ _ _ _; refine wpAny_pure ?_; show wpAny _ _ (ret Value.none) _ _ _
          rw [hisz] at hc'; refine wpAny_pure ⟨rfl, h', tk', c', rfl, hS', hc', fun b o e => ?_⟩
          have hb0 : b < s.heap.objs.size := Heap.lt_size e
          have hb2 : b ≠ (s.heap.push (noSet w)).objs.size := fun z => absurd hb0 (by rw [z, hz1]; exact Nat.not_lt_of_gt (Nat.lt_succ_self _))
          exact hm.heap b o (by simp only [List.mem_cons, List.mem_singleton, List.not_mem_nil, or_false, not_or]; exact ⟨Nat.ne_of_lt hb0, hb2⟩) (Heap.get?_push_of_some _ (Heap.get?_push_of_some _ e))
      · cases r₂ with
        | error e => exact hr₂
        | ok fl₂ =>
          cases fl₂ with
          | ret r =>
            obtain ⟨rfl, h', tk, c', rfl, hS', hc', hk'⟩ := hr₂
            repeat (any_goals (first | assumption | wp_step))
            exact hq _ _ _ hS' hc' hk'
          | _ => exact hr₂.elim
    | _ => exact hr.elim
end
end TLS
/-! TL13: sets and sorted of ints by data. -/
namespace TL
open PySem L2
open Evl (Ex ex_l ex_t)
section
variable {X : Cx}
/-- set(..) of ints, of a list or a tuple -/
def rSetI (K : PySem.W.Frag) (w : World) : List V → Hp → VK → Prop := fun xs H Q => ∃ (l : Addr) (ns : List Int), xs = [.ref l] ∧ (SqL K H l (ns.map V.int) ∨ SqT K H l (ns.map V.int)) ∧ ns.length < 64 ∧
  ∀ (a : Addr) (n : Nat), n ≤ ns.length → H a = none → Q (.ref a) (upd H a (SetO w a (fun j => decide (j ∈ ns)) n))
theorem cr_setI (hc : X.calm = true) : CallR X (.type "set") (rSetI X.K X.w) := by
  intro pins s σ H vs us Q I r h
  obtain ⟨l, ns, rfl, hs, h64, q⟩ := h
  rw [Vals.ref1 r]
  have hb : ns.length + 1 < scanBound := Nat.lt_trans (Nat.succ_lt_succ h64) (by decide)
  have fin : ∀ (h' : Heap) (tk c : Nat), SetR X.w h' s.heap.objs.size (fun j => decide (j ∈ ns)) c → c ≤ ns.length → (∀ b o, s.heap.get? b = some o → h'.get? b = some o) → ∃ v H', Inv X pins σ H' { s with heap := h', toks := tk } ∧ v = V.ref s.heap.objs.size ∧ Q v H' := fun h' tk c R hl k =>
    ⟨_, upd H s.heap.objs.size (SetO X.w s.heap.objs.size (fun j => decide (j ∈ ns)) c), I.laid (t' := tk) k (Nat.le_refl _) (setO_new R), rfl, q _ c hl (I.hok.fresh (Nat.le_refl _))⟩
  rcases hs with hs | hs
  · obtain ⟨its, rv, hl, _⟩ := I.list hs
    refine TLS.call_set_listI ns (I.ok.hd hc) hl.isList (by simpa using rv.ints) hb fun h' tk c R hl k => ?_
    obtain ⟨v, H', I', e, q'⟩ := fin h' tk c R hl k
    subst e
    exact ⟨V.ref s.heap.objs.size, H', I', rfl, q'⟩
  · obtain ⟨its, rv, hl, _⟩ := I.tuple hs
    refine call_set_tupI ns (I.ok.hd hc) hl (by simpa using rv.ints) hb fun h' tk c R hl k => ?_
    obtain ⟨v, H', I', e, q'⟩ := fin h' tk c R hl k
    subst e
    exact ⟨V.ref s.heap.objs.size, H', I', rfl, q'⟩
theorem kSetI (K : PySem.W.Frag) (w : World) (hc : X.calm = true := by rfl) (h : X.K = K := by rfl) (hw : X.w = w := by rfl) : CallR X (.type "set") (rSetI K w) := by subst h hw; exact cr_setI hc
theorem kSortedSet (w : World) (hc : X.calm = true := by rfl) (hw : X.w = w := by rfl) : CallR X (.builtin "sorted") (rSortedSet w) := by subst hw; exact cr_sortedSet hc
end
/-- ints in order, each once -/
def insI (a : Int) : List Int → List Int
  | [] => [a]
  | b :: r => if a < b then a :: b :: r else if a = b then b :: r else b :: insI a r
def setI : List Int → List Int
  | [] => []
  | a :: r => insI a (setI r)
theorem mem_insI {a x : Int} : ∀ {l : List Int}, x ∈ insI a l ↔ x = a ∨ x ∈ l
  | [] => by simp [insI]
  | b :: r => by
    unfold insI
    split
    · simp
    · split
      · rename_i h; subst h; simp
      · rw [List.mem_cons, mem_insI (l := r), List.mem_cons]
        constructor
        · rintro (h | h | h) <;> simp [h]
        · rintro (h | h | h) <;> simp [h]
theorem insI_asc {a : Int} : ∀ {l : List Int}, l.Pairwise (· < ·) → (insI a l).Pairwise (· < ·)
  | [], _ => List.pairwise_singleton _ _
  | b :: r, h => by
    obtain ⟨h1, h2⟩ := List.pairwise_cons.mp h
    unfold insI
    split
    · rename_i hab
      refine List.pairwise_cons.mpr ⟨fun x hx => ?_, h⟩
      rcases List.mem_cons.mp hx with e | hx
      · rw [e]; exact hab
      · exact Int.lt_trans hab (h1 x hx)
    · split
      · exact h
      · rename_i n1 n2
        refine List.pairwise_cons.mpr ⟨fun x hx => ?_, insI_asc h2⟩
        rcases mem_insI.mp hx with e | hx
        · rw [e]; omega
        · exact h1 x hx
theorem mem_setI {x : Int} : ∀ {l : List Int}, x ∈ setI l ↔ x ∈ l
  | [] => Iff.rfl
  | a :: r => by
    show x ∈ insI a (setI r) ↔ _
    rw [mem_insI, mem_setI (l := r), List.mem_cons]
theorem setI_asc : ∀ {l : List Int}, (setI l).Pairwise (· < ·)
  | [] => .nil
  | a :: r => insI_asc setI_asc
/-- two rising lists of the same members are one -/
theorem asc_eq : ∀ {l m : List Int}, l.Pairwise (· < ·) → m.Pairwise (· < ·) → (∀ x, x ∈ l ↔ x ∈ m) → l = m
  | [], [], _, _, _ => rfl
  | [], b :: m, _, _, h => nomatch ((h b).mpr List.mem_cons_self)
  | a :: l, [], _, _, h => nomatch ((h a).mp List.mem_cons_self)
  | a :: l, b :: m, h1, h2, h => by
    obtain ⟨p1, p2⟩ := List.pairwise_cons.mp h1
    obtain ⟨q1, q2⟩ := List.pairwise_cons.mp h2
    have e : a = b := by
      have x1 := (h a).mp List.mem_cons_self
      have x2 := (h b).mpr List.mem_cons_self
      rcases List.mem_cons.mp x1 with e | x1
      · exact e
      · rcases List.mem_cons.mp x2 with e | x2
        · exact e.symm
        · have := p1 b x2; have := q1 a x1; omega
    subst e
    rw [asc_eq p2 q2 fun x => ?_]
    constructor
    · intro hx
      rcases List.mem_cons.mp ((h x).mp (List.mem_cons_of_mem _ hx)) with e | hx'
      · have := p1 x hx; omega
      · exact hx'
    · intro hx
      rcases List.mem_cons.mp ((h x).mpr (List.mem_cons_of_mem _ hx)) with e | hx'
      · have := q1 x hx; omega
      · exact hx'
/-- ints in order -/
def insS (a : Int) : List Int → List Int
  | [] => [a]
  | b :: r => if a ≤ b then a :: b :: r else b :: insS a r
def sortI : List Int → List Int
  | [] => []
  | a :: r => insS a (sortI r)
theorem insS_perm {a : Int} : ∀ {l : List Int}, (insS a l).Perm (a :: l)
  | [] => .refl _
  | b :: r => by
    unfold insS
    split
    · exact .refl _
    · exact (insS_perm.cons b).trans (.swap a b r)
theorem sortI_perm : ∀ {l : List Int}, (sortI l).Perm l
  | [] => .refl _
  | a :: r => insS_perm.trans (sortI_perm.cons a)
theorem insS_asc {a : Int} : ∀ {l : List Int}, l.Pairwise (· ≤ ·) → (insS a l).Pairwise (· ≤ ·)
  | [], _ => List.pairwise_singleton _ _
  | b :: r, h => by
    obtain ⟨h1, h2⟩ := List.pairwise_cons.mp h
    unfold insS
    split
    · rename_i hab
      refine List.pairwise_cons.mpr ⟨fun x hx => ?_, h⟩
      rcases List.mem_cons.mp hx with e | hx
      · rw [e]; exact hab
      · exact Int.le_trans hab (h1 x hx)
    · rename_i hab
      refine List.pairwise_cons.mpr ⟨fun x hx => ?_, insS_asc h2⟩
      rcases List.mem_cons.mp (insS_perm.mem_iff.mp hx) with e | hx
      · rw [e]; omega
      · exact h1 x hx
theorem sortI_asc : ∀ {l : List Int}, (sortI l).Pairwise (· ≤ ·)
  | [] => .nil
  | a :: r => insS_asc sortI_asc
theorem le_eq : ∀ {l m : List Int}, l.Pairwise (· ≤ ·) → m.Pairwise (· ≤ ·) → l.Perm m → l = m
  | [], m, _, _, h => (List.nil_perm.mp h).symm ▸ rfl
  | a :: l, [], _, _, h => nomatch (h.mem_iff.mp (List.mem_cons_self (a := a) (l := l)))
  | a :: l, b :: m, h1, h2, h => by
    obtain ⟨p1, p2⟩ := List.pairwise_cons.mp h1
    obtain ⟨q1, q2⟩ := List.pairwise_cons.mp h2
    have e : a = b := by
      have x1 : a ∈ b :: m := h.mem_iff.mp List.mem_cons_self
      have x2 : b ∈ a :: l := h.mem_iff.mpr List.mem_cons_self
      rcases List.mem_cons.mp x1 with e | x1
      · exact e
      · rcases List.mem_cons.mp x2 with e | x2
        · exact e.symm
        · have := p1 b x2; have := q1 a x1; omega
    subst e
    rw [le_eq p2 q2 h.cons_inv]
section
variable {K : PySem.W.Frag} {w : World} {B : Bs} {Γ : List Sl} {ta : TA} {te : TE} {ns : List Int} {x : PyData}
theorem co_sortT (h : ns.length < 64) : CO K (rSortTup K) [.tuple (ns.map .int)] ((sortI ns).map .int) := fun B Γ σ F H vs I hv Q q => by
  cases hv with
  | cons h1 h2 =>
    cases h2
    cases h1 with
    | @tup a xs _ h3 hz h4 =>
      refine ⟨a, ns, rfl, by rw [← h4.ints_inv]; exact ex_t I.ex h3, h, fun ns' p pm as hp => ?_⟩
      have e : ns' = sortI ns := le_eq as sortI_asc (pm.trans sortI_perm.symm)
      subst e
      exact q p _ (I.pushL hp (by rw [List.length_map, sortI_perm.length_eq]; exact Nat.le_of_lt (Nat.lt_trans h (by decide))) (ints_dq _))
theorem co_sortL (h : ns.length ≤ wee) : CO K (rSortedI K) [.list (ns.map .int)] ((sortI ns).map .int) := fun B Γ σ F H vs I hv Q q => by
  cases hv with
  | cons h1 h2 =>
    cases h2
    cases h1 with
    | @lst a xs _ h3 hz h4 =>
      refine ⟨a, ns, rfl, by rw [← h4.ints_inv]; exact ex_l I.ex h3, fun ns' p pm as hp => ?_⟩
      have e : ns' = sortI ns := le_eq as sortI_asc (pm.trans sortI_perm.symm)
      subst e
      exact q p _ (I.pushL hp (by rw [List.length_map, sortI_perm.length_eq]; exact h) (ints_dq _))
end
end TL
namespace TL
open PySem L2
open Evl (Ex ex_l ex_t)
section
variable {K : PySem.W.Frag} {w : World} {B : Bs} {Γ : List Sl} {ta : TA} {te : TE} {ns : List Int} {x : PyData}
/-- sorted(set(..)) of ints -/
theorem eo_sset (h : EP te Γ (Da K x)) (hx : x = .list (ns.map .int) ∨ x = .tuple (ns.map .int)) (hn : ns.length < 64) : EO (tCB (rSortedSet w) (tCons (tCB (rSetI K w) (tCons te tNil)) tNil)) Γ (oL K) ((setI ns).map .int) := fun B σ F H I Q q => by
  refine h B σ F H I _ fun Γ1 s1 v F1 H1 ⟨a, b⟩ I1 e1 => ?_
  subst a b
  obtain ⟨v', ev, hv⟩ := Ok.head I1
  cases ev
  have go : ∀ {l : Addr}, v = .ref l → (SqL K H1 l (ns.map V.int) ∨ SqT K H1 l (ns.map V.int)) → rSetI K w [v] H1 fun x H2 => rSortedSet w [x] H2 Q := fun {l} ev hs => by
    subst ev
    refine ⟨l, ns, rfl, hs, hn, fun p n hl hp => ⟨p, _, n, rfl, upd_same, Nat.lt_of_le_of_lt hl hn, fun ns' p2 as hm hl' hp2 => ?_⟩⟩
    have e : ns' = setI ns := asc_eq as setI_asc fun y => by rw [hm, mem_setI]; simp
    subst e
    have I2 := (Ok.pop I1).alloc (o := SetO w p (fun j => decide (j ∈ ns)) n) hp
    exact q _ _ _ _ _ ⟨rfl, p2, rfl⟩ (I2.pushL hp2 (by rw [List.length_map, hl']; exact Nat.le_of_lt (Nat.lt_trans (Nat.lt_of_le_of_lt hl hn) (by decide))) (ints_dq _)) (e1.trans (Ex.new ((Ok.pop I1).nF hp)))
  rcases hx with rfl | rfl
  · cases hv with
    | @lst a xs _ h3 hz h4 => exact go rfl (.inl (by rw [← h4.ints_inv]; exact ex_l I1.ex h3))
  · cases hv with
    | @tup a xs _ h3 hz h4 => exact go rfl (.inr (by rw [← h4.ints_inv]; exact ex_t I1.ex h3))
end
end TL
/-! TL14: three names at once. -/
namespace TL
open PySem L2
open Evl (Ex ex_l ex_t)
section
variable {K : PySem.W.Frag} {B : Bs} {Γ : List Sl} {s : Sl} {ta : TE} {tr : TA} {u : TS} {D : AD} {i j l : Nat} {k : List Sl → List Sl → Prop}
theorem q_par3 {ta : TA} (h : A ta Γ fun Γ1 ss => ∃ a b c, ss = [a, b, c] ∧ S B u (((Γ1.set i a).set j b).set l c) D) : S B (tSeq (tPar3 i j l ta) u) Γ D := fun σ F H I D' hn hr hb hc =>
  h B σ F H I _ fun Γ1 ss vs F1 H1 ⟨a, b, c, e, m⟩ n I1 e1 => by
    subst e
    match vs, n with
    | [x, y, z], _ =>
      have I2 : Ok B (b :: c :: Γ1.set i a) (some y :: some z :: σ.set i (some x)) F1 H1 := Ok.store (i := i + 2) (show Ok B (a :: b :: c :: Γ1) (some x :: some y :: some z :: σ) F1 H1 from I1)
      have I3 : Ok B (c :: (Γ1.set i a).set j b) (some z :: (σ.set i (some x)).set j (some y)) F1 H1 := Ok.store (i := j + 1) I2
      exact ⟨x, y, z, rfl, m _ F1 H1 (Ok.store (i := l) I3) D' (fun a b c d p q r => hn a b c d p q (e1.trans r)) (fun a b c d f g p q r => hr a b c d f g p q (e1.trans r)) (fun a b c d p q r => hb a b c d p q (e1.trans r)) (fun a b c d p q r => hc a b c d p q (e1.trans r))⟩
theorem a_consP (h : EP ta Γ s) (hk : A tr Γ fun Γ2 ss => k Γ2 (s :: ss)) : A (tCons ta tr) Γ k := a_cons (h.to hk)
theorem a_consO {α : Type} {o : Ow α} {a : α} (h : EO ta Γ o a) (hk : ∀ p, A tr Γ fun Γ2 ss => k Γ2 (.own p o a :: ss)) : A (tCons ta tr) Γ k := a_cons (h.imp fun Γ' s ⟨e, p, e2⟩ => by subst e e2; exact hk p)
end
end TL
/-! TL15: an object of one's own, read as if it stood still; two names at once, whatever their things. -/
namespace TL
open PySem L2
open Evl (Ex ex_l ex_t)
section
variable {K : PySem.W.Frag} {B : Bs} {Γ Γd : List Sl} {σ : St} {F H H' : Hp} {s : Sl} {te : TE} {tt : TT} {tr : TA} {u : TS} {D : AD} {i j : Nat} {d : PyData} {ds : List PyData} {b : Bool}
theorem Ok.keep (h : Ok B Γ σ F H) (hk : ∀ q o, H q = some o → H' q = some o) : Ok B Γ σ F H' := by
  obtain ⟨L, h⟩ := h
  refine ⟨L, h.sl.frame (Ex.refl F) (fun q z => ?_), h.nd, h.fz, h.ex.trans hk, h.bF, h.bG, fun q o e n => hk q o (h.bK q o e n), fun q o e => ?_, h.bO⟩
  · obtain ⟨o, e⟩ := h.sl.there q z
    rw [e, hk q o e]
  · obtain ⟨o', e'⟩ := h.bD q o e
    exact ⟨o', hk q o' e'⟩
def Frz (Γ Γd : List Sl) : Prop := ∀ (B : Bs) (σ : St) (F H : Hp), Ok B Γ σ F H → ∃ F2, Ok ⟨F2, H, []⟩ Γd σ F2 H
theorem plain_fps {L : List (List Addr)} (h : SlsOk F H σ Γ L) (hp : Γ.all Sl.plain = true) : L.flatten = [] := by
  induction h with
  | nil => rfl
  | cons a b ih =>
    rw [List.all_cons, Bool.and_eq_true] at hp
    rw [List.flatten_cons, ih hp.2, List.append_nil]
    cases a with
    | no => rfl
    | val _ => rfl
    | own _ => cases (show false = true from hp.1)
theorem frz_done (hp : Γ.all Sl.plain = true := by rfl) : Frz Γ Γ := fun B σ F H ⟨L, h⟩ => ⟨F, L, by
  have e := plain_fps h.sl hp
  have b := h.base
  rw [e] at b
  exact b⟩
theorem frz_list {p : Addr} (e : Γ[i]? = some (.own p (oL K) ds)) (h : Frz (Γ.set i (Da K (.list ds))) Γd) : Frz Γ Γd := fun B σ F H I => by
  obtain ⟨x, ex, I2⟩ := I.lift e
  obtain ⟨F', e1, e2, I3⟩ := I2.freeze
  have I4 := Ok.store (i := i) I3
  rw [List.set_set, List.set_set, set_self ex] at I4
  exact h B σ F' H I4
theorem frz_no (i : Nat) (h : Frz (Γ.set i .no) Γd) : Frz Γ Γd := fun B σ F H I => h B σ F H I.forgetG
/-- a datum without cells -/
def atomD : PyData → Bool
  | .none => true
  | .bool _ => true
  | .int _ => true
  | .str _ => true
  | _ => false
theorem Dq.atom {F1 : Hp} {v : V} (h : Dq K F1 v d) (ha : atomD d = true) : Dq K F v d := by
  cases h with
  | non => exact .non
  | bl b => exact .bl b
  | int n => exact .int n
  | str x => exact .str x
  | _ => cases ha
theorem ep_borrow (hf : Frz Γ Γd) (h : EP te Γd (Da K d)) (ha : atomD d = true) : EP te Γ (Da K d) := fun B σ F H I Q q => by
  obtain ⟨F2, I2⟩ := hf B σ F H I
  refine h ⟨F2, H, []⟩ σ F2 H I2 _ fun Γ1 s1 v F1 H1 ⟨a, b⟩ I3 e1 => ?_
  subst a b
  obtain ⟨v', ev, hv⟩ := Ok.head I3
  cases ev
  have hk : ∀ q o, H q = some o → H1 q = some o := by
    obtain ⟨L, z⟩ := I3
    exact fun q o e => z.bK q o e List.not_mem_nil
  exact q _ _ v F H1 ⟨rfl, rfl⟩ ((I.keep hk).push (hv.atom ha)) (Ex.refl F)
theorem tp_borrow (hf : Frz Γ Γd) (h : TP tt Γd b) : TP tt Γ b := fun B σ F H I Q q => by
  obtain ⟨F2, I2⟩ := hf B σ F H I
  refine h ⟨F2, H, []⟩ σ F2 H I2 _ fun Γ1 b1 F1 H1 ⟨a, c⟩ I3 e1 => ?_
  subst a c
  have hk : ∀ q o, H q = some o → H1 q = some o := by
    obtain ⟨L, z⟩ := I3
    exact fun q o e => z.bK q o e List.not_mem_nil
  exact q _ _ F H1 ⟨rfl, rfl⟩ (I.keep hk) (Ex.refl F)
theorem q_par2 {ta : TA} (h : A ta Γ fun Γ1 ss => ∃ a b, ss = [a, b] ∧ S B u ((Γ1.set i a).set j b) D) : S B (tSeq (tPar i j ta) u) Γ D := fun σ F H I D' hn hr hb hc =>
  h B σ F H I _ fun Γ1 ss vs F1 H1 ⟨a, b, e, m⟩ n I1 e1 => by
    subst e
    match vs, n with
    | [x, y], _ =>
      have I2 : Ok B (b :: Γ1.set i a) (some y :: σ.set i (some x)) F1 H1 := Ok.store (i := i + 1) (show Ok B (a :: b :: Γ1) (some x :: some y :: σ) F1 H1 from I1)
      exact ⟨x, y, rfl, m _ F1 H1 (Ok.store (i := j) I2) D' (fun a b c d p q r => hn a b c d p q (e1.trans r)) (fun a b c d f g p q r => hr a b c d f g p q (e1.trans r)) (fun a b c d p q r => hb a b c d p q (e1.trans r)) (fun a b c d p q r => hc a b c d p q (e1.trans r))⟩
theorem s_src {g : TG} {t : TS} {X : TE} (P : List PyData → Prop) (h : ∃ ds, P ds ∧ EP X Γ (Da K (.list ds))) (k : ∀ ds wi, P ds → IP K wi Γ ds → S B (tFor wi g t) Γ D) : S B (tFor (iList K X) g t) Γ D := let ⟨ds, hp, h⟩ := h; k ds _ hp (ip_list h)
theorem rd_neB {a b : Bool} : RD K (rNeD K) (.bool a) (.bool b) (.bool (!decide (a = b))) := rd_neE (n := 0) (m := 0) sh_bool sh_bool (by simp only [PyData.eqv]; cases a <;> cases b <;> rfl)
theorem rd_eqB {a b : Bool} : RD K (rEqD K) (.bool a) (.bool b) (.bool (decide (a = b))) := rd_eqE (n := 0) (m := 0) sh_bool sh_bool (by simp only [PyData.eqv]; cases a <;> cases b <;> rfl)
end
end TL
/-! Mirror6: pieces with a beat more or less; needed, helpful beats. -/
namespace Q
open PySem TL
def wo (al : List Int) (b : Int) : List Int := al.filter fun x => !decide (x = b)
def wi (al : List Int) (b : Int) : List Int := insI b al
def fb (c : Int) (al : List Int) : List Int := (rng 0 c).filter fun b => !decide (b ∈ al)
theorem ValidP.wo {c : Int} {al : List Int} (h : ValidP c al) (b : Int) : ValidP c (wo al b) := ⟨h.c1, h.c2, h.asc.filter _, fun x hx => h.lo x (List.mem_filter.mp hx).1, fun x hx => h.hi x (List.mem_filter.mp hx).1⟩
theorem ValidP.wi {c : Int} {al : List Int} (h : ValidP c al) {b : Int} (b0 : 0 ≤ b) (b1 : b < c) : ValidP c (wi al b) := ⟨h.c1, h.c2, insI_asc h.asc, fun x hx => by
  rcases mem_insI.mp hx with e | hx
  · omega
  · exact h.lo x hx, fun x hx => by
  rcases mem_insI.mp hx with e | hx
  · omega
  · exact h.hi x hx⟩
theorem insI_perm {a : Int} : ∀ {l : List Int}, a ∉ l → (insI a l).Perm (a :: l)
  | [], _ => .refl _
  | b :: r, h => by
    unfold insI
    split
    · exact .refl _
    · split
      · rename_i e; subst e; exact absurd List.mem_cons_self h
      · exact ((insI_perm fun z => h (List.mem_cons_of_mem _ z)).cons b).trans (.swap a b r)
theorem sort_wi {al : List Int} {b : Int} (h : al.Pairwise (· < ·)) (hb : b ∉ al) : sortI (al ++ [b]) = wi al b :=
  le_eq sortI_asc ((insI_asc h).imp Int.le_of_lt) (sortI_perm.trans ((List.perm_append_comm (l₁ := al) (l₂ := [b])).trans (insI_perm hb).symm))
def without : Rl := fun ds r => ∃ c al b, ValidP c al ∧ ds = [pcD c al, .int b] ∧ r = .ok (pcD c (wo al b))
def with_beat : Rl := fun ds r => ∃ c al b, ValidP c al ∧ b ∉ al ∧ 0 ≤ b ∧ b < c ∧ ds = [pcD c al, .int b] ∧ r = .ok (pcD c (wi al b))
def forbidden : Rl := fun ds r => ∃ c al, ValidP c al ∧ ds = [pcD c al] ∧ r = .ok (lI (fb c al))
def nb (c : Int) (al : List Int) (s b h : Int) : List Int := if en c al s b h = true then al.filter fun x => !en c (wo al x) s b h else []
def hb (c : Int) (al : List Int) (s b h : Int) : List Int := if en c al s b h = true then [] else (fb c al).filter fun x => en c (wi al x) s b h
/-- a def of a piece and a choir: errors, or f -/
def ofPC (f : Int → List Int → Int → Int → Int → PyData) : Rl := fun ds r => (∃ c al s b h, ValidP c al ∧ ValidC s b h ∧ ds = [pcD c al, chD s b h] ∧ r = .ok (f c al s b h)) ∨ PCerr ds r 0
theorem ofPC_len {f : Int → List Int → Int → Int → Int → PyData} : ∀ ds r, ofPC f ds r → ds.length = ["piece", "choir"].length := by
  rintro ds r (⟨c, al, s, b, h, _, _, rfl, _⟩ | ⟨v, u, l, rfl, hl, _⟩)
  · rfl
  · simp [hl]
def needed_beats : Rl := ofPC fun c al s b h => lI (nb c al s b h)
def helpful_beats : Rl := ofPC fun c al s b h => lI (hb c al s b h)
theorem without_len : ∀ ds r, without ds r → ds.length = ["piece", "beat"].length := by rintro ds r ⟨_, _, _, _, rfl, _⟩; rfl
theorem with_beat_len : ∀ ds r, with_beat ds r → ds.length = ["piece", "beat"].length := by rintro ds r ⟨_, _, _, _, _, _, _, rfl, _⟩; rfl
theorem forbidden_len : ∀ ds r, forbidden ds r → ds.length = ["piece"].length := by rintro ds r ⟨_, _, _, rfl, _⟩; rfl
theorem needed_beats_len : ∀ ds r, needed_beats ds r → ds.length = ["piece", "choir"].length := ofPC_len
theorem helpful_beats_len : ∀ ds r, helpful_beats ds r → ds.length = ["piece", "choir"].length := ofPC_len
def law_enough : Rl := fun ds r => ∃ c al s b h, ValidP c al ∧ ValidC s b h ∧ ds = [pcD c al, chD s b h] ∧ r = .ok (.bool (en c al s b h))
theorem law_enough_len : ∀ ds r, law_enough ds r → ds.length = ["song", "group"].length := by rintro ds r ⟨_, _, _, _, _, _, _, rfl, _⟩; rfl
theorem mem_fb {c x : Int} {al : List Int} : x ∈ fb c al ↔ 0 ≤ x ∧ x < c ∧ x ∉ al := by
  unfold fb
  rw [List.mem_filter, mem_rng]
  simp [and_assoc]
theorem en_iff {c s b h : Int} {al : List Int} : en c al s b h = true ↔ ∀ st, 0 ≤ st → st < c - b → s ≤ (s - h) * cnt al st b := by
  unfold en
  rw [List.all_eq_true]
  constructor
  · intro k st h1 h2
    exact of_decide_eq_true (k _ (wc_mem.mpr ⟨st, h1, h2, rfl⟩))
  · intro k m hm
    obtain ⟨st, h1, h2, rfl⟩ := wc_mem.mp hm
    exact decide_eq_true (k st h1 h2)
theorem nb_no {c s b h : Int} {al : List Int} (z : ¬ en c al s b h = true) : nb c al s b h = [] := if_neg z
theorem nb_yes {c s b h : Int} {al : List Int} (z : en c al s b h = true) : nb c al s b h = al.filter fun x => !en c (wo al x) s b h := if_pos z
theorem hb_no {c s b h : Int} {al : List Int} (z : en c al s b h = true) : hb c al s b h = [] := if_pos z
theorem hb_yes {c s b h : Int} {al : List Int} (z : ¬ en c al s b h = true) : hb c al s b h = (fb c al).filter fun x => en c (wi al x) s b h := if_neg z
end Q
/-! k10 in plain Lean. -/
namespace Q
open PySem TL
theorem rng_asc {a b : Int} : (rng a b).Pairwise (· < ·) := by
  unfold rng
  rw [List.pairwise_map]
  exact (List.pairwise_lt_range).imp fun h => by omega
def oth (c : Int) (al : List Int) (x : Int) : List Int := (rng 0 c).filter fun y => !decide (decide (y ∈ al) = decide (y = x))
theorem oth_in {c x : Int} {al : List Int} (h : ValidP c al) (hx : x ∈ al) : oth c al x = wo al x := by
  refine asc_eq (rng_asc.filter _) (h.asc.filter _) fun y => ?_
  unfold oth wo
  rw [List.mem_filter, List.mem_filter, mem_rng]
  constructor
  · rintro ⟨_, q⟩
    by_cases e : y = x
    · subst e; simp [hx] at q
    · by_cases m : y ∈ al
      · exact ⟨m, by simp [e]⟩
      · simp [e, m] at q
  · rintro ⟨m, q⟩
    have e : y ≠ x := by simpa using q
    exact ⟨⟨h.lo y m, h.hi y m⟩, by simp [e, m]⟩
theorem oth_out {c x : Int} {al : List Int} (h : ValidP c al) (hx : x ∉ al) (x0 : 0 ≤ x) (x1 : x < c) : oth c al x = wi al x := by
  refine asc_eq (rng_asc.filter _) (insI_asc h.asc) fun y => ?_
  unfold oth wi
  rw [List.mem_filter, mem_insI, mem_rng]
  constructor
  · rintro ⟨_, q⟩
    by_cases e : y = x
    · exact .inl e
    · by_cases m : y ∈ al
      · exact .inr m
      · simp [e, m] at q
  · rintro (rfl | m)
    · exact ⟨⟨x0, x1⟩, by simp [hx]⟩
    · have e : y ≠ x := fun e => hx (e ▸ m)
      exact ⟨⟨h.lo y m, h.hi y m⟩, by simp [e, m]⟩
theorem oth_valid {c x : Int} {al : List Int} (h : ValidP c al) (x0 : 0 ≤ x) (x1 : x < c) : ValidP c (oth c al x) := by
  by_cases m : x ∈ al
  · rw [oth_in h m]; exact h.wo x
  · rw [oth_out h m x0 x1]; exact h.wi x0 x1
def p1 (c : Int) (al : List Int) (s b v x : Int) : Bool := en c al s b v && (decide (x ∈ al) && !en c (oth c al x) s b v)
def p2 (c : Int) (al : List Int) (s b v x : Int) : Bool := !en c al s b v && (!decide (x ∈ al) && en c (oth c al x) s b v)
theorem need_eq {c s b v : Int} {al : List Int} (h : ValidP c al) : (rng 0 c).filter (p1 c al s b v) = nb c al s b v := by
  by_cases g : en c al s b v = true
  · rw [nb_yes g]
    refine asc_eq (rng_asc.filter _) (h.asc.filter _) fun y => ?_
    rw [List.mem_filter, List.mem_filter, mem_rng]
    unfold p1
    rw [g, Bool.true_and, Bool.and_eq_true, decide_eq_true_eq]
    constructor
    · rintro ⟨_, m, q⟩; exact ⟨m, by rw [← oth_in h m]; exact q⟩
    · rintro ⟨m, q⟩; exact ⟨⟨h.lo y m, h.hi y m⟩, m, by rw [oth_in h m]; exact q⟩
  · rw [nb_no g, List.filter_eq_nil_iff]
    intro y _
    unfold p1
    rw [show en c al s b v = false by simpa using g]
    exact Bool.false_ne_true
theorem help_eq {c s b v : Int} {al : List Int} (h : ValidP c al) : (rng 0 c).filter (p2 c al s b v) = hb c al s b v := by
  by_cases g : en c al s b v = true
  · rw [hb_no g, List.filter_eq_nil_iff]
    intro y _
    unfold p2
    rw [g]
    exact Bool.false_ne_true
  · rw [hb_yes g]
    refine asc_eq (rng_asc.filter _) ((rng_asc.filter _).filter _) fun y => ?_
    rw [List.mem_filter, List.mem_filter, mem_rng, mem_fb]
    unfold p2
    rw [show en c al s b v = false by simpa using g, Bool.not_false, Bool.true_and, Bool.and_eq_true]
    constructor
    · rintro ⟨⟨y0, y1⟩, m, q⟩
      have m' : y ∉ al := by simpa using m
      exact ⟨⟨y0, y1, m'⟩, by rw [← oth_out h m' y0 y1]; exact q⟩
    · rintro ⟨⟨y0, y1, m⟩, q⟩
      exact ⟨⟨y0, y1⟩, by simp [m], by rw [oth_out h m y0 y1]; exact q⟩
theorem filt_next {l : List Int} {i : Nat} {x : Int} {f : Int → Bool} (h : l[i]? = some x) : (l.take (i + 1)).filter f = (l.take i).filter f ++ if f x = true then [x] else [] := by
  rw [take_next h, List.filter_append]
  by_cases e : f x = true
  · rw [if_pos e, List.filter_cons_of_pos e]; rfl
  · rw [if_neg e, List.filter_cons_of_neg e]; rfl
theorem mv_or {c s b : Int} {al : List Int} (hp : ValidP c al) (s1 : 1 ≤ s) : mvD c al s b = .none ∨ ∃ m : Int, mvD c al s b = .int m ∧ 0 ≤ m ∧ m ≤ s := by
  unfold mvD
  by_cases e : wc c b al = []
  · rw [if_pos e]; exact .inr ⟨s, rfl, by omega, by omega⟩
  · rw [if_neg e]
    by_cases h1 : 0 < minL (wc c b al)
    · rw [if_pos h1]
      refine .inr ⟨_, rfl, ?_, ?_⟩
      · generalize minL (wc c b al) = m at h1
        have q2 : -s < (-s / m + 1) * m := Int.lt_ediv_add_one_mul_self _ h1
        apply Classical.byContradiction
        intro z
        have z' : -s / m + 1 ≤ -s := by omega
        have := Int.mul_le_mul_of_nonneg_right z' (Int.le_of_lt h1)
        have e3 : s * 1 ≤ s * m := Int.mul_le_mul_of_nonneg_left (by omega) (by omega)
        have e2 : -s * m = -(s * m) := Int.neg_mul _ _
        omega
      · have : -s / minL (wc c b al) ≤ 0 := by
          have := Int.ediv_le_ediv h1 (show -s ≤ 0 by omega)
          rw [Int.zero_ediv] at this
          exact this
        omega
    · rw [if_neg h1]; exact .inl rfl
end Q
namespace G
open PySem L2 TL
open Evl (Ex)
def top (i : Nat) : Stmt := PySem.Challenge.pw_staggerbreaths_k10_whole_beats_that_matt.main.body.getD i (.Pass ⟨0, 0, 0, 0⟩)
abbrev s_is_from : Stmt := top 8
def d_is_from : He.DefD := ⟨("is_from", none), "is_from", "is_from", defArgs s_is_from, defBody s_is_from, defScope s_is_from, [], []⟩
abbrev s_good_beats : Stmt := top 9
def d_good_beats : He.DefD := ⟨("good_beats", none), "good_beats", "good_beats", defArgs s_good_beats, defBody s_good_beats, defScope s_good_beats, [], []⟩
abbrev s_is_piece : Stmt := top 10
def d_is_piece : He.DefD := ⟨("is_piece", none), "is_piece", "is_piece", defArgs s_is_piece, defBody s_is_piece, defScope s_is_piece, [], []⟩
abbrev s_is_choir : Stmt := top 11
def d_is_choir : He.DefD := ⟨("is_choir", none), "is_choir", "is_choir", defArgs s_is_choir, defBody s_is_choir, defScope s_is_choir, [], []⟩
abbrev s_need_piece : Stmt := top 12
def d_need_piece : He.DefD := ⟨("need_piece", none), "need_piece", "need_piece", defArgs s_need_piece, defBody s_need_piece, defScope s_need_piece, [], []⟩
abbrev s_need_choir : Stmt := top 13
def d_need_choir : He.DefD := ⟨("need_choir", none), "need_choir", "need_choir", defArgs s_need_choir, defBody s_need_choir, defScope s_need_choir, [], []⟩
abbrev s_window_counts : Stmt := top 15
def d_window_counts : He.DefD := ⟨("window_counts", none), "window_counts", "window_counts", defArgs s_window_counts, defBody s_window_counts, defScope s_window_counts, [], []⟩
abbrev s_enough : Stmt := top 16
def d_enough : He.DefD := ⟨("enough", none), "enough", "enough", defArgs s_enough, defBody s_enough, defScope s_enough, [], []⟩
abbrev s_can_sing : Stmt := top 17
def d_can_sing : He.DefD := ⟨("can_sing", none), "can_sing", "can_sing", defArgs s_can_sing, defBody s_can_sing, defScope s_can_sing, [], []⟩
abbrev s_without : Stmt := top 19
def d_without : He.DefD := ⟨("without", none), "without", "without", defArgs s_without, defBody s_without, defScope s_without, [], []⟩
abbrev s_with_beat : Stmt := top 20
def d_with_beat : He.DefD := ⟨("with_beat", none), "with_beat", "with_beat", defArgs s_with_beat, defBody s_with_beat, defScope s_with_beat, [], []⟩
abbrev s_forbidden : Stmt := top 21
def d_forbidden : He.DefD := ⟨("forbidden", none), "forbidden", "forbidden", defArgs s_forbidden, defBody s_forbidden, defScope s_forbidden, [], []⟩
abbrev s_needed_beats : Stmt := top 22
def d_needed_beats : He.DefD := ⟨("needed_beats", none), "needed_beats", "needed_beats", defArgs s_needed_beats, defBody s_needed_beats, defScope s_needed_beats, [], []⟩
abbrev s_helpful_beats : Stmt := top 23
def d_helpful_beats : He.DefD := ⟨("helpful_beats", none), "helpful_beats", "helpful_beats", defArgs s_helpful_beats, defBody s_helpful_beats, defScope s_helpful_beats, [], []⟩
abbrev s_need_number : Stmt := top 25
def d_need_number : He.DefD := ⟨("need_number", none), "need_number", "need_number", defArgs s_need_number, defBody s_need_number, defScope s_need_number, [], []⟩
abbrev s_most_voices : Stmt := top 26
def d_most_voices : He.DefD := ⟨("most_voices", none), "most_voices", "most_voices", defArgs s_most_voices, defBody s_most_voices, defScope s_most_voices, [], []⟩
abbrev s_law_deck : Stmt := top 28
def d_law_deck : He.DefD := ⟨("_law_deck", none), "_law_deck", "_law_deck", defArgs s_law_deck, defBody s_law_deck, defScope s_law_deck, [], []⟩
abbrev s_law_pick : Stmt := top 29
def d_law_pick : He.DefD := ⟨("_law_pick", none), "_law_pick", "_law_pick", defArgs s_law_pick, defBody s_law_pick, defScope s_law_pick, [], []⟩
abbrev s_law_one : Stmt := top 30
def d_law_one : He.DefD := ⟨("_law_one", none), "_law_one", "_law_one", defArgs s_law_one, defBody s_law_one, defScope s_law_one, [], []⟩
abbrev s_law_sort : Stmt := top 31
def d_law_sort : He.DefD := ⟨("_law_sort", none), "_law_sort", "_law_sort", defArgs s_law_sort, defBody s_law_sort, defScope s_law_sort, [], []⟩
abbrev s_law_same : Stmt := top 32
def d_law_same : He.DefD := ⟨("_law_same", none), "_law_same", "_law_same", defArgs s_law_same, defBody s_law_same, defScope s_law_same, [], []⟩
abbrev s_law_song : Stmt := top 33
def d_law_song : He.DefD := ⟨("_law_song", none), "_law_song", "_law_song", defArgs s_law_song, defBody s_law_song, defScope s_law_song, [], []⟩
abbrev s_law_group : Stmt := top 34
def d_law_group : He.DefD := ⟨("_law_group", none), "_law_group", "_law_group", defArgs s_law_group, defBody s_law_group, defScope s_law_group, [], []⟩
abbrev s_law_enough : Stmt := top 35
def d_law_enough : He.DefD := ⟨("_law_enough", none), "_law_enough", "_law_enough", defArgs s_law_enough, defBody s_law_enough, defScope s_law_enough, [], []⟩
abbrev s_law : Stmt := top 36
def d_law : He.DefD := ⟨("law", none), "law", "law", defArgs s_law, defBody s_law, defScope s_law, [], []⟩
def fn : List He.DefD := ([d_is_from, d_good_beats, d_is_piece, d_is_choir, d_need_piece, d_need_choir, d_window_counts, d_enough, d_can_sing, d_without, d_with_beat, d_forbidden, d_needed_beats, d_helpful_beats, d_need_number, d_most_voices, d_law_deck, d_law_pick, d_law_one, d_law_sort, d_law_same, d_law_song, d_law_group, d_law_enough, d_law] : List He.DefD)
def fa : List He.Fa := ([.glo "is_from", .glo "good_beats", .glo "is_piece", .glo "is_choir", .glo "need_piece", .glo "need_choir", .glo "window_counts", .glo "enough", .glo "can_sing", .glo "without", .glo "with_beat", .glo "forbidden", .glo "needed_beats", .glo "helpful_beats", .glo "need_number", .glo "most_voices", .glo "_law_deck", .glo "_law_pick", .glo "_law_one", .glo "_law_sort", .glo "_law_same", .glo "_law_song", .glo "_law_group", .glo "_law_enough", .glo "law", .free "isinstance", .free "bool", .free "int", .free "all", .free "tuple"] : List He.Fa) ++ ([.free "zip", .free "len", .free "range", .free "sorted", .free "min", .free "str", .free "list", .free "enumerate", .free "set", .int "MOST_BEATS" 60, .int "MOST_SINGERS" 30, .glo "InvalidPiece", .exc "InvalidPiece", .glo "InvalidChoir", .exc "InvalidChoir", .glo "InvalidNumber", .exc "InvalidNumber"] : List He.Fa)
/-- what the top has written -/
structure Env (K : PySem.W.Frag) (mg : Str → Option Value) : Prop where
  c : He.SaysD fa fn K
  M : ∃ h : Heap, K.In h ∧ h.Ns mainGlobals mg
section
variable {P : Program} {w : World} {K : PySem.W.Frag} {mg : Str → Option Value} {base : Heap}
theorem Env.glo (T : Env K mg) (i : Nat) {x : Str} (h : fa[i]? = some (.glo x) := by rfl) : mg x = some (.ref (He.ga K x)) := let ⟨_, a, b⟩ := T.M; He.glo_ok a b (T.c.fact i h)
theorem Env.free (T : Env K mg) (i : Nat) {x : Str} (h : fa[i]? = some (.free x) := by rfl) : mg x = none := let ⟨_, a, b⟩ := T.M; He.free_ok a b (T.c.fact i h)
theorem Env.int (T : Env K mg) (i : Nat) {x : Str} {n : Int} (h : fa[i]? = some (.int x n) := by rfl) : ∃ t, mg x = some (.int n t) := let ⟨_, a, b⟩ := T.M; He.int_ok a b (T.c.fact i h)
/-! ### is_from -/
theorem sc_is_from : FnScope ["value", "low", "high"] ["value", "low", "high"] (defScope s_is_from) := ⟨rfl, rfl, rfl, by decide +kernel, rfl, by decide +kernel, by decide +kernel⟩
theorem ok_is_from (T : Env K mg) : Has P w K mg base 1 "is_from" ["value", "low", "high"] (PF K Q.is_from) := by
  have m_isinstance := T.free 25 (x := "isinstance")
  have m_bool := T.free 26 (x := "bool")
  have m_int := T.free 27 (x := "int")
  obtain ⟨fd, Fd⟩ := T.c.def_ 0 (d := d_is_from) rfl
  refine ⟨fd, T.glo 0, Fd.kp, Fd.bindsN fun _ _ _ _ _ _ us hl => match us, hl with | [_, _, _], _ => rfl, ?_⟩
  refine fn_pf Fd sc_is_from Q.is_from_len ?_
  intro cdv A outer s H E ds r B hr hR hE
  have hu0 := hr.units
  have pE : ∀ {pn : Unit}, Passes (L2.CX P w) (cxOf (L2.CX P w) P w K mg base ["value", "low", "high"] "is_from" (defScope s_is_from) (He.fAd K d_is_from.at_) cdv A outer s H E) E := fun {_} => passes_call (takes_of (E := E) rfl rfl rfl rfl) (fun _ _ _ _ z => z)
  refine ⟨_, (pss_one (ps_ret (pe_and (pe_callB (kIsi K) (by rfl) m_isinstance (by decide +kernel) (pa_cons (pv 0) (pa_cons (pe_bltn (v := .ty "int") (by rfl) m_int (by decide +kernel) rfl) pa_nil))) (pe_and (pe_not (pe_callB (kIsi K) (by rfl) m_isinstance (by decide +kernel) (pa_cons (pv 0) (pa_cons (pe_bltn (v := .ty "bool") (by rfl) m_bool (by decide +kernel) rfl) pa_nil)))) (pe_one (pe_chain op_le op_le (pv 1) (pv 0) (pv 2))))))), ?_⟩
  obtain ⟨v, lo, hi, rfl, rfl⟩ := hR
  refine s_ret (s := Da K (.bool (Q.isFrom v lo hi))) ?_ ⟨_, rfl, .o⟩
  cases v with
  | int i => exact ep_andT (ep_isi (ep_var rfl) ep_ty (by rfl)) (ep_andT (ep_notT (ep_isi (ep_var rfl) ep_ty (by rfl))) (ep_chain (ep_var rfl) (ep_var rfl) (rd_I0b rfl) (fun _ => ep_var rfl) (rd_I0b rfl)))
  | bool i => exact ep_andT (ep_isi (ep_var rfl) ep_ty (by rfl)) (ep_andF (ep_notF (ep_isi (ep_var rfl) ep_ty (by rfl))))
  | _ => exact ep_andF (ep_isi (ep_var rfl) ep_ty (by rfl))
/-! ### good_beats -/
theorem sc_good_beats : FnScope ["count", "value", "beat", "one", "other"] ["count", "value"] (defScope s_good_beats) := ⟨rfl, rfl, rfl, by decide +kernel, rfl, by decide +kernel, by decide +kernel⟩
theorem ok_good_beats (T : Env K mg) (h_is_from : Has P w K mg base 1 "is_from" ["value", "low", "high"] (PF K Q.is_from)) : Has P w K mg base 2 "good_beats" ["count", "value"] (PF K Q.good_beats) := by
  have m_all := T.free 28 (x := "all")
  have m_isinstance := T.free 25 (x := "isinstance")
  have m_tuple := T.free 29 (x := "tuple")
  have m_zip := T.free 30 (x := "zip")
  obtain ⟨fd_is_from, g_is_from, kp_is_from, b_is_from, G_is_from⟩ := h_is_from
  obtain ⟨fd, Fd⟩ := T.c.def_ 1 (d := d_good_beats) rfl
  refine ⟨fd, T.glo 1, Fd.kp, Fd.bindsN fun _ _ _ _ _ _ us hl => match us, hl with | [_, _], _ => rfl, ?_⟩
  refine fn_pf Fd sc_good_beats Q.good_beats_len ?_
  intro cdv A outer s H E ds r B hr hR hE
  have hu0 := hr.units
  have pE : ∀ {pn : Unit}, Passes (L2.CX P w) (cxOf (L2.CX P w) P w K mg base ["count", "value", "beat", "one", "other"] "good_beats" (defScope s_good_beats) (He.fAd K d_good_beats.at_) cdv A outer s H E) E := fun {_} => passes_call (takes_of (E := E) rfl rfl rfl rfl) (fun _ _ _ _ z => z)
  refine ⟨_, (pss_cons (ps_if (PW.pt (pw_or (pt_not (pt_val (pe_callB (kIsi K) (by rfl) m_isinstance (by decide +kernel) (pa_cons (pv 1) (pa_cons (pe_bltn (v := .ty "tuple") (by rfl) m_tuple (by decide +kernel) rfl) pa_nil))))) (pw_or1 (pt_not (pt_val (pe_callB (kAll K) (by rfl) m_all (by decide +kernel) (pa_cons (pe_lc (own := [("beat", 2)]) (g := (gName 2)) (tt := tYes) rfl sc_good_beats.nd (kpi_tup K (pv 1)) (blkOk_by (own := [("beat", 2)]) (by kernel_rfl)) (fun _ _ _ _ _ => (pg_name (i := 2) sc_good_beats.nd rfl (by first | exact Or.inl rfl | exact Or.inr rfl))) (fun _ _ _ _ _ => pts_nil) (fun _ _ _ _ _ => (pe_call G_is_from (hr.mono (by decide)) rfl g_is_from kp_is_from b_is_from .nil passL (pa_cons (pv 2) (pa_cons pe_int (pa_cons (pe_op op_sub (pv 0) pe_int) pa_nil)))))) pa_nil))))))) (pss_one (ps_ret pe_bl)) pss_nil) (pss_one (ps_ret (pe_callB (kAll K) (by rfl) m_all (by decide +kernel) (pa_cons (pe_lc (own := [("one", 3), ("other", 4)]) (g := (gTup K 2 (gCons (gName 3) (gCons (gName 4) gNil)))) (tt := tYes) rfl sc_good_beats.nd (kpi_zipA K (by rfl) m_zip (pa_cons (pv 1) (pa_cons (pe_slice (kSlT K) (pv 1) (po_some pe_int) po_none) pa_nil))) (blkOk_by (own := [("one", 3), ("other", 4)]) (by kernel_rfl)) (fun _ _ _ _ _ => (kpg_tup K rfl (pgs_cons (pg_name (i := 3) sc_good_beats.nd rfl (by first | exact Or.inl rfl | exact Or.inr rfl)) (pgs_cons (pg_name (i := 4) sc_good_beats.nd rfl (by first | exact Or.inl rfl | exact Or.inr rfl)) pgs_nil)))) (fun _ _ _ _ _ => pts_nil) (fun _ _ _ _ _ => (pe_cmpR op_lt (pv 3) (pv 4) (nomark _)))) pa_nil))))), ?_⟩
  obtain ⟨c, v, rfl, rfl⟩ := hR
  cases v with
  | tuple ds =>
    refine q_out (b := !(ds.all fun d => Q.isFrom d 0 (c - 1))) (tp_orF (tp_notF (tp_B (ep_isi (ep_var rfl) ep_ty (by rfl)))) (tp_not (tp_B ((ep_cb (ap_cons (EO.frz (eo_map (xs := ds) (w := fun d => .bool (Q.isFrom d 0 (c - 1))) ((ip_tup (ep_var rfl)).is (List.map_id ds).symm) (fun d hd => ep_call (ap_cons (ep_var rfl) (ap_cons ep_int (ap_cons (ep_op (ep_var rfl) ep_int (rd_I0 rfl)) ap_nil))) ⟨d, 0, c - 1, rfl, rfl⟩) (map_bool _ _))) ap_nil) cd_all).is (by rw [List.all_map]; rfl))))) (fun h => ?_) fun h => ?_
    · have h' : ds.all (fun d => Q.isFrom d 0 (c - 1)) = false := by simpa using h
      exact s_ret ep_bl ⟨_, (by show Except.ok (PyData.bool (ds.all _ && _)) = _; rw [h']; rfl), .o⟩
    · have h' : ds.all (fun d => Q.isFrom d 0 (c - 1)) = true := by simpa using h
      obtain ⟨ns, e, hn⟩ := Q.all_ints h'
      subst e
      refine s_ret (ep_cb (ap_cons (EO.frz (eo_map2 (xs := ns.zip (ns.drop 1)) (p := fun z => .int z.1) (q := fun z => .int z.2) (w := fun z => .bool (decide (z.1 < z.2))) ((ip_zipT (ap_cons (ep_var rfl) (ap_cons (ep_slT (ep_var rfl) (op_some (K := K) ep_int) op_no) ap_nil))).is ?_) (fun z hz => ep_op (ep_var rfl) (ep_var rfl) (rd_I0b rfl)) (map_bool _ _))) ap_nil) cd_all) ⟨_, ?_, .o⟩
      · rw [show (1 : Int) = ((1 : Nat) : Int) from rfl, cutD_from, ← List.map_drop, zipP_map]
      · show Except.ok (PyData.bool ((ns.map PyData.int).all _ && Q.ascD (ns.map .int))) = _
        rw [h', Q.ascD_ints, List.all_map]; rfl
  | _ => exact q_out (b := true) (tp_orT (tp_notT (tp_B (ep_isi (ep_var rfl) ep_ty (by rfl))))) (fun _ => s_ret ep_bl ⟨_, rfl, .o⟩) (fun h => absurd h.symm Bool.false_ne_true)
/-! ### is_piece -/
theorem sc_is_piece : FnScope ["value"] ["value"] (defScope s_is_piece) := ⟨rfl, rfl, rfl, by decide +kernel, rfl, by decide +kernel, by decide +kernel⟩
theorem ok_is_piece (T : Env K mg) (h_is_from : Has P w K mg base 1 "is_from" ["value", "low", "high"] (PF K Q.is_from)) (h_good_beats : Has P w K mg base 2 "good_beats" ["count", "value"] (PF K Q.good_beats)) : Has P w K mg base 3 "is_piece" ["value"] (PF K Q.is_piece) := by
  have m_len := T.free 31 (x := "len")
  have m_isinstance := T.free 25 (x := "isinstance")
  have m_tuple := T.free 29 (x := "tuple")
  obtain ⟨t_MOST_BEATS, c_MOST_BEATS⟩ := T.int 39 (x := "MOST_BEATS")
  obtain ⟨fd_is_from, g_is_from, kp_is_from, b_is_from, G_is_from⟩ := h_is_from
  obtain ⟨fd_good_beats, g_good_beats, kp_good_beats, b_good_beats, G_good_beats⟩ := h_good_beats
  obtain ⟨fd, Fd⟩ := T.c.def_ 2 (d := d_is_piece) rfl
  refine ⟨fd, T.glo 2, Fd.kp, Fd.bindsN fun _ _ _ _ _ _ us hl => match us, hl with | [_], _ => rfl, ?_⟩
  refine fn_pf Fd sc_is_piece Q.is_piece_len ?_
  intro cdv A outer s H E ds r B hr hR hE
  have hu0 := hr.units
  have pE : ∀ {pn : Unit}, Passes (L2.CX P w) (cxOf (L2.CX P w) P w K mg base ["value"] "is_piece" (defScope s_is_piece) (He.fAd K d_is_piece.at_) cdv A outer s H E) E := fun {_} => passes_call (takes_of (E := E) rfl rfl rfl rfl) (fun _ _ _ _ z => z)
  refine ⟨_, (pss_cons (ps_if (PW.pt (pw_or (pt_not (pt_val (pe_callB (kIsi K) (by rfl) m_isinstance (by decide +kernel) (pa_cons (pv 0) (pa_cons (pe_bltn (v := .ty "tuple") (by rfl) m_tuple (by decide +kernel) rfl) pa_nil))))) (pw_or (pt_cmpR op_ne (pe_callB (kLen K) (by rfl) m_len PySem.boot_len (pa_cons (pv 0) pa_nil)) pe_int (nomark _)) (pw_or1 (pt_not (pt_val (pe_call G_is_from (hr.mono (by decide)) rfl g_is_from kp_is_from b_is_from .nil (pE (pn := ())) (pa_cons (pe_ix (kIxT K) (pv 0) pe_int (fun _ _ => rfl)) (pa_cons pe_int (pa_cons (pe_glob (v := .int 60) (by rfl) c_MOST_BEATS ⟨_, rfl⟩) pa_nil)))))))))) (pss_one (ps_ret pe_bl)) pss_nil) (pss_one (ps_ret (pe_call G_good_beats (hr.mono (by decide)) rfl g_good_beats kp_good_beats b_good_beats .nil (pE (pn := ())) (pa_cons (pe_ix (kIxT K) (pv 0) pe_int (fun _ _ => rfl)) (pa_cons (pe_ix (kIxT K) (pv 0) pe_int (fun _ _ => rfl)) pa_nil)))))), ?_⟩
  obtain ⟨v, rfl, rfl⟩ := hR
  by_cases ht : ∃ ds, v = .tuple ds
  · obtain ⟨ds, rfl⟩ := ht
    have isT : ∀ {Γ : List Sl} {te : TE}, EP te Γ (Da K (.tuple ds)) → TP (tNot (tB (tCB (rIsi K) (tCons te (tCons (tC (.ty "tuple")) tNil))))) Γ false := fun h => tp_notF (tp_B (ep_isi h ep_ty (by rfl)))
    by_cases hl : ∃ a b, ds = [a, b]
    · obtain ⟨a, b, rfl⟩ := hl
      refine q_out (b := !(Q.isFrom a 1 60)) (tp_orF (isT (ep_var rfl)) (tp_orF ((tp_test (ep_op (ep_cb (ap_cons (ep_var rfl) ap_nil) cd_lenT) ep_int rd_neI)).is (by rfl)) (tp_not (tp_B (ep_call (ap_cons (ep_op (ep_var rfl) ep_int (rd_ixT (by rfl))) (ap_cons ep_int (ap_cons ep_int ap_nil))) ⟨a, 1, 60, rfl, rfl⟩))))) (fun h => ?_) fun h => ?_
      · have h' : Q.isFrom a 1 60 = false := by simpa using h
        exact s_ret ep_bl ⟨_, by rw [Q.isPiece_no h'], .o⟩
      · have h' : Q.isFrom a 1 60 = true := by simpa using h
        obtain ⟨c, rfl, h1, h2⟩ := Q.isFrom_inv h'
        refine s_ret (ep_call (ap_cons (ep_op (ep_var rfl) ep_int (rd_ixT (by rfl))) (ap_cons (ep_op (ep_var rfl) ep_int (rd_ixT (by rfl))) ap_nil)) ⟨c, b, rfl, rfl⟩) ⟨_, ?_, .o⟩
        show Except.ok (PyData.bool (Q.okI 1 60 c && _)) = _
        rw [Q.okI_iff.mpr ⟨h1, h2⟩]; rfl
    · refine q_out (b := true) (tp_orF (isT (ep_var rfl)) (tp_orT ((tp_test (ep_op (ep_cb (ap_cons (ep_var rfl) ap_nil) cd_lenT) ep_int rd_neI)).is ?_))) (fun _ => s_ret ep_bl ⟨_, by rw [Q.isPiece_len2 hl], .o⟩) (fun h => absurd h.symm Bool.false_ne_true)
      have : ds.length ≠ 2 := fun e => hl (Q.two e)
      simp; omega
  · exact q_out (b := true) (tp_orT (tp_not (tp_B (ep_isi (ep_var rfl) ep_ty (kit_tuple v)))|>.is (by rw [Q.isTup_no ht]; rfl))) (fun _ => s_ret ep_bl ⟨_, by rw [Q.isPiece_tup ht], .o⟩) (fun h => absurd h.symm Bool.false_ne_true)
/-! ### is_choir -/
theorem sc_is_choir : FnScope ["value", "singers", "breath", "voices"] ["value"] (defScope s_is_choir) := ⟨rfl, rfl, rfl, by decide +kernel, rfl, by decide +kernel, by decide +kernel⟩
theorem ok_is_choir (T : Env K mg) (h_is_from : Has P w K mg base 1 "is_from" ["value", "low", "high"] (PF K Q.is_from)) : Has P w K mg base 2 "is_choir" ["value"] (PF K Q.is_choir) := by
  have m_len := T.free 31 (x := "len")
  have m_isinstance := T.free 25 (x := "isinstance")
  have m_tuple := T.free 29 (x := "tuple")
  obtain ⟨t_MOST_BEATS, c_MOST_BEATS⟩ := T.int 39 (x := "MOST_BEATS")
  obtain ⟨t_MOST_SINGERS, c_MOST_SINGERS⟩ := T.int 40 (x := "MOST_SINGERS")
  obtain ⟨fd_is_from, g_is_from, kp_is_from, b_is_from, G_is_from⟩ := h_is_from
  obtain ⟨fd, Fd⟩ := T.c.def_ 3 (d := d_is_choir) rfl
  refine ⟨fd, T.glo 3, Fd.kp, Fd.bindsN fun _ _ _ _ _ _ us hl => match us, hl with | [_], _ => rfl, ?_⟩
  refine fn_pf Fd sc_is_choir Q.is_choir_len ?_
  intro cdv A outer s H E ds r B hr hR hE
  have hu0 := hr.units
  have pE : ∀ {pn : Unit}, Passes (L2.CX P w) (cxOf (L2.CX P w) P w K mg base ["value", "singers", "breath", "voices"] "is_choir" (defScope s_is_choir) (He.fAd K d_is_choir.at_) cdv A outer s H E) E := fun {_} => passes_call (takes_of (E := E) rfl rfl rfl rfl) (fun _ _ _ _ z => z)
  refine ⟨_, (pss_cons (ps_if (PW.pt (pw_or (pt_not (pt_val (pe_callB (kIsi K) (by rfl) m_isinstance (by decide +kernel) (pa_cons (pv 0) (pa_cons (pe_bltn (v := .ty "tuple") (by rfl) m_tuple (by decide +kernel) rfl) pa_nil))))) (pw_or1 (pt_cmpR op_ne (pe_callB (kLen K) (by rfl) m_len PySem.boot_len (pa_cons (pv 0) pa_nil)) pe_int (nomark _))))) (pss_one (ps_ret pe_bl)) pss_nil) (pss_cons (ps_asg (pv 0) (kpg_tup K rfl (pgs_cons (pg_name (i := 1) sc_is_choir.nd rfl (by first | exact Or.inl rfl | exact Or.inr rfl)) (pgs_cons (pg_name (i := 2) sc_is_choir.nd rfl (by first | exact Or.inl rfl | exact Or.inr rfl)) (pgs_cons (pg_name (i := 3) sc_is_choir.nd rfl (by first | exact Or.inl rfl | exact Or.inr rfl)) pgs_nil))))) (pss_cons (ps_if (PW.pt (pw_or (pt_not (pt_val (pe_call G_is_from (hr.mono (by decide)) rfl g_is_from kp_is_from b_is_from .nil (pE (pn := ())) (pa_cons (pv 1) (pa_cons pe_int (pa_cons (pe_glob (v := .int 30) (by rfl) c_MOST_SINGERS ⟨_, rfl⟩) pa_nil)))))) (pw_or1 (pt_not (pt_val (pe_call G_is_from (hr.mono (by decide)) rfl g_is_from kp_is_from b_is_from .nil (pE (pn := ())) (pa_cons (pv 2) (pa_cons pe_int (pa_cons (pe_glob (v := .int 60) (by rfl) c_MOST_BEATS ⟨_, rfl⟩) pa_nil))))))))) (pss_one (ps_ret pe_bl)) pss_nil) (pss_one (ps_ret (pe_call G_is_from (hr.mono (by decide)) rfl g_is_from kp_is_from b_is_from .nil (pE (pn := ())) (pa_cons (pv 3) (pa_cons pe_int (pa_cons (pv 1) pa_nil))))))))), ?_⟩
  obtain ⟨v, rfl, rfl⟩ := hR
  by_cases ht : ∃ ds, v = .tuple ds
  · obtain ⟨ds, rfl⟩ := ht
    have isT : ∀ {Γ : List Sl} {te : TE}, EP te Γ (Da K (.tuple ds)) → TP (tNot (tB (tCB (rIsi K) (tCons te (tCons (tC (.ty "tuple")) tNil))))) Γ false := fun h => tp_notF (tp_B (ep_isi h ep_ty (by rfl)))
    by_cases hl : ∃ a b c, ds = [a, b, c]
    · obtain ⟨a, b, c, rfl⟩ := hl
      refine q_out (b := false) (tp_orF (isT (ep_var rfl)) ((tp_test (ep_op (ep_cb (ap_cons (ep_var rfl) ap_nil) cd_lenT) ep_int rd_neI)).is (by rfl))) (fun h => absurd h Bool.false_ne_true) fun _ => ?_
      refine q_asgG (ep_var rfl) (gp_tup3 (vs := [1, 2, 3])) ?_
      refine q_out (b := !(Q.isFrom a 1 30) || !(Q.isFrom b 1 60)) (tp_or (tp_not (tp_B (ep_call (ap_cons (ep_var rfl) (ap_cons ep_int (ap_cons ep_int ap_nil))) ⟨a, 1, 30, rfl, rfl⟩))) fun _ => (tp_not (tp_B (ep_call (ap_cons (ep_var rfl) (ap_cons ep_int (ap_cons ep_int ap_nil))) ⟨b, 1, 60, rfl, rfl⟩)))) (fun h => ?_) fun h => ?_
      · exact s_ret ep_bl ⟨_, by rw [Q.isChoir_no (by simpa using h)], .o⟩
      · have h' : Q.isFrom a 1 30 = true ∧ Q.isFrom b 1 60 = true := by simpa using h
        obtain ⟨s', rfl, h1, h2⟩ := Q.isFrom_inv h'.1
        obtain ⟨b', rfl, h3, h4⟩ := Q.isFrom_inv h'.2
        exact s_ret (ep_call (ap_cons (ep_var rfl) (ap_cons ep_int (ap_cons (ep_var rfl) ap_nil))) ⟨c, 0, s', rfl, rfl⟩) ⟨_, by rw [Q.isChoir_of h1 h2 h3 h4], .o⟩
    · refine q_out (b := true) (tp_orF (isT (ep_var rfl)) ((tp_test (ep_op (ep_cb (ap_cons (ep_var rfl) ap_nil) cd_lenT) ep_int rd_neI)).is ?_)) (fun _ => s_ret ep_bl ⟨_, by rw [Q.isChoir_len3 hl], .o⟩) (fun h => absurd h.symm Bool.false_ne_true)
      have : ds.length ≠ 3 := fun e => hl (Q.three e)
      simp; omega
  · exact q_out (b := true) (tp_orT (tp_not (tp_B (ep_isi (ep_var rfl) ep_ty (kit_tuple v)))|>.is (by rw [Q.isTup_no ht]; rfl))) (fun _ => s_ret ep_bl ⟨_, by rw [Q.isChoir_tup ht], .o⟩) (fun h => absurd h.symm Bool.false_ne_true)
/-! ### need_piece -/
theorem sc_need_piece : FnScope ["piece"] ["piece"] (defScope s_need_piece) := ⟨rfl, rfl, rfl, by decide +kernel, rfl, by decide +kernel, by decide +kernel⟩
theorem ok_need_piece (T : Env K mg) (h_is_piece : Has P w K mg base 3 "is_piece" ["value"] (PF K Q.is_piece)) : Has P w K mg base 4 "need_piece" ["piece"] (PF K Q.need_piece) := by
  have k_InvalidPiece := T.glo 41 (x := "InvalidPiece")
  obtain ⟨x_InvalidPiece, kk_InvalidPiece, sb_InvalidPiece, ty_InvalidPiece⟩ := He.exc_ok (T.c.fact 42 (f := .exc "InvalidPiece") rfl)
  obtain ⟨fd_is_piece, g_is_piece, kp_is_piece, b_is_piece, G_is_piece⟩ := h_is_piece
  obtain ⟨fd, Fd⟩ := T.c.def_ 4 (d := d_need_piece) rfl
  refine ⟨fd, T.glo 4, Fd.kp, Fd.bindsN fun _ _ _ _ _ _ us hl => match us, hl with | [_], _ => rfl, ?_⟩
  refine fn_pf Fd sc_need_piece Q.need_piece_len ?_
  intro cdv A outer s H E ds r B hr hR hE
  have hu0 := hr.units
  have pE : ∀ {pn : Unit}, Passes (L2.CX P w) (cxOf (L2.CX P w) P w K mg base ["piece"] "need_piece" (defScope s_need_piece) (He.fAd K d_need_piece.at_) cdv A outer s H E) E := fun {_} => passes_call (takes_of (E := E) rfl rfl rfl rfl) (fun _ _ _ _ z => z)
  refine ⟨_, (pss_one (ps_if (pt_not (pt_val (pe_call G_is_piece (hr.mono (by decide)) rfl g_is_piece kp_is_piece b_is_piece .nil (pE (pn := ())) (pa_cons (pv 0) pa_nil)))) (pss_one (ps_raise rfl (takes_of (E := E) rfl rfl rfl rfl) (pmk_own PySem.F.excBase_ValueError x_InvalidPiece k_InvalidPiece kk_InvalidPiece (raises_own sb_InvalidPiece ty_InvalidPiece) rfl))) pss_nil)), ?_⟩
  obtain ⟨v, rfl, rfl⟩ := hR
  refine s_if (tp_not (tp_B (ep_call (ap_cons (ep_var rfl) ap_nil) ⟨v, rfl, rfl⟩))) (fun h => ?_) (fun h => ?_)
  · have h' : Q.isPiece v = false := by simpa using h
    exact s_raise rfl (hE _ (by rw [h']; rfl))
  · have h' : Q.isPiece v = true := by simpa using h
    exact s_next (by rw [h']; rfl)
/-! ### need_choir -/
theorem sc_need_choir : FnScope ["piece", "choir"] ["piece", "choir"] (defScope s_need_choir) := ⟨rfl, rfl, rfl, by decide +kernel, rfl, by decide +kernel, by decide +kernel⟩
theorem ok_need_choir (T : Env K mg) (h_need_piece : Has P w K mg base 4 "need_piece" ["piece"] (PF K Q.need_piece)) (h_is_choir : Has P w K mg base 2 "is_choir" ["value"] (PF K Q.is_choir)) : Has P w K mg base 5 "need_choir" ["piece", "choir"] (PF K Q.need_choir) := by
  have k_InvalidChoir := T.glo 43 (x := "InvalidChoir")
  obtain ⟨x_InvalidChoir, kk_InvalidChoir, sb_InvalidChoir, ty_InvalidChoir⟩ := He.exc_ok (T.c.fact 44 (f := .exc "InvalidChoir") rfl)
  obtain ⟨fd_need_piece, g_need_piece, kp_need_piece, b_need_piece, G_need_piece⟩ := h_need_piece
  obtain ⟨fd_is_choir, g_is_choir, kp_is_choir, b_is_choir, G_is_choir⟩ := h_is_choir
  obtain ⟨fd, Fd⟩ := T.c.def_ 5 (d := d_need_choir) rfl
  refine ⟨fd, T.glo 5, Fd.kp, Fd.bindsN fun _ _ _ _ _ _ us hl => match us, hl with | [_, _], _ => rfl, ?_⟩
  refine fn_pf Fd sc_need_choir Q.need_choir_len ?_
  intro cdv A outer s H E ds r B hr hR hE
  have hu0 := hr.units
  have pE : ∀ {pn : Unit}, Passes (L2.CX P w) (cxOf (L2.CX P w) P w K mg base ["piece", "choir"] "need_choir" (defScope s_need_choir) (He.fAd K d_need_choir.at_) cdv A outer s H E) E := fun {_} => passes_call (takes_of (E := E) rfl rfl rfl rfl) (fun _ _ _ _ z => z)
  refine ⟨_, (pss_cons (ps_expr (pe_call G_need_piece (hr.mono (by decide)) rfl g_need_piece kp_need_piece b_need_piece .nil (pE (pn := ())) (pa_cons (pv 0) pa_nil))) (pss_one (ps_if (pt_not (pt_val (pe_call G_is_choir (hr.mono (by decide)) rfl g_is_choir kp_is_choir b_is_choir .nil (pE (pn := ())) (pa_cons (pv 1) pa_nil)))) (pss_one (ps_raise rfl (takes_of (E := E) rfl rfl rfl rfl) (pmk_own PySem.F.excBase_ValueError x_InvalidChoir k_InvalidChoir kk_InvalidChoir (raises_own sb_InvalidChoir ty_InvalidChoir) rfl))) pss_nil))), ?_⟩
  obtain ⟨v, u, rfl, rfl⟩ := hR
  refine q_call (ap_cons (ep_var rfl) ap_nil) ⟨v, rfl, rfl⟩ (fun d hd => ?_) (fun x hx => hE x ?_)
  · have hv : Q.isPiece v = true := by
      cases e : Q.isPiece v with
      | true => rfl
      | false => rw [e] at hd; cases hd
    refine s_if (tp_not (tp_B (ep_call (ap_cons (ep_var rfl) ap_nil) ⟨u, rfl, rfl⟩))) (fun h => ?_) (fun h => ?_)
    · have h' : Q.isChoir u = false := by simpa using h
      exact s_raise rfl (hE _ (by rw [hv, h']; rfl))
    · have h' : Q.isChoir u = true := by simpa using h
      exact s_next (by rw [hv, h']; rfl)
  · cases e : Q.isPiece v with
    | true => rw [e] at hx; cases hx
    | false => rw [e] at hx; exact hx
/-! ### window_counts -/
theorem sc_window_counts : FnScope ["piece", "breath", "count", "allowed", "start", "beat"] ["piece", "breath"] (defScope s_window_counts) := ⟨rfl, rfl, rfl, by decide +kernel, rfl, by decide +kernel, by decide +kernel⟩
theorem ok_window_counts (T : Env K mg) : Has P w K mg base 1 "window_counts" ["piece", "breath"] (PF K Q.window_counts) := by
  have m_range := T.free 32 (x := "range")
  have m_len := T.free 31 (x := "len")
  obtain ⟨fd, Fd⟩ := T.c.def_ 6 (d := d_window_counts) rfl
  refine ⟨fd, T.glo 6, Fd.kp, Fd.bindsN fun _ _ _ _ _ _ us hl => match us, hl with | [_, _], _ => rfl, ?_⟩
  refine fn_pf Fd sc_window_counts Q.window_counts_len ?_
  intro cdv A outer s H E ds r B hr hR hE
  have hu0 := hr.units
  have pE : ∀ {pn : Unit}, Passes (L2.CX P w) (cxOf (L2.CX P w) P w K mg base ["piece", "breath", "count", "allowed", "start", "beat"] "window_counts" (defScope s_window_counts) (He.fAd K d_window_counts.at_) cdv A outer s H E) E := fun {_} => passes_call (takes_of (E := E) rfl rfl rfl rfl) (fun _ _ _ _ z => z)
  refine ⟨_, (pss_cons (ps_asg (pv 0) (kpg_tup K rfl (pgs_cons (pg_name (i := 2) sc_window_counts.nd rfl (by first | exact Or.inl rfl | exact Or.inr rfl)) (pgs_cons (pg_name (i := 3) sc_window_counts.nd rfl (by first | exact Or.inl rfl | exact Or.inr rfl)) pgs_nil)))) (pss_one (ps_ret (pe_lc (own := [("start", 4)]) (g := (gName 4)) (tt := tYes) rfl sc_window_counts.nd (pi_range1 (by rfl) m_range (pa_cons (pe_op op_sub (pv 2) (pv 1)) pa_nil)) (blkOk_by (own := [("start", 4)]) (by kernel_rfl)) (fun _ _ _ _ _ => (pg_name (i := 4) sc_window_counts.nd rfl (by first | exact Or.inl rfl | exact Or.inr rfl))) (fun _ _ _ _ _ => pts_nil) (fun _ _ _ _ _ => (pe_callB (kLen K) (by rfl) m_len PySem.boot_len (pa_cons (pe_lc (own := [("beat", 5)]) (g := (gName 5)) rfl sc_window_counts.nd (kpi_tup K (pv 3)) (blkOk_by (own := [("beat", 5)]) (by kernel_rfl)) (fun _ _ _ _ _ => (pg_name (i := 5) sc_window_counts.nd rfl (by first | exact Or.inl rfl | exact Or.inr rfl))) (fun _ _ _ _ _ => pts_one (pt_chain op_le op_le (pv 4) (pv 5) (pe_op op_add (pv 4) (pv 1)))) (fun _ _ _ _ _ => (pv 5))) pa_nil))))))), ?_⟩
  obtain ⟨c, al, b, hp, b0, b1, rfl, rfl⟩ := hR
  have := hp.c1; have := hp.c2
  refine q_asgG (ep_var rfl) (gp_tup2 (vs := [2, 3])) ?_
  refine s_retO ?_ fun p => ⟨_, rfl, .l⟩
  refine eo_map (xs := rng 0 (c - b)) (w := fun st => .int (Q.cnt al st b)) (ip_rng1 (ap_cons (ep_op (ep_var rfl) (ep_var rfl) (rd_I0 rfl)) ap_nil) (by omega) (by omega)) (fun st hst => ?_) (by unfold Q.wc; rw [List.map_map]; rfl)
  exact (ep_cb (ap_cons (EO.frz (eo_lcN (xs := al) (f := Q.inW st b) (w := PyData.int) (ip_tup (ep_var rfl)) (fun x hx => tp_test (ep_chain (ep_var rfl) (ep_var rfl) (rd_I0b rfl) (fun _ => ep_op (ep_var rfl) (ep_var rfl) (rd_I0 rfl)) (rd_I0b rfl))) (fun x hx _ => ep_var rfl) rfl)) ap_nil) cd_len).is (by rw [List.length_map]; rfl)
/-! ### enough -/
theorem sc_enough : FnScope ["piece", "choir", "singers", "breath", "voices", "many"] ["piece", "choir"] (defScope s_enough) := ⟨rfl, rfl, rfl, by decide +kernel, rfl, by decide +kernel, by decide +kernel⟩
theorem ok_enough (T : Env K mg) (h_window_counts : Has P w K mg base 1 "window_counts" ["piece", "breath"] (PF K Q.window_counts)) : Has P w K mg base 2 "enough" ["piece", "choir"] (PF K Q.enough) := by
  have m_all := T.free 28 (x := "all")
  obtain ⟨fd_window_counts, g_window_counts, kp_window_counts, b_window_counts, G_window_counts⟩ := h_window_counts
  obtain ⟨fd, Fd⟩ := T.c.def_ 7 (d := d_enough) rfl
  refine ⟨fd, T.glo 7, Fd.kp, Fd.bindsN fun _ _ _ _ _ _ us hl => match us, hl with | [_, _], _ => rfl, ?_⟩
  refine fn_pf Fd sc_enough Q.enough_len ?_
  intro cdv A outer s H E ds r B hr hR hE
  have hu0 := hr.units
  have pE : ∀ {pn : Unit}, Passes (L2.CX P w) (cxOf (L2.CX P w) P w K mg base ["piece", "choir", "singers", "breath", "voices", "many"] "enough" (defScope s_enough) (He.fAd K d_enough.at_) cdv A outer s H E) E := fun {_} => passes_call (takes_of (E := E) rfl rfl rfl rfl) (fun _ _ _ _ z => z)
  refine ⟨_, (pss_cons (ps_asg (pv 1) (kpg_tup K rfl (pgs_cons (pg_name (i := 2) sc_enough.nd rfl (by first | exact Or.inl rfl | exact Or.inr rfl)) (pgs_cons (pg_name (i := 3) sc_enough.nd rfl (by first | exact Or.inl rfl | exact Or.inr rfl)) (pgs_cons (pg_name (i := 4) sc_enough.nd rfl (by first | exact Or.inl rfl | exact Or.inr rfl)) pgs_nil))))) (pss_one (ps_ret (pe_callB (kAll K) (by rfl) m_all (by decide +kernel) (pa_cons (pe_lc (own := [("many", 5)]) (g := (gName 5)) (tt := tYes) rfl sc_enough.nd (kpi_list K (pe_call G_window_counts (hr.mono (by decide)) rfl g_window_counts kp_window_counts b_window_counts .nil (pE (pn := ())) (pa_cons (pv 0) (pa_cons (pv 3) pa_nil)))) (blkOk_by (own := [("many", 5)]) (by kernel_rfl)) (fun _ _ _ _ _ => (pg_name (i := 5) sc_enough.nd rfl (by first | exact Or.inl rfl | exact Or.inr rfl))) (fun _ _ _ _ _ => pts_nil) (fun _ _ _ _ _ => (pe_cmpR op_ge (pe_op op_mul (pe_op op_sub (pv 2) (pv 4)) (pv 5)) (pv 2) (nomark _)))) pa_nil))))), ?_⟩
  obtain ⟨c, al, s, b, h, hp, hc, rfl, rfl⟩ := hR
  have := hc.s1; have := hc.s2; have := hc.h1; have := hc.h2; have := hc.b1; have := hc.b2
  refine q_asgG (ep_var rfl) (gp_tup3 (vs := [2, 3, 4])) ?_
  refine s_ret (ep_cb (ap_cons (EO.frz (eo_map (xs := Q.wc c b al) (w := fun m => .bool (decide (s ≤ (s - h) * m))) (ip_list (ep_call (ap_cons (ep_var rfl) (ap_cons (ep_var rfl) ap_nil)) ⟨c, al, b, hp, by omega, by omega, rfl, rfl⟩)) (fun m hm => ep_op (ep_op (ep_op (ep_var rfl) (ep_var rfl) (rd_I0 rfl)) (ep_var rfl) (rd_I (.inl (by omega)) rfl)) (ep_var rfl) (rd_I0b rfl)) (map_bool _ _))) ap_nil) cd_all) ⟨_, ?_, .o⟩
  rw [List.all_map]; rfl
/-! ### can_sing -/
theorem sc_can_sing : FnScope ["piece", "choir"] ["piece", "choir"] (defScope s_can_sing) := ⟨rfl, rfl, rfl, by decide +kernel, rfl, by decide +kernel, by decide +kernel⟩
theorem ok_can_sing (T : Env K mg) (h_need_choir : Has P w K mg base 5 "need_choir" ["piece", "choir"] (PF K Q.need_choir)) (h_enough : Has P w K mg base 2 "enough" ["piece", "choir"] (PF K Q.enough)) : Has P w K mg base 6 "can_sing" ["piece", "choir"] (PF K Q.can_sing) := by
  obtain ⟨fd_need_choir, g_need_choir, kp_need_choir, b_need_choir, G_need_choir⟩ := h_need_choir
  obtain ⟨fd_enough, g_enough, kp_enough, b_enough, G_enough⟩ := h_enough
  obtain ⟨fd, Fd⟩ := T.c.def_ 8 (d := d_can_sing) rfl
  refine ⟨fd, T.glo 8, Fd.kp, Fd.bindsN fun _ _ _ _ _ _ us hl => match us, hl with | [_, _], _ => rfl, ?_⟩
  refine fn_pf Fd sc_can_sing Q.can_sing_len ?_
  intro cdv A outer s H E ds r B hr hR hE
  have hu0 := hr.units
  have pE : ∀ {pn : Unit}, Passes (L2.CX P w) (cxOf (L2.CX P w) P w K mg base ["piece", "choir"] "can_sing" (defScope s_can_sing) (He.fAd K d_can_sing.at_) cdv A outer s H E) E := fun {_} => passes_call (takes_of (E := E) rfl rfl rfl rfl) (fun _ _ _ _ z => z)
  refine ⟨_, (pss_cons (ps_expr (pe_call G_need_choir (hr.mono (by decide)) rfl g_need_choir kp_need_choir b_need_choir .nil (pE (pn := ())) (pa_cons (pv 0) (pa_cons (pv 1) pa_nil)))) (pss_one (ps_ret (pe_call G_enough (hr.mono (by decide)) rfl g_enough kp_enough b_enough .nil (pE (pn := ())) (pa_cons (pv 0) (pa_cons (pv 1) pa_nil)))))), ?_⟩
  rcases hR with ⟨c, al, s, b, h, hp, hc, rfl, rfl⟩ | ⟨v, u, l, rfl, hl, hb, rfl⟩
  · refine q_call (ap_cons (ep_var rfl) (ap_cons (ep_var rfl) ap_nil)) (Q.need_choir_ok hp hc) (fun d hd => ?_) (fun x hx => nomatch hx)
    exact s_ret (ep_call (ap_cons (ep_var rfl) (ap_cons (ep_var rfl) ap_nil)) ⟨c, al, s, b, h, hp, hc, rfl, rfl⟩) ⟨_, rfl, .o⟩
  · have : l = [] := List.eq_nil_of_length_eq_zero hl
    subst this
    exact q_call (ap_cons (ep_var rfl) (ap_cons (ep_var rfl) ap_nil)) (Q.need_choir_no hb) (fun d hd => absurd hd (Q.pcerr_ne v d)) hE
/-! ### without -/
theorem sc_without : FnScope ["piece", "beat", "one"] ["piece", "beat"] (defScope s_without) := ⟨rfl, rfl, rfl, by decide +kernel, rfl, by decide +kernel, by decide +kernel⟩
theorem ok_without (T : Env K mg) : Has P w K mg base 1 "without" ["piece", "beat"] (PF K Q.without) := by
  have m_tuple := T.free 29 (x := "tuple")
  obtain ⟨fd, Fd⟩ := T.c.def_ 9 (d := d_without) rfl
  refine ⟨fd, T.glo 9, Fd.kp, Fd.bindsN fun _ _ _ _ _ _ us hl => match us, hl with | [_, _], _ => rfl, ?_⟩
  refine fn_pf Fd sc_without Q.without_len ?_
  intro cdv A outer s H E ds r B hr hR hE
  have hu0 := hr.units
  have pE : ∀ {pn : Unit}, Passes (L2.CX P w) (cxOf (L2.CX P w) P w K mg base ["piece", "beat", "one"] "without" (defScope s_without) (He.fAd K d_without.at_) cdv A outer s H E) E := fun {_} => passes_call (takes_of (E := E) rfl rfl rfl rfl) (fun _ _ _ _ z => z)
  refine ⟨_, (pss_one (ps_ret (pe_tup (pa_cons (pe_ix (kIxT K) (pv 0) pe_int (fun _ _ => rfl)) (pa_cons (pe_callTy (kTuple K) (by rfl) m_tuple (by decide +kernel) (pa_cons (pe_lc (own := [("one", 2)]) (g := (gName 2)) rfl sc_without.nd (kpi_tup K (pe_ix (kIxT K) (pv 0) pe_int (fun _ _ => rfl))) (blkOk_by (own := [("one", 2)]) (by kernel_rfl)) (fun _ _ _ _ _ => (pg_name (i := 2) sc_without.nd rfl (by first | exact Or.inl rfl | exact Or.inr rfl))) (fun _ _ _ _ _ => pts_one (pt_cmpR op_ne (pv 2) (pv 1) (nomark _))) (fun _ _ _ _ _ => (pv 2))) pa_nil)) pa_nil))))), ?_⟩
  obtain ⟨c, al, b, hp, rfl, rfl⟩ := hR
  refine s_ret (ep_tup (xs := [.int c, Q.tI (Q.wo al b)]) (ap_cons (ep_op (ep_var rfl) ep_int (rd_ixT rfl)) (ap_cons (ep_cb (ap_cons (EO.frz (eo_lcN (xs := al) (f := fun x => !decide (x = b)) (w := PyData.int) (ip_tup (ep_op (ep_var rfl) ep_int (rd_ixT rfl))) (fun x hx => tp_test (ep_op (ep_var rfl) (ep_var rfl) rd_neI)) (fun x hx _ => ep_var rfl) rfl)) ap_nil) (cd_tuple (.inl rfl))) ap_nil)) (Nat.le_of_ble_eq_true rfl)) ⟨_, rfl, .o⟩
/-! ### with_beat -/
theorem sc_with_beat : FnScope ["piece", "beat"] ["piece", "beat"] (defScope s_with_beat) := ⟨rfl, rfl, rfl, by decide +kernel, rfl, by decide +kernel, by decide +kernel⟩
theorem ok_with_beat (T : Env K mg) : Has P w K mg base 1 "with_beat" ["piece", "beat"] (PF K Q.with_beat) := by
  have m_tuple := T.free 29 (x := "tuple")
  have m_sorted := T.free 33 (x := "sorted")
  obtain ⟨fd, Fd⟩ := T.c.def_ 10 (d := d_with_beat) rfl
  refine ⟨fd, T.glo 10, Fd.kp, Fd.bindsN fun _ _ _ _ _ _ us hl => match us, hl with | [_, _], _ => rfl, ?_⟩
  refine fn_pf Fd sc_with_beat Q.with_beat_len ?_
  intro cdv A outer s H E ds r B hr hR hE
  have hu0 := hr.units
  have pE : ∀ {pn : Unit}, Passes (L2.CX P w) (cxOf (L2.CX P w) P w K mg base ["piece", "beat"] "with_beat" (defScope s_with_beat) (He.fAd K d_with_beat.at_) cdv A outer s H E) E := fun {_} => passes_call (takes_of (E := E) rfl rfl rfl rfl) (fun _ _ _ _ z => z)
  refine ⟨_, (pss_one (ps_ret (pe_tup (pa_cons (pe_ix (kIxT K) (pv 0) pe_int (fun _ _ => rfl)) (pa_cons (pe_callTy (kTuple K) (by rfl) m_tuple (by decide +kernel) (pa_cons (pe_callB (kSortedT K) (by rfl) m_sorted (by decide +kernel) (pa_cons (pe_op (kCatT K) (pe_ix (kIxT K) (pv 0) pe_int (fun _ _ => rfl)) (pe_tup (pa_cons (pv 1) pa_nil))) pa_nil)) pa_nil)) pa_nil))))), ?_⟩
  obtain ⟨c, al, b, hp, hb, b0, b1, rfl, rfl⟩ := hR
  have hl := hp.len; have := hp.c2
  refine s_ret (ep_tup (xs := [.int c, Q.tI (Q.wi al b)]) (ap_cons (ep_op (ep_var rfl) ep_int (rd_ixT rfl)) (ap_cons (ep_cb (ap_cons (EO.frz (eo_cb (ap_cons ((ep_op (ep_op (ep_var rfl) ep_int (rd_ixT rfl)) (ep_tup (xs := [.int b]) (ap_cons (ep_var rfl) ap_nil) (Nat.le_of_ble_eq_true rfl)) (rd_catA (ds := al.map .int) (by rw [List.length_map]; show al.length + 1 ≤ 4096; omega))).is (s' := Da K (.tuple ((al ++ [b]).map .int))) (by rw [List.map_append]; rfl)) ap_nil) (co_sortT (by rw [List.length_append]; show al.length + 1 < 64; omega)))) ap_nil) (cd_tuple (.inl (by rw [Q.sort_wi hp.asc hb])))) ap_nil)) (Nat.le_of_ble_eq_true rfl)) ⟨_, rfl, .o⟩
/-! ### forbidden -/
theorem sc_forbidden : FnScope ["piece", "beat"] ["piece"] (defScope s_forbidden) := ⟨rfl, rfl, rfl, by decide +kernel, rfl, by decide +kernel, by decide +kernel⟩
theorem ok_forbidden (T : Env K mg) : Has P w K mg base 1 "forbidden" ["piece"] (PF K Q.forbidden) := by
  have m_range := T.free 32 (x := "range")
  obtain ⟨fd, Fd⟩ := T.c.def_ 11 (d := d_forbidden) rfl
  refine ⟨fd, T.glo 11, Fd.kp, Fd.bindsN fun _ _ _ _ _ _ us hl => match us, hl with | [_], _ => rfl, ?_⟩
  refine fn_pf Fd sc_forbidden Q.forbidden_len ?_
  intro cdv A outer s H E ds r B hr hR hE
  have hu0 := hr.units
  have pE : ∀ {pn : Unit}, Passes (L2.CX P w) (cxOf (L2.CX P w) P w K mg base ["piece", "beat"] "forbidden" (defScope s_forbidden) (He.fAd K d_forbidden.at_) cdv A outer s H E) E := fun {_} => passes_call (takes_of (E := E) rfl rfl rfl rfl) (fun _ _ _ _ z => z)
  refine ⟨_, (pss_one (ps_ret (pe_lc (own := [("beat", 1)]) (g := (gName 1)) rfl sc_forbidden.nd (pi_range1 (by rfl) m_range (pa_cons (pe_ix (kIxT K) (pv 0) pe_int (fun _ _ => rfl)) pa_nil)) (blkOk_by (own := [("beat", 1)]) (by kernel_rfl)) (fun _ _ _ _ _ => (pg_name (i := 1) sc_forbidden.nd rfl (by first | exact Or.inl rfl | exact Or.inr rfl))) (fun _ _ _ _ _ => pts_one (pt_cmpR (kNotIn K) (pv 1) (pe_ix (kIxT K) (pv 0) pe_int (fun _ _ => rfl)) (by rfl))) (fun _ _ _ _ _ => (pv 1))))), ?_⟩
  obtain ⟨c, al, hp, rfl, rfl⟩ := hR
  have := hp.c1; have := hp.c2
  exact s_retO (eo_lcN (xs := rng 0 c) (f := fun b => !decide (b ∈ al)) (w := PyData.int) (ip_rng1 (ap_cons (ep_op (ep_var rfl) ep_int (rd_ixT rfl)) ap_nil) (by omega) (by omega)) (fun x hx => tp_test (ep_op (ep_var rfl) (ep_op (ep_var rfl) ep_int (rd_ixT rfl)) (rd_inI (neg := true) (.inr rfl)))) (fun x hx _ => ep_var rfl) rfl) fun p => ⟨_, rfl, .l⟩
/-! ### needed_beats -/
theorem sc_needed_beats : FnScope ["piece", "choir", "beat"] ["piece", "choir"] (defScope s_needed_beats) := ⟨rfl, rfl, rfl, by decide +kernel, rfl, by decide +kernel, by decide +kernel⟩
theorem ok_needed_beats (T : Env K mg) (h_need_choir : Has P w K mg base 5 "need_choir" ["piece", "choir"] (PF K Q.need_choir)) (h_enough : Has P w K mg base 2 "enough" ["piece", "choir"] (PF K Q.enough)) (h_without : Has P w K mg base 1 "without" ["piece", "beat"] (PF K Q.without)) : Has P w K mg base 6 "needed_beats" ["piece", "choir"] (PF K Q.needed_beats) := by
  obtain ⟨fd_need_choir, g_need_choir, kp_need_choir, b_need_choir, G_need_choir⟩ := h_need_choir
  obtain ⟨fd_enough, g_enough, kp_enough, b_enough, G_enough⟩ := h_enough
  obtain ⟨fd_without, g_without, kp_without, b_without, G_without⟩ := h_without
  obtain ⟨fd, Fd⟩ := T.c.def_ 12 (d := d_needed_beats) rfl
  refine ⟨fd, T.glo 12, Fd.kp, Fd.bindsN fun _ _ _ _ _ _ us hl => match us, hl with | [_, _], _ => rfl, ?_⟩
  refine fn_pf Fd sc_needed_beats Q.needed_beats_len ?_
  intro cdv A outer s H E ds r B hr hR hE
  have hu0 := hr.units
  have pE : ∀ {pn : Unit}, Passes (L2.CX P w) (cxOf (L2.CX P w) P w K mg base ["piece", "choir", "beat"] "needed_beats" (defScope s_needed_beats) (He.fAd K d_needed_beats.at_) cdv A outer s H E) E := fun {_} => passes_call (takes_of (E := E) rfl rfl rfl rfl) (fun _ _ _ _ z => z)
  refine ⟨_, (pss_cons (ps_expr (pe_call G_need_choir (hr.mono (by decide)) rfl g_need_choir kp_need_choir b_need_choir .nil (pE (pn := ())) (pa_cons (pv 0) (pa_cons (pv 1) pa_nil)))) (pss_cons (ps_if (pt_not (pt_val (pe_call G_enough (hr.mono (by decide)) rfl g_enough kp_enough b_enough .nil (pE (pn := ())) (pa_cons (pv 0) (pa_cons (pv 1) pa_nil))))) (pss_one (ps_ret (pe_lst pa_nil))) pss_nil) (pss_one (ps_ret (pe_lc (own := [("beat", 2)]) (g := (gName 2)) rfl sc_needed_beats.nd (kpi_tup K (pe_ix (kIxT K) (pv 0) pe_int (fun _ _ => rfl))) (blkOk_by (own := [("beat", 2)]) (by kernel_rfl)) (fun _ _ _ _ _ => (pg_name (i := 2) sc_needed_beats.nd rfl (by first | exact Or.inl rfl | exact Or.inr rfl))) (fun _ _ _ _ _ => pts_one (pt_not (pt_val (pe_call G_enough (hr.mono (by decide)) rfl g_enough kp_enough b_enough .nil passL (pa_cons (pe_call G_without (hr.mono (by decide)) rfl g_without kp_without b_without .nil passL (pa_cons (pv 0) (pa_cons (pv 2) pa_nil))) (pa_cons (pv 1) pa_nil)))))) (fun _ _ _ _ _ => (pv 2))))))), ?_⟩
  rcases hR with ⟨c, al, s, b, h, hp, hc, rfl, rfl⟩ | ⟨v, u, l, rfl, hl, hb, rfl⟩
  · refine q_call (ap_cons (ep_var rfl) (ap_cons (ep_var rfl) ap_nil)) (Q.need_choir_ok hp hc) (fun d hd => ?_) (fun x hx => nomatch hx)
    refine q_out (tp_not (tp_B (ep_call (ap_cons (ep_var rfl) (ap_cons (ep_var rfl) ap_nil)) ⟨c, al, s, b, h, hp, hc, rfl, rfl⟩))) (fun z => ?_) fun z => ?_
    · have z' : ¬ Q.en c al s b h = true := by simpa using z
      exact s_retO (eo_lst (xs := []) ap_nil (Nat.zero_le _)) fun p => ⟨_, by show Except.ok (Q.lI (Q.nb c al s b h)) = _; rw [Q.nb_no z']; rfl, .l⟩
    · have z' : Q.en c al s b h = true := by simpa using z
      exact s_retO (eo_lcN (xs := al) (f := fun x => !Q.en c (Q.wo al x) s b h) (w := PyData.int) (ip_tup (ep_op (ep_var rfl) ep_int (rd_ixT rfl))) (fun x hx => tp_not (tp_B (ep_call (ap_cons (ep_call (ap_cons (ep_var rfl) (ap_cons (ep_var rfl) ap_nil)) ⟨c, al, x, hp, rfl, rfl⟩) (ap_cons (ep_var rfl) ap_nil)) ⟨c, _, s, b, h, hp.wo x, hc, rfl, rfl⟩))) (fun x hx _ => ep_var rfl) rfl) fun p => ⟨_, by show Except.ok (Q.lI (Q.nb c al s b h)) = _; rw [Q.nb_yes z']; rfl, .l⟩
  · have : l = [] := List.eq_nil_of_length_eq_zero hl
    subst this
    exact q_call (ap_cons (ep_var rfl) (ap_cons (ep_var rfl) ap_nil)) (Q.need_choir_no hb) (fun d hd => absurd hd (Q.pcerr_ne v d)) hE
/-! ### helpful_beats -/
theorem sc_helpful_beats : FnScope ["piece", "choir", "beat"] ["piece", "choir"] (defScope s_helpful_beats) := ⟨rfl, rfl, rfl, by decide +kernel, rfl, by decide +kernel, by decide +kernel⟩
theorem ok_helpful_beats (T : Env K mg) (h_need_choir : Has P w K mg base 5 "need_choir" ["piece", "choir"] (PF K Q.need_choir)) (h_enough : Has P w K mg base 2 "enough" ["piece", "choir"] (PF K Q.enough)) (h_forbidden : Has P w K mg base 1 "forbidden" ["piece"] (PF K Q.forbidden)) (h_with_beat : Has P w K mg base 1 "with_beat" ["piece", "beat"] (PF K Q.with_beat)) : Has P w K mg base 6 "helpful_beats" ["piece", "choir"] (PF K Q.helpful_beats) := by
  obtain ⟨fd_need_choir, g_need_choir, kp_need_choir, b_need_choir, G_need_choir⟩ := h_need_choir
  obtain ⟨fd_enough, g_enough, kp_enough, b_enough, G_enough⟩ := h_enough
  obtain ⟨fd_forbidden, g_forbidden, kp_forbidden, b_forbidden, G_forbidden⟩ := h_forbidden
  obtain ⟨fd_with_beat, g_with_beat, kp_with_beat, b_with_beat, G_with_beat⟩ := h_with_beat
  obtain ⟨fd, Fd⟩ := T.c.def_ 13 (d := d_helpful_beats) rfl
  refine ⟨fd, T.glo 13, Fd.kp, Fd.bindsN fun _ _ _ _ _ _ us hl => match us, hl with | [_, _], _ => rfl, ?_⟩
  refine fn_pf Fd sc_helpful_beats Q.helpful_beats_len ?_
  intro cdv A outer s H E ds r B hr hR hE
  have hu0 := hr.units
  have pE : ∀ {pn : Unit}, Passes (L2.CX P w) (cxOf (L2.CX P w) P w K mg base ["piece", "choir", "beat"] "helpful_beats" (defScope s_helpful_beats) (He.fAd K d_helpful_beats.at_) cdv A outer s H E) E := fun {_} => passes_call (takes_of (E := E) rfl rfl rfl rfl) (fun _ _ _ _ z => z)
  refine ⟨_, (pss_cons (ps_expr (pe_call G_need_choir (hr.mono (by decide)) rfl g_need_choir kp_need_choir b_need_choir .nil (pE (pn := ())) (pa_cons (pv 0) (pa_cons (pv 1) pa_nil)))) (pss_cons (ps_if (pt_val (pe_call G_enough (hr.mono (by decide)) rfl g_enough kp_enough b_enough .nil (pE (pn := ())) (pa_cons (pv 0) (pa_cons (pv 1) pa_nil)))) (pss_one (ps_ret (pe_lst pa_nil))) pss_nil) (pss_one (ps_ret (pe_lc (own := [("beat", 2)]) (g := (gName 2)) rfl sc_helpful_beats.nd (kpi_list K (pe_call G_forbidden (hr.mono (by decide)) rfl g_forbidden kp_forbidden b_forbidden .nil (pE (pn := ())) (pa_cons (pv 0) pa_nil))) (blkOk_by (own := [("beat", 2)]) (by kernel_rfl)) (fun _ _ _ _ _ => (pg_name (i := 2) sc_helpful_beats.nd rfl (by first | exact Or.inl rfl | exact Or.inr rfl))) (fun _ _ _ _ _ => pts_one (pt_val (pe_call G_enough (hr.mono (by decide)) rfl g_enough kp_enough b_enough .nil passL (pa_cons (pe_call G_with_beat (hr.mono (by decide)) rfl g_with_beat kp_with_beat b_with_beat .nil passL (pa_cons (pv 0) (pa_cons (pv 2) pa_nil))) (pa_cons (pv 1) pa_nil))))) (fun _ _ _ _ _ => (pv 2))))))), ?_⟩
  rcases hR with ⟨c, al, s, b, h, hp, hc, rfl, rfl⟩ | ⟨v, u, l, rfl, hl, hb, rfl⟩
  · refine q_call (ap_cons (ep_var rfl) (ap_cons (ep_var rfl) ap_nil)) (Q.need_choir_ok hp hc) (fun d hd => ?_) (fun x hx => nomatch hx)
    refine q_out (tp_B (ep_call (ap_cons (ep_var rfl) (ap_cons (ep_var rfl) ap_nil)) ⟨c, al, s, b, h, hp, hc, rfl, rfl⟩)) (fun z => ?_) fun z => ?_
    · exact s_retO (eo_lst (xs := []) ap_nil (Nat.zero_le _)) fun p => ⟨_, by show Except.ok (Q.lI (Q.hb c al s b h)) = _; rw [Q.hb_no z]; rfl, .l⟩
    · have z' : ¬ Q.en c al s b h = true := by rw [z]; exact Bool.false_ne_true
      exact s_retO (eo_lcN (xs := Q.fb c al) (f := fun x => Q.en c (Q.wi al x) s b h) (w := PyData.int) (ip_list (ep_call (ap_cons (ep_var rfl) ap_nil) ⟨c, al, hp, rfl, rfl⟩)) (fun x hx => tp_B (ep_call (ap_cons (ep_call (ap_cons (ep_var rfl) (ap_cons (ep_var rfl) ap_nil)) ⟨c, al, x, hp, (Q.mem_fb.mp hx).2.2, (Q.mem_fb.mp hx).1, (Q.mem_fb.mp hx).2.1, rfl, rfl⟩) (ap_cons (ep_var rfl) ap_nil)) ⟨c, _, s, b, h, hp.wi (Q.mem_fb.mp hx).1 (Q.mem_fb.mp hx).2.1, hc, rfl, rfl⟩)) (fun x hx _ => ep_var rfl) rfl) fun p => ⟨_, by show Except.ok (Q.lI (Q.hb c al s b h)) = _; rw [Q.hb_yes z']; rfl, .l⟩
  · have : l = [] := List.eq_nil_of_length_eq_zero hl
    subst this
    exact q_call (ap_cons (ep_var rfl) (ap_cons (ep_var rfl) ap_nil)) (Q.need_choir_no hb) (fun d hd => absurd hd (Q.pcerr_ne v d)) hE
/-! ### need_number -/
theorem sc_need_number : FnScope ["value", "low", "high"] ["value", "low", "high"] (defScope s_need_number) := ⟨rfl, rfl, rfl, by decide +kernel, rfl, by decide +kernel, by decide +kernel⟩
theorem ok_need_number (T : Env K mg) (h_is_from : Has P w K mg base 1 "is_from" ["value", "low", "high"] (PF K Q.is_from)) : Has P w K mg base 2 "need_number" ["value", "low", "high"] (PF K Q.need_number) := by
  have k_InvalidNumber := T.glo 45 (x := "InvalidNumber")
  obtain ⟨x_InvalidNumber, kk_InvalidNumber, sb_InvalidNumber, ty_InvalidNumber⟩ := He.exc_ok (T.c.fact 46 (f := .exc "InvalidNumber") rfl)
  obtain ⟨fd_is_from, g_is_from, kp_is_from, b_is_from, G_is_from⟩ := h_is_from
  obtain ⟨fd, Fd⟩ := T.c.def_ 14 (d := d_need_number) rfl
  refine ⟨fd, T.glo 14, Fd.kp, Fd.bindsN fun _ _ _ _ _ _ us hl => match us, hl with | [_, _, _], _ => rfl, ?_⟩
  refine fn_pf Fd sc_need_number Q.need_number_len ?_
  intro cdv A outer s H E ds r B hr hR hE
  have hu0 := hr.units
  have pE : ∀ {pn : Unit}, Passes (L2.CX P w) (cxOf (L2.CX P w) P w K mg base ["value", "low", "high"] "need_number" (defScope s_need_number) (He.fAd K d_need_number.at_) cdv A outer s H E) E := fun {_} => passes_call (takes_of (E := E) rfl rfl rfl rfl) (fun _ _ _ _ z => z)
  refine ⟨_, (pss_one (ps_if (pt_not (pt_val (pe_call G_is_from (hr.mono (by decide)) rfl g_is_from kp_is_from b_is_from .nil (pE (pn := ())) (pa_cons (pv 0) (pa_cons (pv 1) (pa_cons (pv 2) pa_nil)))))) (pss_one (ps_raise rfl (takes_of (E := E) rfl rfl rfl rfl) (pmk_own PySem.F.excBase_ValueError x_InvalidNumber k_InvalidNumber kk_InvalidNumber (raises_own sb_InvalidNumber ty_InvalidNumber) rfl))) pss_nil)), ?_⟩
  obtain ⟨v, lo, hi, rfl, rfl⟩ := hR
  refine s_if (tp_not (tp_B (ep_call (ap_cons (ep_var rfl) (ap_cons (ep_var rfl) (ap_cons (ep_var rfl) ap_nil))) ⟨v, lo, hi, rfl, rfl⟩))) (fun h => ?_) (fun h => ?_)
  · have h' : Q.isFrom v lo hi = false := by simpa using h
    exact s_raise rfl (hE _ (by rw [h']; rfl))
  · have h' : Q.isFrom v lo hi = true := by simpa using h
    exact s_next (by rw [h']; rfl)
/-! ### most_voices -/
theorem sc_most_voices : FnScope ["piece", "singers", "breath", "rows"] ["piece", "singers", "breath"] (defScope s_most_voices) := ⟨rfl, rfl, rfl, by decide +kernel, rfl, by decide +kernel, by decide +kernel⟩
theorem ok_most_voices (T : Env K mg) (h_need_piece : Has P w K mg base 4 "need_piece" ["piece"] (PF K Q.need_piece)) (h_need_number : Has P w K mg base 2 "need_number" ["value", "low", "high"] (PF K Q.need_number)) (h_window_counts : Has P w K mg base 1 "window_counts" ["piece", "breath"] (PF K Q.window_counts)) : Has P w K mg base 5 "most_voices" ["piece", "singers", "breath"] (PF K Q.most_voices) := by
  have m_min := T.free 34 (x := "min")
  obtain ⟨t_MOST_SINGERS, c_MOST_SINGERS⟩ := T.int 40 (x := "MOST_SINGERS")
  obtain ⟨t_MOST_BEATS, c_MOST_BEATS⟩ := T.int 39 (x := "MOST_BEATS")
  obtain ⟨fd_need_piece, g_need_piece, kp_need_piece, b_need_piece, G_need_piece⟩ := h_need_piece
  obtain ⟨fd_need_number, g_need_number, kp_need_number, b_need_number, G_need_number⟩ := h_need_number
  obtain ⟨fd_window_counts, g_window_counts, kp_window_counts, b_window_counts, G_window_counts⟩ := h_window_counts
  obtain ⟨fd, Fd⟩ := T.c.def_ 15 (d := d_most_voices) rfl
  refine ⟨fd, T.glo 15, Fd.kp, Fd.bindsN fun _ _ _ _ _ _ us hl => match us, hl with | [_, _, _], _ => rfl, ?_⟩
  refine fn_pf Fd sc_most_voices Q.most_voices_len ?_
  intro cdv A outer s H E ds r B hr hR hE
  have hu0 := hr.units
  have pE : ∀ {pn : Unit}, Passes (L2.CX P w) (cxOf (L2.CX P w) P w K mg base ["piece", "singers", "breath", "rows"] "most_voices" (defScope s_most_voices) (He.fAd K d_most_voices.at_) cdv A outer s H E) E := fun {_} => passes_call (takes_of (E := E) rfl rfl rfl rfl) (fun _ _ _ _ z => z)
  refine ⟨_, (pss_cons (ps_expr (pe_call G_need_piece (hr.mono (by decide)) rfl g_need_piece kp_need_piece b_need_piece .nil (pE (pn := ())) (pa_cons (pv 0) pa_nil))) (pss_cons (ps_expr (pe_call G_need_number (hr.mono (by decide)) rfl g_need_number kp_need_number b_need_number .nil (pE (pn := ())) (pa_cons (pv 1) (pa_cons pe_int (pa_cons (pe_glob (v := .int 30) (by rfl) c_MOST_SINGERS ⟨_, rfl⟩) pa_nil))))) (pss_cons (ps_expr (pe_call G_need_number (hr.mono (by decide)) rfl g_need_number kp_need_number b_need_number .nil (pE (pn := ())) (pa_cons (pv 2) (pa_cons pe_int (pa_cons (pe_glob (v := .int 60) (by rfl) c_MOST_BEATS ⟨_, rfl⟩) pa_nil))))) (pss_cons (ps_set (i := 3) sc_most_voices.nd rfl (by first | exact Or.inl rfl | exact Or.inr rfl) (pe_call G_window_counts (hr.mono (by decide)) rfl g_window_counts kp_window_counts b_window_counts .nil (pE (pn := ())) (pa_cons (pv 0) (pa_cons (pv 2) pa_nil)))) (pss_cons (ps_if (pt_cmpR (kEq K hu0) (pv 3) (pe_lst pa_nil) (nomark _)) (pss_one (ps_ret (pv 1))) pss_nil) (pss_one (ps_ret (pe_ifExp (pt_cmpR op_gt (pe_callB (kMin K) (by rfl) m_min (by decide +kernel) (pa_cons (pv 3) pa_nil)) pe_int (nomark _)) (pe_op op_add (pv 1) (pe_op op_fdiv (pe_un un_neg (pv 1)) (pe_callB (kMin K) (by rfl) m_min (by decide +kernel) (pa_cons (pv 3) pa_nil)))) pe_non)))))))), ?_⟩
  rcases hR with ⟨c, al, s, b, hp, b0, b1, v0, v1, rfl, rfl⟩ | ⟨p, v, u, rfl, hb, rfl⟩
  · refine q_call (ap_cons (ep_var rfl) ap_nil) (Q.need_piece_ok hp) (fun d hd => ?_) (fun x hx => nomatch hx)
    refine q_call (ap_cons (ep_var rfl) (ap_cons ep_int (ap_cons ep_int ap_nil))) (Q.need_number_ok (Q.okB b0 b1)) (fun d hd => ?_) (fun x hx => nomatch hx)
    refine q_call (ap_cons (ep_var rfl) (ap_cons ep_int (ap_cons ep_int ap_nil))) (Q.need_number_ok (Q.okB v0 v1)) (fun d hd => ?_) (fun x hx => nomatch hx)
    refine q_set (ep_call (ap_cons (ep_var rfl) (ap_cons (ep_var rfl) ap_nil)) ⟨c, al, b, hp, by omega, v1, rfl, rfl⟩) ?_
    refine q_out (b := decide (Q.wc c b al = [])) (tp_test (ep_op (ep_var rfl) ep_nil0 rd_eqL0)) (fun h => ?_) fun h => ?_
    · exact s_ret (ep_var rfl) ⟨_, by unfold Q.mvD; rw [if_pos (of_decide_eq_true h)], .o⟩
    · have hn := of_decide_eq_false h
      have hm := Q.wc_min hp hn
      have := hp.c2
      have h30 : (60 : Int) < 2 ^ 30 := by decide
      by_cases h2 : 0 < minL (Q.wc c b al)
      · exact s_ret (ep_if (b := true) ((tp_test (ep_op (ep_cb (ap_cons (ep_var rfl) ap_nil) (cd_min hn)) ep_int (rd_I0b rfl))).is (decide_eq_true h2)) (fun _ => ep_op (ep_var rfl) (ep_op (ep_un (ep_var rfl) (ud_I rfl)) (ep_cb (ap_cons (ep_var rfl) ap_nil) (cd_min hn)) (rd_I (by exact ⟨h2, by omega⟩) rfl)) (rd_I0 rfl)) (fun z => absurd z (by decide))) ⟨_, by unfold Q.mvD; rw [if_neg hn, if_pos h2], .o⟩
      · exact s_ret (ep_if (b := false) ((tp_test (ep_op (ep_cb (ap_cons (ep_var rfl) ap_nil) (cd_min hn)) ep_int (rd_I0b rfl))).is (decide_eq_false h2)) (fun z => absurd z (by decide)) (fun _ => ep_non)) ⟨_, by unfold Q.mvD; rw [if_neg hn, if_neg h2], .o⟩
  · refine q_call (ap_cons (ep_var rfl) ap_nil) ⟨p, rfl, rfl⟩ (fun d hd => ?_) (fun x hx => hE x (by rw [if_neg (Q.need_err hx).1, (Q.need_err hx).2]))
    rw [if_pos (Q.need_ok hd)] at hE
    rw [Q.need_ok hd, Bool.true_and] at hb
    refine q_call (ap_cons (ep_var rfl) (ap_cons ep_int (ap_cons ep_int ap_nil))) ⟨v, _, _, rfl, rfl⟩ (fun d hd => ?_) (fun x hx => hE x (by rw [(Q.need_err hx).2]))
    rw [Q.need_ok hd, Bool.true_and] at hb
    exact q_call (ap_cons (ep_var rfl) (ap_cons ep_int (ap_cons ep_int ap_nil))) ⟨u, _, _, rfl, rfl⟩ (fun d hd => absurd (Q.need_ok hd) (by rw [hb]; exact Bool.false_ne_true)) (fun x hx => hE x (by rw [(Q.need_err hx).2]))
/-! ### _law_deck -/
theorem sc_law_deck : FnScope ["cell", "turn"] ["cell", "turn"] (defScope s_law_deck) := ⟨rfl, rfl, rfl, by decide +kernel, rfl, by decide +kernel, by decide +kernel⟩
theorem ok_law_deck (T : Env K mg) : Has P w K mg base 1 "_law_deck" ["cell", "turn"] (PF K Q.law_deck) := by
  obtain ⟨fd, Fd⟩ := T.c.def_ 16 (d := d_law_deck) rfl
  refine ⟨fd, T.glo 16, Fd.kp, Fd.bindsN fun _ _ _ _ _ _ us hl => match us, hl with | [_, _], _ => rfl, ?_⟩
  refine fn_pf Fd sc_law_deck Q.law_deck_len ?_
  intro cdv A outer s H E ds r B hr hR hE
  have hu0 := hr.units
  have pE : ∀ {pn : Unit}, Passes (L2.CX P w) (cxOf (L2.CX P w) P w K mg base ["cell", "turn"] "_law_deck" (defScope s_law_deck) (He.fAd K d_law_deck.at_) cdv A outer s H E) E := fun {_} => passes_call (takes_of (E := E) rfl rfl rfl rfl) (fun _ _ _ _ z => z)
  refine ⟨_, (pss_cons (ps_if (pt_cmpR op_ge (pv 0) (pe_op op_pow pe_int pe_int) (nomark _)) (pss_one (ps_ret (pe_lst (pa_cons (pe_op op_sub (pv 0) (pe_op op_pow pe_int pe_int)) (pa_cons (pe_op op_mod (pv 0) pe_int) (pa_cons (pv 1) pa_nil)))))) pss_nil) (pss_one (ps_ret (pe_lst (pa_cons pe_int (pa_cons (pe_op op_mod (pv 0) pe_int) (pa_cons (pv 1) pa_nil))))))), ?_⟩
  obtain ⟨c, t, rfl, rfl⟩ := hR
  refine q_out (b := decide (10 ^ 18 ≤ c)) (tp_test (ep_op (ep_var rfl) (ep_op ep_int ep_int (rd_I ⟨by decide, by decide, by decide⟩ rfl)) (rd_I0b rfl))) (fun h => ?_) fun h => ?_
  · have h' : (10 : Int) ^ 18 ≤ c := of_decide_eq_true h
    exact s_retO (eo_lst (xs := [.int (c - 10 ^ 18), .int (c % 2147483579), .int t]) (ap_cons (ep_op (ep_var rfl) (ep_op ep_int ep_int (rd_I ⟨by decide, by decide, by decide⟩ rfl)) (rd_I0 rfl)) (ap_cons (ep_op (ep_var rfl) ep_int (rd_I (by decide) rfl)) (ap_cons (ep_var rfl) ap_nil))) (Nat.le_of_ble_eq_true rfl)) fun p => ⟨_, by rw [if_pos h'], .l⟩
  · have h' : ¬ (10 : Int) ^ 18 ≤ c := of_decide_eq_false h
    exact s_retO (eo_lst (xs := [.int 0, .int (c % 2147483579), .int t]) (ap_cons ep_int (ap_cons (ep_op (ep_var rfl) ep_int (rd_I (by decide) rfl)) (ap_cons (ep_var rfl) ap_nil))) (Nat.le_of_ble_eq_true rfl)) fun p => ⟨_, by rw [if_neg h'], .l⟩
/-! ### _law_pick -/
theorem sc_law_pick : FnScope ["deck", "limit", "found", "number"] ["deck", "limit"] (defScope s_law_pick) := ⟨rfl, rfl, rfl, by decide +kernel, rfl, by decide +kernel, by decide +kernel⟩
theorem ok_law_pick (T : Env K mg) : Has P w K mg base 1 "_law_pick" ["deck", "limit"] (DF K 1 Q.law_pick_pre Q.law_pick_res) := by
  obtain ⟨fd, Fd⟩ := T.c.def_ 17 (d := d_law_pick) rfl
  refine ⟨fd, T.glo 17, Fd.kp, Fd.bindsN fun _ _ _ _ _ _ us hl => match us, hl with | [_, _], _ => rfl, ?_⟩
  refine fn_df Fd sc_law_pick Q.law_pick_len (by decide) ?_
  intro cdv A outer s H E ds p n B hr hP hn
  have hu0 := hr.units
  have pE : ∀ {pn : Unit}, Passes (L2.CX P w) (cxOf (L2.CX P w) P w K mg base ["deck", "limit", "found", "number"] "_law_pick" (defScope s_law_pick) (He.fAd K d_law_pick.at_) cdv A outer s H E) E := fun {_} => passes_call (takes_of (E := E) rfl rfl rfl rfl) (fun _ _ _ _ z => z)
  refine ⟨_, (pss_cons (ps_if (pt_cmpR op_gt (pe_ix (kIxL K) (pv 0) pe_int (fun _ _ => rfl)) pe_int (nomark _)) (pss_cons (ps_set (i := 2) sc_law_pick.nd rfl (by first | exact Or.inl rfl | exact Or.inr rfl) (pe_op op_mod (pe_ix (kIxL K) (pv 0) pe_int (fun _ _ => rfl)) (pv 1))) (pss_cons (ps_asg (pe_op op_fdiv (pe_ix (kIxL K) (pv 0) pe_int (fun _ _ => rfl)) (pv 1)) (pg_sub (pv 0) pe_int set_list)) (pss_one (ps_ret (pv 2))))) pss_nil) (pss_cons (ps_asg (pe_op op_add (pe_ix (kIxL K) (pv 0) pe_int (fun _ _ => rfl)) pe_int) (pg_sub (pv 0) pe_int set_list)) (pss_cons (ps_set (i := 3) sc_law_pick.nd rfl (by first | exact Or.inl rfl | exact Or.inr rfl) (pe_op op_mod (pe_op op_pow (pe_op op_add (pe_ix (kIxL K) (pv 0) pe_int (fun _ _ => rfl)) (pe_op op_mul pe_int (pe_ix (kIxL K) (pv 0) pe_int (fun _ _ => rfl)))) pe_int) pe_int)) (pss_cons (ps_set (i := 2) sc_law_pick.nd rfl (by first | exact Or.inl rfl | exact Or.inr rfl) (pe_op op_fdiv (pe_op op_mod (pe_op op_pow (pe_op op_add (pv 3) (pe_op op_mul pe_int (pe_ix (kIxL K) (pv 0) pe_int (fun _ _ => rfl)))) pe_int) pe_int) pe_int)) (pss_cons (ps_if (pt_cmpR op_gt (pv 1) pe_int (nomark _)) (pss_one (ps_ret (pe_op op_mod (pe_op op_add (pe_op op_mul (pv 2) pe_int) (pv 3)) (pv 1)))) pss_nil) (pss_one (ps_ret (pe_op op_mod (pv 2) (pv 1))))))))), ?_⟩
  obtain ⟨m, rfl, m1, m2⟩ := hP
  have hn' : n + 1 ≤ 1000000 := hn
  refine q_ifE (t_test (e_op (e_dk0 rfl fun a => ⟨_, rfl, ep_int.to ⟨_, _, rfl, rd_I0b rfl, _, rfl, fun _ => ?_, fun _ => ?_⟩⟩)))
  · refine q_asgE (e_op (e_dk0 rfl fun a => ⟨_, rfl, (ep_var rfl).to ⟨_, _, rfl, rd_I (by show (0 : Int) < m; omega) rfl, ?_⟩⟩))
    refine q_dk0 (e_op (e_dk0 rfl fun a' => ⟨_, rfl, (ep_var rfl).to ⟨_, _, rfl, rd_I (by exact ⟨by omega, by omega⟩) rfl, _, rfl, rfl, ?_⟩⟩))
    exact s_ret (ep_var rfl) ⟨_, n, rfl, by omega, rfl, m, a % m, rfl, rfl, Int.emod_nonneg _ (by omega), Int.emod_lt_of_pos _ (by omega)⟩
  · refine q_nextq (q_dk2 (m := n + 1) (e_op (e_dk2 rfl fun c c0 c1 => ⟨_, rfl, ep_int.to ⟨_, _, rfl, rd_I0 rfl, _, rfl, rfl, by omega, by omega, ?_⟩⟩)))
    refine q_asgE (e_op (e_op (e_op (e_dk1 rfl fun b b0 b1 => ⟨_, rfl, e_op (ep_int.to ⟨_, rfl, e_dk2 rfl fun c c0 c1 => ⟨_, _, rfl, rd_I (.inl (by decide)) rfl, _, _, rfl, rd_I0 rfl, _, rfl, ep_int.to ⟨_, _, rfl, rd_I ⟨by decide, by decide, by omega⟩ rfl, _, rfl, ep_int.to ⟨_, _, rfl, rd_I (by decide) rfl, ?_⟩⟩⟩⟩)⟩))))
    generalize hX : (b + 15485867 * c) ^ (5 : Int).toNat % 2147483647 = X
    have x0 : 0 ≤ X := by rw [← hX]; exact Int.emod_nonneg _ (by decide)
    have x1 : X < 2147483647 := by rw [← hX]; exact Int.emod_lt_of_pos _ (by decide)
    refine q_asgE (e_op (e_op (e_op (e_op ((ep_var rfl).to ⟨_, rfl, e_op (ep_int.to ⟨_, rfl, e_dk2 rfl fun c c0 c1 => ⟨_, _, rfl, rd_I (.inl (by decide)) rfl, _, _, rfl, rd_I0 rfl, _, rfl, ep_int.to ⟨_, _, rfl, rd_I ⟨by decide, by decide, by omega⟩ rfl, _, rfl, ep_int.to ⟨_, _, rfl, rd_I (by decide) rfl, _, rfl, ep_int.to ⟨_, _, rfl, rd_I (by exact ⟨by decide, by decide⟩) rfl, ?_⟩⟩⟩⟩⟩)⟩)))))
    generalize (X + 7919 * c) ^ (3 : Int).toNat % 2147483629 / 32 = Y
    refine q_out (b := false) ((tp_test (ep_op (ep_var rfl) ep_int (rd_I0b rfl))).is (decide_eq_false (by omega))) (fun h => absurd h Bool.false_ne_true) fun _ => ?_
    exact s_ret (ep_op (ep_var rfl) (ep_var rfl) (rd_I (by show (0 : Int) < m; omega) rfl)) ⟨_, n + 1, rfl, by omega, rfl, m, Y % m, rfl, rfl, Int.emod_nonneg _ (by omega), Int.emod_lt_of_pos _ (by omega)⟩
/-! ### _law_one -/
theorem sc_law_one : FnScope ["deck", "some"] ["deck", "some"] (defScope s_law_one) := ⟨rfl, rfl, rfl, by decide +kernel, rfl, by decide +kernel, by decide +kernel⟩
theorem ok_law_one (T : Env K mg) (h_law_pick : Has P w K mg base 1 "_law_pick" ["deck", "limit"] (DF K 1 Q.law_pick_pre Q.law_pick_res)) : Has P w K mg base 2 "_law_one" ["deck", "some"] (DF K 1 Q.law_one_pre Q.law_one_res) := by
  have m_len := T.free 31 (x := "len")
  obtain ⟨fd__law_pick, g__law_pick, kp__law_pick, b__law_pick, G__law_pick⟩ := h_law_pick
  obtain ⟨fd, Fd⟩ := T.c.def_ 18 (d := d_law_one) rfl
  refine ⟨fd, T.glo 18, Fd.kp, Fd.bindsN fun _ _ _ _ _ _ us hl => match us, hl with | [_, _], _ => rfl, ?_⟩
  refine fn_df Fd sc_law_one Q.law_one_len (by decide) ?_
  intro cdv A outer s H E ds p n B hr hP hn
  have hu0 := hr.units
  have pE : ∀ {pn : Unit}, Passes (L2.CX P w) (cxOf (L2.CX P w) P w K mg base ["deck", "some"] "_law_one" (defScope s_law_one) (He.fAd K d_law_one.at_) cdv A outer s H E) E := fun {_} => passes_call (takes_of (E := E) rfl rfl rfl rfl) (fun _ _ _ _ z => z)
  refine ⟨_, (pss_one (ps_ret (pe_ix (kIxL K) (pv 1) (pe_call G__law_pick (hr.mono (by decide)) rfl g__law_pick kp__law_pick b__law_pick .nil (pE (pn := ())) (pa_cons (pv 0) (pa_cons (pe_callB (kLen K) (by rfl) m_len PySem.boot_len (pa_cons (pv 1) pa_nil)) pa_nil))) (fun _ _ => rfl)))), ?_⟩
  obtain ⟨l, rfl, l1, l2⟩ := hP
  refine s_retE (e_op ((ep_var rfl).to ⟨_, rfl, e_callD (c := 1) (i := 0) rfl hn (ap_cons (ep_cb (ap_cons (ep_var rfl) ap_nil) cd_len) ap_nil) ⟨l.length, rfl, by omega, by omega⟩ fun d hd => ?_⟩))
  obtain ⟨m, r, e1, rfl, r0, r1⟩ := hd
  cases e1
  have hr' : r.toNat < l.length := by omega
  refine ⟨_, l[r.toNat], rfl, rd_ixL ?_, l[r.toNat], n + 1, rfl, by omega, rfl, l, rfl, List.getElem_mem hr'⟩
  exact atI_nat' r0 hr'
/-! ### _law_sort -/
theorem sc_law_sort : FnScope ["thing"] ["thing"] (defScope s_law_sort) := ⟨rfl, rfl, rfl, by decide +kernel, rfl, by decide +kernel, by decide +kernel⟩
theorem ok_law_sort (T : Env K mg) : Has P w K mg base 1 "_law_sort" ["thing"] (PF K Q.law_sort) := by
  have m_isinstance := T.free 25 (x := "isinstance")
  have m_bool := T.free 26 (x := "bool")
  have m_int := T.free 27 (x := "int")
  have m_str := T.free 35 (x := "str")
  have m_list := T.free 36 (x := "list")
  have m_tuple := T.free 29 (x := "tuple")
  obtain ⟨fd, Fd⟩ := T.c.def_ 19 (d := d_law_sort) rfl
  refine ⟨fd, T.glo 19, Fd.kp, Fd.bindsN fun _ _ _ _ _ _ us hl => match us, hl with | [_], _ => rfl, ?_⟩
  refine fn_pf Fd sc_law_sort Q.law_sort_len ?_
  intro cdv A outer s H E ds r B hr hR hE
  have hu0 := hr.units
  have pE : ∀ {pn : Unit}, Passes (L2.CX P w) (cxOf (L2.CX P w) P w K mg base ["thing"] "_law_sort" (defScope s_law_sort) (He.fAd K d_law_sort.at_) cdv A outer s H E) E := fun {_} => passes_call (takes_of (E := E) rfl rfl rfl rfl) (fun _ _ _ _ z => z)
  refine ⟨_, (pss_cons (ps_if (pt_val (pe_callB (kIsi K) (by rfl) m_isinstance (by decide +kernel) (pa_cons (pv 0) (pa_cons (pe_bltn (v := .ty "bool") (by rfl) m_bool (by decide +kernel) rfl) pa_nil)))) (pss_one (ps_ret pe_int)) pss_nil) (pss_cons (ps_if (pt_val (pe_callB (kIsi K) (by rfl) m_isinstance (by decide +kernel) (pa_cons (pv 0) (pa_cons (pe_bltn (v := .ty "int") (by rfl) m_int (by decide +kernel) rfl) pa_nil)))) (pss_one (ps_ret pe_int)) pss_nil) (pss_cons (ps_if (pt_val (pe_callB (kIsi K) (by rfl) m_isinstance (by decide +kernel) (pa_cons (pv 0) (pa_cons (pe_bltn (v := .ty "str") (by rfl) m_str (by decide +kernel) rfl) pa_nil)))) (pss_one (ps_ret pe_int)) pss_nil) (pss_cons (ps_if (pt_val (pe_callB (kIsi K) (by rfl) m_isinstance (by decide +kernel) (pa_cons (pv 0) (pa_cons (pe_bltn (v := .ty "list") (by rfl) m_list (by decide +kernel) rfl) pa_nil)))) (pss_one (ps_ret pe_int)) pss_nil) (pss_one (ps_ret (pe_ifExp (pt_val (pe_callB (kIsi K) (by rfl) m_isinstance (by decide +kernel) (pa_cons (pv 0) (pa_cons (pe_bltn (v := .ty "tuple") (by rfl) m_tuple (by decide +kernel) rfl) pa_nil)))) pe_int pe_int))))))), ?_⟩
  obtain ⟨x, rfl, rfl⟩ := hR
  refine q_out (tp_B (ep_isi (ep_var rfl) ep_ty (kit_bool x))) (fun h => s_ret ep_int ⟨_, by unfold Q.srt; rw [if_pos h], .o⟩) fun h1 => ?_
  refine q_out (tp_B (ep_isi (ep_var rfl) ep_ty (kit_int x))) (fun h => s_ret ep_int ⟨_, by unfold Q.srt; rw [if_neg (by rw [h1]; decide), if_pos h], .o⟩) fun h2 => ?_
  refine q_out (tp_B (ep_isi (ep_var rfl) ep_ty (kit_str x))) (fun h => s_ret ep_int ⟨_, by unfold Q.srt; rw [if_neg (by rw [h1]; decide), if_neg (by rw [h2]; decide), if_pos h], .o⟩) fun h3 => ?_
  refine q_out (tp_B (ep_isi (ep_var rfl) ep_ty (kit_list x))) (fun h => s_ret ep_int ⟨_, by unfold Q.srt; rw [if_neg (by rw [h1]; decide), if_neg (by rw [h2]; decide), if_neg (by rw [h3]; decide), if_pos h], .o⟩) fun h4 => ?_
  cases h5 : isTup x with
  | true => exact s_ret (ep_if (tp_B (ep_isi (ep_var rfl) ep_ty (kit_tuple x))) (fun _ => ep_int) (fun z => absurd (h5.symm.trans z) (by decide))) ⟨_, by unfold Q.srt; rw [if_neg (by rw [h1]; decide), if_neg (by rw [h2]; decide), if_neg (by rw [h3]; decide), if_neg (by rw [h4]; decide), if_pos h5], .o⟩
  | false => exact s_ret (ep_if (tp_B (ep_isi (ep_var rfl) ep_ty (kit_tuple x))) (fun z => absurd (h5.symm.trans z) (by decide)) (fun _ => ep_int)) ⟨_, by unfold Q.srt; rw [if_neg (by rw [h1]; decide), if_neg (by rw [h2]; decide), if_neg (by rw [h3]; decide), if_neg (by rw [h4]; decide), if_neg (by rw [h5]; decide)], .o⟩
/-! ### _law_same -/
theorem sc_law_same : FnScope ["told", "due", "k", "part"] ["told", "due"] (defScope s_law_same) := ⟨rfl, rfl, rfl, by decide +kernel, rfl, by decide +kernel, by decide +kernel⟩
theorem step_law_same (T : Env K mg) (h_law_sort : Has P w K mg base 1 "_law_sort" ["thing"] (PF K Q.law_sort)) (nr : Nat) (h_law_same : Has P w K mg base (2 + nr) "_law_same" ["told", "due"] (PF K (Q.law_same nr))) : Has P w K mg base (2 + nr + 1) "_law_same" ["told", "due"] (PF K (Q.law_same (nr + 1))) := by
  have m_len := T.free 31 (x := "len")
  have m_enumerate := T.free 37 (x := "enumerate")
  obtain ⟨fd__law_sort, g__law_sort, kp__law_sort, b__law_sort, G__law_sort⟩ := h_law_sort
  obtain ⟨fd__law_same, g__law_same, kp__law_same, b__law_same, G__law_same⟩ := h_law_same
  obtain ⟨fd, Fd⟩ := T.c.def_ 20 (d := d_law_same) rfl
  refine ⟨fd, T.glo 20, Fd.kp, Fd.bindsN fun _ _ _ _ _ _ us hl => match us, hl with | [_, _], _ => rfl, ?_⟩
  refine fn_pf Fd sc_law_same Q.law_same_len ?_
  intro cdv A outer s H E ds r B hr hR hE
  have hu0 := hr.units
  have pE : ∀ {pn : Unit}, Passes (L2.CX P w) (cxOf (L2.CX P w) P w K mg base ["told", "due", "k", "part"] "_law_same" (defScope s_law_same) (He.fAd K d_law_same.at_) cdv A outer s H E) E := fun {_} => passes_call (takes_of (E := E) rfl rfl rfl rfl) (fun _ _ _ _ z => z)
  refine ⟨_, (pss_cons (ps_if (pt_cmpR op_ne (pe_call G__law_sort (hr.mono (by omega)) rfl g__law_sort kp__law_sort b__law_sort .nil (pE (pn := ())) (pa_cons (pv 0) pa_nil)) (pe_call G__law_sort (hr.mono (by omega)) rfl g__law_sort kp__law_sort b__law_sort .nil (pE (pn := ())) (pa_cons (pv 1) pa_nil)) (nomark _)) (pss_one (ps_ret pe_bl)) pss_nil) (pss_cons (ps_if (PW.pt (pw_and (pt_cmpR op_gt (pe_call G__law_sort (hr.mono (by omega)) rfl g__law_sort kp__law_sort b__law_sort .nil (pE (pn := ())) (pa_cons (pv 0) pa_nil)) pe_int (nomark _)) (pw_and1 (pt_cmpR op_lt (pe_call G__law_sort (hr.mono (by omega)) rfl g__law_sort kp__law_sort b__law_sort .nil (pE (pn := ())) (pa_cons (pv 0) pa_nil)) pe_int (nomark _))))) (pss_cons (ps_if (pt_cmpR op_ne (pe_callB (kLen K) (by rfl) m_len PySem.boot_len (pa_cons (pv 0) pa_nil)) (pe_callB (kLen K) (by rfl) m_len PySem.boot_len (pa_cons (pv 1) pa_nil)) (nomark _)) (pss_one (ps_ret pe_bl)) pss_nil) (pss_one (ps_ret (pe_cmpR (kEq K hu0) (pe_lc (own := [("k", 2), ("part", 3)]) (g := (gTup K 2 (gCons (gName 2) (gCons (gName 3) gNil)))) rfl sc_law_same.nd (kpi_enum K (by rfl) m_enumerate (pa_cons (pv 0) pa_nil)) (blkOk_by (own := [("k", 2), ("part", 3)]) (by kernel_rfl)) (fun _ _ _ _ _ => (kpg_tup K rfl (pgs_cons (pg_name (i := 2) sc_law_same.nd rfl (by first | exact Or.inl rfl | exact Or.inr rfl)) (pgs_cons (pg_name (i := 3) sc_law_same.nd rfl (by first | exact Or.inl rfl | exact Or.inr rfl)) pgs_nil)))) (fun _ _ _ _ _ => pts_one (pt_not (pt_val (pe_call G__law_same (hr.mono (by omega)) rfl g__law_same kp__law_same b__law_same .nil passL (pa_cons (pv 3) (pa_cons (pe_ix (kIxL K) (pv 1) (pv 2) (fun _ _ => rfl)) pa_nil)))))) (fun _ _ _ _ _ => (pv 2))) (pe_lst pa_nil) (nomark _))))) pss_nil) (pss_one (ps_ret (pe_cmpR (kEq K hu0) (pv 0) (pv 1) (nomark _)))))), ?_⟩
  obtain ⟨a, b, rfl, ha, hb, rfl⟩ := hR
  refine q_out (b := !decide (Q.srt a = Q.srt b)) (tp_test (ep_op (ep_call (ap_cons (ep_var rfl) ap_nil) ⟨a, rfl, rfl⟩) (ep_call (ap_cons (ep_var rfl) ap_nil) ⟨b, rfl, rfl⟩) rd_neI)) (fun h => ?_) fun h0 => ?_
  · have h' : Q.srt a ≠ Q.srt b := by simpa using h
    exact s_ret ep_bl ⟨_, by rw [Q.srt_ne h'], .o⟩
  have hs : Q.srt a = Q.srt b := by simpa using h0
  clear h0
  refine q_out (b := decide (3 < Q.srt a) && decide (Q.srt a < 6)) (tp_and (tp_test (ep_op (ep_call (ap_cons (ep_var rfl) ap_nil) ⟨a, rfl, rfl⟩) ep_int (rd_I0b rfl))) fun _ => tp_test (ep_op (ep_call (ap_cons (ep_var rfl) ap_nil) ⟨a, rfl, rfl⟩) ep_int (rd_I0b rfl))) (fun h => ?_) fun h => ?_
  · rw [Bool.and_eq_true, decide_eq_true_eq, decide_eq_true_eq] at h
    obtain ⟨ds, rfl⟩ : ∃ ds, a = .list ds := Classical.byContradiction fun z => by rcases Q.nt_srt ha (fun ds e => z ⟨ds, e⟩) with q | q <;> omega
    obtain ⟨es, rfl⟩ : ∃ es, b = .list es := Classical.byContradiction fun z => by rcases Q.nt_srt hb (fun ds e => z ⟨ds, e⟩) with q | q <;> omega
    refine q_out (tp_test (ep_op (ep_cb (ap_cons (ep_var rfl) ap_nil) cd_len) (ep_cb (ap_cons (ep_var rfl) ap_nil) cd_len) rd_neI)) (fun h2 => ?_) fun h2 => ?_
    · have h3 : ds.length ≠ es.length := fun z => by rw [z] at h2; simp at h2
      exact s_ret ep_bl ⟨_, by rw [Q.same_no (fun e => h3 (by cases e; rfl))], .o⟩
    · have hl : ds.length = es.length := by
        have h3 : ((ds.length : Nat) : Int) = (es.length : Nat) := by simpa using h2
        omega
      refine s_ret (ep_op (EO.frz (eo_lc2 (xs := (List.range ds.length).zip ds) (p := fun z => .int (z.1 : Nat)) (q := fun z => z.2) (f := fun z => !Q.same z.2 (es.getD z.1 .none)) (w := fun z => .int (z.1 : Nat)) (ws := (Q.differ ds es).map .int) ((ip_enum (ap_cons (ep_var rfl) ap_nil)).is ?_) (fun z hz => ?_) (fun z hz _ => ep_var rfl) (by unfold Q.differ; rw [List.map_map]; rfl))) ep_nil0 rd_eqL0) ⟨_, by rw [Q.differ_nil hl], .o⟩
      · have := enumP_map (p := id) (xs := ds)
        rw [List.map_id] at this
        exact this
      · obtain ⟨i, h1, e⟩ := List.mem_iff_getElem.mp hz
        have h4 : i < ds.length := by simpa using h1
        rw [List.getElem_zip, List.getElem_range] at e
        subst e
        have h5 : i < es.length := hl ▸ h4
        have e5 : es.getD i .none = es[i] := by simp [h5]
        show TP _ _ (!Q.same ds[i] (es.getD i .none))
        rw [e5]
        exact tp_not (tp_B (ep_call (ap_cons (ep_var rfl) (ap_cons (ep_op (ep_var rfl) (ep_var rfl) (rd_ixL (atI_nat' (Int.natCast_nonneg i) h5))) ap_nil)) ⟨ds[i], es[i], rfl, ha _ (List.getElem_mem h4), hb _ (List.getElem_mem h5), rfl⟩))
  · have na : ∀ ds, a ≠ .list ds := fun ds e => by subst e; revert h; show (decide (3 < (4 : Int)) && decide ((4 : Int) < 6)) = false → False; decide
    have nb : ∀ ds, b ≠ .list ds := fun ds e => by subst e; rw [hs] at h; revert h; show (decide (3 < (4 : Int)) && decide ((4 : Int) < 6)) = false → False; decide
    exact s_ret (ep_op (ep_var rfl) (ep_var rfl) (rd_eqE (Q.plain_sh (Q.nt_plain ha na)) (Q.plain_sh (Q.nt_plain hb nb)) (Q.plain_eqv (Q.nt_plain ha na) hs))) ⟨_, rfl, .o⟩
theorem ok_law_same (T : Env K mg) (h_law_sort : Has P w K mg base 1 "_law_sort" ["thing"] (PF K Q.law_sort)) : ∀ nr : Nat, Has P w K mg base (2 + nr) "_law_same" ["told", "due"] (PF K (Q.law_same nr))
  | 0 => by
    obtain ⟨fd, Fd⟩ := T.c.def_ 20 (d := d_law_same) rfl
    exact ⟨fd, T.glo 20, Fd.kp, Fd.bindsN fun _ _ _ _ _ _ us hl => match us, hl with | [_, _], _ => rfl, fn_pf Fd sc_law_same (fun ds r h => (Q.law_same_zero h).elim) fun _ _ _ _ _ _ _ _ _ _ h _ => (Q.law_same_zero h).elim⟩
  | nr + 1 => step_law_same T h_law_sort nr (ok_law_same T h_law_sort nr)
/-! ### _law_song -/
theorem sc_law_song : FnScope ["deck", "few", "many", "count", "chance", "allowed", "beat"] ["deck", "few", "many"] (defScope s_law_song) := ⟨rfl, rfl, rfl, by decide +kernel, rfl, by decide +kernel, by decide +kernel⟩
theorem ok_law_song (T : Env K mg) (h_law_one : Has P w K mg base 2 "_law_one" ["deck", "some"] (DF K 1 Q.law_one_pre Q.law_one_res)) (h_law_pick : Has P w K mg base 1 "_law_pick" ["deck", "limit"] (DF K 1 Q.law_pick_pre Q.law_pick_res)) : Has P w K mg base 3 "_law_song" ["deck", "few", "many"] (DF K 62 Q.law_song_pre Q.law_song_res) := by
  have m_range := T.free 32 (x := "range")
  have m_tuple := T.free 29 (x := "tuple")
  obtain ⟨fd__law_one, g__law_one, kp__law_one, b__law_one, G__law_one⟩ := h_law_one
  obtain ⟨fd__law_pick, g__law_pick, kp__law_pick, b__law_pick, G__law_pick⟩ := h_law_pick
  obtain ⟨fd, Fd⟩ := T.c.def_ 21 (d := d_law_song) rfl
  refine ⟨fd, T.glo 21, Fd.kp, Fd.bindsN fun _ _ _ _ _ _ us hl => match us, hl with | [_, _, _], _ => rfl, ?_⟩
  refine fn_df Fd sc_law_song Q.law_song_len (by decide) ?_
  intro cdv A outer s H E ds p n B hr hP hn
  have hu0 := hr.units
  have pE : ∀ {pn : Unit}, Passes (L2.CX P w) (cxOf (L2.CX P w) P w K mg base ["deck", "few", "many", "count", "chance", "allowed", "beat"] "_law_song" (defScope s_law_song) (He.fAd K d_law_song.at_) cdv A outer s H E) E := fun {_} => passes_call (takes_of (E := E) rfl rfl rfl rfl) (fun _ _ _ _ z => z)
  refine ⟨_, (pss_cons (ps_asg (pe_tup (pa_cons (pe_op op_add (pv 1) (pe_call G__law_pick (hr.mono (by decide)) rfl g__law_pick kp__law_pick b__law_pick .nil (pE (pn := ())) (pa_cons (pv 0) (pa_cons (pe_op op_add (pe_op op_sub (pv 2) (pv 1)) pe_int) pa_nil)))) (pa_cons (pe_call G__law_one (hr.mono (by decide)) rfl g__law_one kp__law_one b__law_one .nil (pE (pn := ())) (pa_cons (pv 0) (pa_cons (pe_lst (pa_cons pe_int (pa_cons pe_int (pa_cons pe_int pa_nil)))) pa_nil))) pa_nil))) (kpg_tup K rfl (pgs_cons (pg_name (i := 3) sc_law_song.nd rfl (by first | exact Or.inl rfl | exact Or.inr rfl)) (pgs_cons (pg_name (i := 4) sc_law_song.nd rfl (by first | exact Or.inl rfl | exact Or.inr rfl)) pgs_nil)))) (pss_cons (ps_setLc (i := 5) (own := [("beat", 6)]) (g := (gName 6)) rfl sc_law_song.nd  rfl rfl (sw_true rfl rfl rfl (by decide +kernel)) (pi_range1 (by rfl) m_range (pa_cons (pv 3) pa_nil)) (blkOk_by (own := [("beat", 6)]) (by kernel_rfl)) (fun _ _ _ _ _ => (pg_name (i := 6) sc_law_song.nd rfl (by first | exact Or.inl rfl | exact Or.inr rfl))) (fun _ _ _ _ _ => pts_one (pt_cmpR op_gt (pe_call G__law_pick (hr.mono (by decide)) rfl g__law_pick kp__law_pick b__law_pick .nil passL (pa_cons (pv 0) (pa_cons (pe_op op_add (pv 4) pe_int) pa_nil))) pe_int (nomark _))) (fun _ _ _ _ _ => (pv 6))) (pss_one (ps_ret (pe_tup (pa_cons (pv 3) (pa_cons (pe_callTy (kTuple K) (by rfl) m_tuple (by decide +kernel) (pa_cons (pv 5) pa_nil)) pa_nil))))))), ?_⟩
  obtain ⟨a, b, rfl, a1, a2, b2⟩ := hP
  have hn' : n + 62 ≤ 1000000 := hn
  refine q_asgGE (K := K) (e_tup (K := K) (a_cons (e_op ((ep_var rfl).to ⟨_, rfl, e_callD (c := 1) (i := 0) rfl (by show n + 1 ≤ 1000000; omega) (ap_cons (ep_op (ep_op (ep_var rfl) (ep_var rfl) (rd_I0 rfl)) ep_int (rd_I0 rfl)) ap_nil) ⟨b - a + 1, rfl, by omega, by omega⟩ fun d hd => ?_⟩))))
  obtain ⟨m, r, e1, rfl, r0, r1⟩ := hd
  cases e1
  refine ⟨_, _, rfl, rd_I0 rfl, a_cons (e_callD (c := 1) (i := 0) rfl (by show n + 1 + 1 ≤ 1000000; omega) (ap_cons (EO.frz (eo_lst (xs := [.int 1, .int 3, .int 8]) (ap_cons ep_int (ap_cons ep_int (ap_cons ep_int ap_nil))) (Nat.le_of_ble_eq_true rfl))) ap_nil) ⟨[.int 1, .int 3, .int 8], rfl, by decide, by decide⟩ fun d hd => ?_)⟩
  obtain ⟨l, e1, hd⟩ := hd
  cases e1
  obtain ⟨ch, rfl, ch1, ch2⟩ : ∃ ch : Int, d = .int ch ∧ 1 ≤ ch ∧ ch ≤ 8 := by
    simp only [List.mem_cons, List.not_mem_nil, or_false] at hd
    rcases hd with rfl | rfl | rfl
    · exact ⟨1, rfl, by decide, by decide⟩
    · exact ⟨3, rfl, by decide, by decide⟩
    · exact ⟨8, rfl, by decide, by decide⟩
  refine a_nil ⟨[.int (a + r), .int ch], rfl, Nat.le_of_ble_eq_true rfl, _, [3, 4], _, rfl, gp_tup2, ?_⟩
  refine q_asgE (e_frz (K := K) (e_lcE (K := K) (xs := rng 0 (a + r)) (ip_rng1 (ap_cons (ep_var rfl) ap_nil) (by omega) (by omega))
    (fun i acc Γ1 => ∃ m al, m ≤ n + 2 + i ∧ Γ1 = [.own p oDk m, Da K (.int a), Da K (.int b), Da K (.int (a + r)), Da K (.int ch), .no, .no] ∧ acc = al.map .int ∧ al.Pairwise (· < ·) ∧ (∀ x ∈ al, (0 : Int) ≤ x) ∧ ∀ x ∈ al, x < (i : Int))
    ⟨n + 2, [], by omega, rfl, rfl, .nil, (fun _ h => nomatch h), fun _ h => nomatch h⟩ (fun i x acc Γ1 hx ha hI => ?_) (fun acc Γ1 ha hI p' => ?_)))
  · obtain ⟨m, al, hm, rfl, rfl, al1, al2, al3⟩ := hI
    have hi : (i : Int) < a + r := by
      have := (List.getElem?_eq_some_iff.mp hx).1
      rw [rng_len] at this
      omega
    have ex : x = (i : Int) := by
      have := rng_get hx
      omega
    subst ex
    refine ⟨noOwn, _, gp_name (vs := [6]), t_test (K := K) (e_op (K := K) (e_callD (c := 1) (i := 0) rfl (by show m + 1 ≤ 1000000; omega) (ap_cons (ep_op (ep_var rfl) ep_int (rd_I0 rfl)) ap_nil) ⟨ch + 1, rfl, by omega, by omega⟩ fun d hd => ?_))⟩
    obtain ⟨_, q, e1, rfl, q0, q1⟩ := hd
    have atJ : ∀ j ∈ [6], ([.own p oDk (m + 1), Da K (.int a), Da K (.int b), Da K (.int (a + r)), Da K (.int ch), .no, .no] : List Sl)[j]? = ([.own p oDk m, Da K (.int a), Da K (.int b), Da K (.int (a + r)), Da K (.int ch), .no, .no] : List Sl)[j]? := by
      intro j hj
      have e6 : j = 6 := by simpa using hj
      subst e6
      rfl
    refine ⟨_, rfl, ep_int.to ⟨_, _, rfl, rd_I0b rfl, _, rfl, fun _ => ?_, fun _ => ?_⟩⟩
    · exact ⟨[.own p oDk (m + 1), Da K (.int a), Da K (.int b), Da K (.int (a + r)), Da K (.int ch), .no, .no], rfl, atJ, rfl, m + 1, al, by omega, rfl, rfl, al1, al2, fun x hx => by have := al3 x hx; omega⟩
    · refine (ep_var rfl).to ⟨_, [.own p oDk (m + 1), Da K (.int a), Da K (.int b), Da K (.int (a + r)), Da K (.int ch), .no, .no], rfl, rfl, atJ, rfl, m + 1, al ++ [(i : Int)], by omega, rfl, by simp, ?_, fun x hx => ?_, fun x hx => ?_⟩
      · rw [List.pairwise_append]
        refine ⟨al1, List.pairwise_singleton _ _, fun x hx y hy => ?_⟩
        have h1 := al3 x hx
        have h2 : y = (i : Int) := by simpa using hy
        omega
      · rcases List.mem_append.mp hx with hx | hx
        · exact al2 x hx
        · have : x = i := by simpa using hx
          omega
      · rcases List.mem_append.mp hx with hx | hx
        · have := al3 x hx; omega
        · have : x = i := by simpa using hx
          omega
  · obtain ⟨m, al, hm, rfl, rfl, al1, al2, al3⟩ := hI
    rw [rng_len] at hm al3
    refine ⟨p', _, rfl, ?_⟩
    exact s_ret (ep_tup (xs := [.int (a + r), .tuple (al.map .int)]) (ap_cons (ep_var rfl) (ap_cons (ep_cb (ap_cons (ep_var rfl) ap_nil) (cd_tuple (.inl rfl))) ap_nil)) (Nat.le_of_ble_eq_true rfl)) ⟨_, m, rfl, by omega, rfl, a, b, a + r, al, rfl, rfl, ⟨by omega, by omega, al1, al2, fun x hx => by have := al3 x hx; omega⟩, by omega, by omega⟩
/-! ### _law_group -/
theorem sc_law_group : FnScope ["deck", "singers", "breath", "many"] ["deck", "singers", "breath"] (defScope s_law_group) := ⟨rfl, rfl, rfl, by decide +kernel, rfl, by decide +kernel, by decide +kernel⟩
theorem ok_law_group (T : Env K mg) (h_law_pick : Has P w K mg base 1 "_law_pick" ["deck", "limit"] (DF K 1 Q.law_pick_pre Q.law_pick_res)) : Has P w K mg base 2 "_law_group" ["deck", "singers", "breath"] (DF K 3 Q.law_group_pre Q.law_group_res) := by
  obtain ⟨fd__law_pick, g__law_pick, kp__law_pick, b__law_pick, G__law_pick⟩ := h_law_pick
  obtain ⟨fd, Fd⟩ := T.c.def_ 22 (d := d_law_group) rfl
  refine ⟨fd, T.glo 22, Fd.kp, Fd.bindsN fun _ _ _ _ _ _ us hl => match us, hl with | [_, _, _], _ => rfl, ?_⟩
  refine fn_df Fd sc_law_group Q.law_group_len (by decide) ?_
  intro cdv A outer s H E ds p n B hr hP hn
  have hu0 := hr.units
  have pE : ∀ {pn : Unit}, Passes (L2.CX P w) (cxOf (L2.CX P w) P w K mg base ["deck", "singers", "breath", "many"] "_law_group" (defScope s_law_group) (He.fAd K d_law_group.at_) cdv A outer s H E) E := fun {_} => passes_call (takes_of (E := E) rfl rfl rfl rfl) (fun _ _ _ _ z => z)
  refine ⟨_, (pss_cons (ps_set (i := 3) sc_law_group.nd rfl (by first | exact Or.inl rfl | exact Or.inr rfl) (pe_op op_add pe_int (pe_call G__law_pick (hr.mono (by decide)) rfl g__law_pick kp__law_pick b__law_pick .nil (pE (pn := ())) (pa_cons (pv 0) (pa_cons (pv 1) pa_nil))))) (pss_one (ps_ret (pe_tup (pa_cons (pv 3) (pa_cons (pe_op op_add pe_int (pe_call G__law_pick (hr.mono (by decide)) rfl g__law_pick kp__law_pick b__law_pick .nil (pE (pn := ())) (pa_cons (pv 0) (pa_cons (pv 2) pa_nil)))) (pa_cons (pe_call G__law_pick (hr.mono (by decide)) rfl g__law_pick kp__law_pick b__law_pick .nil (pE (pn := ())) (pa_cons (pv 0) (pa_cons (pe_op op_add (pv 3) pe_int) pa_nil))) pa_nil))))))), ?_⟩
  obtain ⟨a, b, rfl, a1, a2, b1, b2⟩ := hP
  have hn' : n + 3 ≤ 1000000 := hn
  refine q_asgE (e_op (K := K) (ep_int.to ⟨_, rfl, e_callD (c := 1) (i := 0) rfl (by show n + 1 ≤ 1000000; omega) (ap_cons (ep_var rfl) ap_nil) ⟨a, rfl, by omega, by omega⟩ fun d hd => ?_⟩))
  obtain ⟨m, r, e1, rfl, r0, r1⟩ := hd
  cases e1
  refine ⟨_, _, rfl, rd_I0 rfl, ?_⟩
  refine s_retE (e_tup (K := K) (a_cons ((ep_var rfl).to (a_cons (e_op (K := K) (ep_int.to ⟨_, rfl, e_callD (c := 1) (i := 0) rfl (by show n + 1 + 1 ≤ 1000000; omega) (ap_cons (ep_var rfl) ap_nil) ⟨b, rfl, by omega, by omega⟩ fun d hd => ?_⟩))))))
  obtain ⟨m, q, e1, rfl, q0, q1⟩ := hd
  cases e1
  refine ⟨_, _, rfl, rd_I0 rfl, a_cons (e_callD (c := 1) (i := 0) rfl (by show n + 1 + 1 + 1 ≤ 1000000; omega) (ap_cons (ep_op (ep_var rfl) ep_int (rd_I0 rfl)) ap_nil) ⟨1 + r + 1, rfl, by omega, by omega⟩ fun d hd => ?_)⟩
  obtain ⟨m, h, e1, rfl, h0, h1⟩ := hd
  cases e1
  exact a_nil ⟨[.int (1 + r), .int (1 + q), .int h], rfl, Nat.le_of_ble_eq_true rfl, _, n + 3, rfl, by omega, rfl, a, b, 1 + r, 1 + q, h, rfl, rfl, ⟨by omega, by omega, by omega, by omega, by omega, by omega⟩, by omega, by omega⟩
/-! ### _law_enough -/
theorem sc_law_enough : FnScope ["song", "group", "start", "inside", "beat"] ["song", "group"] (defScope s_law_enough) := ⟨rfl, rfl, rfl, by decide +kernel, rfl, by decide +kernel, by decide +kernel⟩
theorem ok_law_enough (T : Env K mg) : Has P w K mg base 1 "_law_enough" ["song", "group"] (PF K Q.law_enough) := by
  have m_range := T.free 32 (x := "range")
  have m_len := T.free 31 (x := "len")
  obtain ⟨fd, Fd⟩ := T.c.def_ 23 (d := d_law_enough) rfl
  refine ⟨fd, T.glo 23, Fd.kp, Fd.bindsN fun _ _ _ _ _ _ us hl => match us, hl with | [_, _], _ => rfl, ?_⟩
  refine fn_pf Fd sc_law_enough Q.law_enough_len ?_
  intro cdv A outer s H E ds r B hr hR hE
  have hu0 := hr.units
  have pE : ∀ {pn : Unit}, Passes (L2.CX P w) (cxOf (L2.CX P w) P w K mg base ["song", "group", "start", "inside", "beat"] "_law_enough" (defScope s_law_enough) (He.fAd K d_law_enough.at_) cdv A outer s H E) E := fun {_} => passes_call (takes_of (E := E) rfl rfl rfl rfl) (fun _ _ _ _ z => z)
  refine ⟨_, (pss_cons (ps_for (passes_of rfl) rfl (pi_range1 (by rfl) m_range (pa_cons (pe_op op_sub (pe_ix (kIxT K) (pv 0) pe_int (fun _ _ => rfl)) (pe_ix (kIxT K) (pv 1) pe_int (fun _ _ => rfl))) pa_nil)) (pg_name (i := 2) sc_law_enough.nd rfl (by first | exact Or.inl rfl | exact Or.inr rfl)) (pss_cons (ps_setLc (i := 3) (own := [("beat", 4)]) (g := (gName 4)) rfl sc_law_enough.nd  rfl rfl (sw_true rfl rfl rfl (by decide +kernel)) (kpi_tup K (pe_ix (kIxT K) (pv 0) pe_int (fun _ _ => rfl))) (blkOk_by (own := [("beat", 4)]) (by kernel_rfl)) (fun _ _ _ _ _ => (pg_name (i := 4) sc_law_enough.nd rfl (by first | exact Or.inl rfl | exact Or.inr rfl))) (fun _ _ _ _ _ => pts_one (pt_chain op_le op_le (pv 2) (pv 4) (pe_op op_add (pv 2) (pe_ix (kIxT K) (pv 1) pe_int (fun _ _ => rfl))))) (fun _ _ _ _ _ => (pv 4))) (pss_one (ps_if (pt_cmpR op_lt (pe_op op_mul (pe_callB (kLen K) (by rfl) m_len PySem.boot_len (pa_cons (pv 3) pa_nil)) (pe_op op_sub (pe_ix (kIxT K) (pv 1) pe_int (fun _ _ => rfl)) (pe_ix (kIxT K) (pv 1) pe_int (fun _ _ => rfl)))) (pe_ix (kIxT K) (pv 1) pe_int (fun _ _ => rfl)) (nomark _)) (pss_one (ps_ret pe_bl)) pss_nil)))) (pss_one (ps_ret pe_bl))), ?_⟩
  obtain ⟨c, al, s, b, h, hp, hc, rfl, rfl⟩ := hR
  have := hp.c1; have := hp.c2; have := hc.b1; have := hc.b2; have := hc.s2; have := hc.h1; have := hc.h2
  refine q_forM (xs := rng 0 (c - b)) (en := PyData.int) [2, 3, 4] (ip_rng1 (ap_cons (ep_op (ep_op (ep_var rfl) ep_int (rd_ixT rfl)) (ep_op (ep_var rfl) ep_int (rd_ixT rfl)) (rd_I0 rfl)) ap_nil) (by omega) (by omega))
    (fun i Γ1 => Γ1 = [Da K (Q.pcD c al), Da K (Q.chD s b h), .no, .no, .no] ∧ ∀ j st, j < i → (rng 0 (c - b))[j]? = some st → s ≤ (s - h) * Q.cnt al st b) ⟨rfl, fun j _ hj => absurd hj (Nat.not_lt_zero j)⟩ (fun i st Γ1 hx hI => ?_) fun Γ1 hI => ?_
  · obtain ⟨rfl, hI⟩ := hI
    have hst := mem_rng.mp (List.mem_of_getElem? hx)
    refine ⟨_, [2], gp_name, ?_⟩
    refine q_set (EO.frz (eo_lcN (xs := al) (f := Q.inW st b) (w := PyData.int) (ip_tup (ep_op (ep_var rfl) ep_int (rd_ixT rfl))) (fun x hx => tp_test (ep_chain (ep_var rfl) (ep_var rfl) (rd_I0b rfl) (fun _ => ep_op (ep_var rfl) (ep_op (ep_var rfl) ep_int (rd_ixT rfl)) (rd_I0 rfl)) (rd_I0b rfl))) (fun x hx _ => ep_var rfl) rfl)) ?_
    refine s_if (b := decide (Q.cnt al st b * (s - h) < s)) (tp_test (ep_op (ep_op ((ep_cb (ap_cons (ep_var rfl) ap_nil) cd_len).is (s' := Da K (.int (Q.cnt al st b))) (by rw [List.length_map]; rfl)) (ep_op (ep_op (ep_var rfl) ep_int (rd_ixT rfl)) (ep_op (ep_var rfl) ep_int (rd_ixT rfl)) (rd_I0 rfl)) (rd_I (.inr (by omega)) rfl)) (ep_op (ep_var rfl) ep_int (rd_ixT rfl)) (rd_I0b rfl))) (fun z => ?_) fun z => ?_
    · have z' := of_decide_eq_true z
      rw [Int.mul_comm] at z'
      refine s_ret ep_bl ⟨_, ?_, .o⟩
      have : Q.en c al s b h = false := by
        cases e : Q.en c al s b h with
        | false => rfl
        | true => have := Q.en_iff.mp e st hst.1 hst.2; omega
      rw [this]
    · have z' := of_decide_eq_false z
      rw [Int.mul_comm] at z'
      refine s_next ⟨rfl, fun j st' hj hx' => ?_⟩
      rcases Nat.lt_succ_iff_lt_or_eq.mp hj with hj | hj
      · exact hI j st' hj hx'
      · subst hj
        rw [hx] at hx'
        cases hx'
        omega
  · obtain ⟨rfl, hI⟩ := hI
    refine s_ret ep_bl ⟨_, ?_, .o⟩
    have : Q.en c al s b h = true := Q.en_iff.mpr fun st h1 h2 => by
      obtain ⟨j, e⟩ := List.mem_iff_getElem?.mp (mem_rng.mpr ⟨h1, h2⟩)
      exact hI j st (List.getElem?_eq_some_iff.mp e).1 e
    rw [this]
/-! ### law -/
theorem sc_law : FnScope ["script", "cell", "deck", "song", "group", "best", "heard", "choir", "needed", "helpful", "good", "beat", "told", "more", "other", "one"] ["script"] (defScope s_law) := ⟨rfl, rfl, rfl, by decide +kernel, rfl, by decide +kernel, by decide +kernel⟩
theorem ok_law (T : Env K mg) (h_law_deck : Has P w K mg base 1 "_law_deck" ["cell", "turn"] (PF K Q.law_deck)) (h_law_group : Has P w K mg base 2 "_law_group" ["deck", "singers", "breath"] (DF K 3 Q.law_group_pre Q.law_group_res)) (h_law_song : Has P w K mg base 3 "_law_song" ["deck", "few", "many"] (DF K 62 Q.law_song_pre Q.law_song_res)) (h_law_one : Has P w K mg base 2 "_law_one" ["deck", "some"] (DF K 1 Q.law_one_pre Q.law_one_res)) (h_most_voices : Has P w K mg base 5 "most_voices" ["piece", "singers", "breath"] (PF K Q.most_voices)) (h_law_enough : Has P w K mg base 1 "_law_enough" ["song", "group"] (PF K Q.law_enough)) (h_helpful_beats : Has P w K mg base 6 "helpful_beats" ["piece", "choir"] (PF K Q.helpful_beats)) (h_needed_beats : Has P w K mg base 6 "needed_beats" ["piece", "choir"] (PF K Q.needed_beats)) (h_can_sing : Has P w K mg base 6 "can_sing" ["piece", "choir"] (PF K Q.can_sing)) (h_law_same : Has P w K mg base 8 "_law_same" ["told", "due"] (PF K (Q.law_same 6))) {fd : FuncData} (Fd : FunD K d_law.name d_law.qual d_law.params d_law.body d_law.scope (He.DefD.dvs K d_law) (He.DefD.kws K d_law) (He.fAd K d_law.at_) fd) : FnOk P w K mg base (L2.CX P w) 9 (He.fAd K d_law.at_) fd ["script"] (PF K Q.law) := by
  have m_set := T.free 38 (x := "set")
  have m_sorted := T.free 33 (x := "sorted")
  have m_min := T.free 34 (x := "min")
  have m_range := T.free 32 (x := "range")
  have m_tuple := T.free 29 (x := "tuple")
  obtain ⟨fd__law_deck, g__law_deck, kp__law_deck, b__law_deck, G__law_deck⟩ := h_law_deck
  obtain ⟨fd__law_group, g__law_group, kp__law_group, b__law_group, G__law_group⟩ := h_law_group
  obtain ⟨fd__law_song, g__law_song, kp__law_song, b__law_song, G__law_song⟩ := h_law_song
  obtain ⟨fd__law_one, g__law_one, kp__law_one, b__law_one, G__law_one⟩ := h_law_one
  obtain ⟨fd_most_voices, g_most_voices, kp_most_voices, b_most_voices, G_most_voices⟩ := h_most_voices
  obtain ⟨fd__law_enough, g__law_enough, kp__law_enough, b__law_enough, G__law_enough⟩ := h_law_enough
  obtain ⟨fd_helpful_beats, g_helpful_beats, kp_helpful_beats, b_helpful_beats, G_helpful_beats⟩ := h_helpful_beats
  obtain ⟨fd_needed_beats, g_needed_beats, kp_needed_beats, b_needed_beats, G_needed_beats⟩ := h_needed_beats
  obtain ⟨fd_can_sing, g_can_sing, kp_can_sing, b_can_sing, G_can_sing⟩ := h_can_sing
  obtain ⟨fd__law_same, g__law_same, kp__law_same, b__law_same, G__law_same⟩ := h_law_same
  refine fn_pf Fd sc_law Q.law_len ?_
  intro cdv A outer s H E ds r B hr hR hE
  have hu0 := hr.units
  refine ⟨_, (pss_cons (ps_for (passes_of rfl) rfl (kpi_list K (pe_slice (kSlL K) (pe_op (kCatL K) (pe_lst (pa_cons pe_int pa_nil)) (pv 0)) po_none (po_some pe_int))) (pg_name (i := 1) sc_law.nd rfl (by first | exact Or.inl rfl | exact Or.inr rfl)) (pss_cons (ps_set (i := 2) sc_law.nd rfl (by first | exact Or.inl rfl | exact Or.inr rfl) (pe_call G__law_deck (hr.mono (by decide)) rfl g__law_deck kp__law_deck b__law_deck .nil passL (pa_cons (pv 1) (pa_cons pe_int pa_nil)))) (pss_cons (ps_asg (pe_tup (pa_cons (pe_call G__law_song (hr.mono (by decide)) rfl g__law_song kp__law_song b__law_song .nil passL (pa_cons (pv 2) (pa_cons pe_int (pa_cons (pe_call G__law_one (hr.mono (by decide)) rfl g__law_one kp__law_one b__law_one .nil passL (pa_cons (pv 2) (pa_cons (pe_lst (pa_cons pe_int (pa_cons pe_int (pa_cons pe_int pa_nil)))) pa_nil))) pa_nil)))) (pa_cons (pe_call G__law_group (hr.mono (by decide)) rfl g__law_group kp__law_group b__law_group .nil passL (pa_cons (pv 2) (pa_cons pe_int (pa_cons pe_int pa_nil)))) pa_nil))) (kpg_tup K rfl (pgs_cons (pg_name (i := 3) sc_law.nd rfl (by first | exact Or.inl rfl | exact Or.inr rfl)) (pgs_cons (pg_name (i := 4) sc_law.nd rfl (by first | exact Or.inl rfl | exact Or.inr rfl)) pgs_nil)))) (pss_cons (ps_set (i := 5) sc_law.nd rfl (by first | exact Or.inl rfl | exact Or.inr rfl) (pe_call G_most_voices (hr.mono (by decide)) rfl g_most_voices kp_most_voices b_most_voices .nil passL (pa_cons (pv 3) (pa_cons (pe_ix (kIxT K) (pv 4) pe_int (fun _ _ => rfl)) (pa_cons (pe_ix (kIxT K) (pv 4) pe_int (fun _ _ => rfl)) pa_nil))))) (pss_one (ps_for (passes_of rfl) rfl (kpi_list K (pe_callB (kSortedSet w) (by rfl) m_sorted (by decide +kernel) (pa_cons (pe_callTy (kSetI K w) (by rfl) m_set (by decide +kernel) (pa_cons (pe_op (kCatL K) (pe_lst (pa_cons pe_int (pa_cons (pe_ix (kIxT K) (pv 4) pe_int (fun _ _ => rfl)) pa_nil))) (pe_ifExp (pt_cmpR op_notN (pv 5) pe_non (nomark _)) (pe_lst (pa_cons (pv 5) (pa_cons (pe_callB (call_min2 rfl) (by rfl) m_min (by decide +kernel) (pa_cons (pe_ix (kIxT K) (pv 4) pe_int (fun _ _ => rfl)) (pa_cons (pe_op op_add (pv 5) pe_int) pa_nil))) pa_nil))) (pe_lst pa_nil))) pa_nil)) pa_nil))) (pg_name (i := 6) sc_law.nd rfl (by first | exact Or.inl rfl | exact Or.inr rfl)) (pss_cons (ps_par3 (i := 7) (j := 8) (l := 9) rfl sc_law.nd rfl rfl rfl (by decide) (by decide) (by decide) rfl rfl rfl (pa_cons (pe_tup (pa_cons (pe_ix (kIxT K) (pv 4) pe_int (fun _ _ => rfl)) (pa_cons (pe_ix (kIxT K) (pv 4) pe_int (fun _ _ => rfl)) (pa_cons (pv 6) pa_nil)))) (pa_cons (pe_lst pa_nil) (pa_cons (pe_lst pa_nil) pa_nil))) rfl) (pss_cons (ps_set (i := 10) sc_law.nd rfl (by first | exact Or.inl rfl | exact Or.inr rfl) (pe_call G__law_enough (hr.mono (by decide)) rfl g__law_enough kp__law_enough b__law_enough .nil passL (pa_cons (pv 3) (pa_cons (pv 7) pa_nil)))) (pss_cons (ps_for (passes_of rfl) rfl (pi_range1 (by rfl) m_range (pa_cons (pe_ix (kIxT K) (pv 3) pe_int (fun _ _ => rfl)) pa_nil)) (pg_name (i := 11) sc_law.nd rfl (by first | exact Or.inl rfl | exact Or.inr rfl)) (pss_cons (ps_set (i := 14) sc_law.nd rfl (by first | exact Or.inl rfl | exact Or.inr rfl) (pe_callTy (kTuple K) (by rfl) m_tuple (by decide +kernel) (pa_cons (pe_lc (own := [("one", 15)]) (g := (gName 15)) rfl sc_law.nd (pi_range1 (by rfl) m_range (pa_cons (pe_ix (kIxT K) (pv 3) pe_int (fun _ _ => rfl)) pa_nil)) (blkOk_by (own := [("one", 15)]) (by kernel_rfl)) (fun _ _ _ _ _ => (pg_name (i := 15) sc_law.nd rfl (by first | exact Or.inl rfl | exact Or.inr rfl))) (fun _ _ _ _ _ => pts_one (pt_cmpR (kNe K hu0) (pe_cmpR (kIn K) (pv 15) (pe_ix (kIxT K) (pv 3) pe_int (fun _ _ => rfl)) (by rfl)) (pe_cmpR op_eq (pv 15) (pv 11) (nomark _)) (nomark _))) (fun _ _ _ _ _ => (pv 15))) pa_nil))) (pss_cons (ps_if (PW.pt (pw_and (pt_val (pv 10)) (pw_and (pt_cmpR (kIn K) (pv 11) (pe_ix (kIxT K) (pv 3) pe_int (fun _ _ => rfl)) (by rfl)) (pw_and1 (pt_not (pt_val (pe_call G__law_enough (hr.mono (by decide)) rfl g__law_enough kp__law_enough b__law_enough .nil passL (pa_cons (pe_tup (pa_cons (pe_ix (kIxT K) (pv 3) pe_int (fun _ _ => rfl)) (pa_cons (pv 14) pa_nil))) (pa_cons (pv 7) pa_nil))))))))) (pss_one (ps_expr (kApp K (pv 8) (pa_cons (pv 11) pa_nil)))) pss_nil) (pss_one (ps_if (PW.pt (pw_and (pt_not (pt_val (pv 10))) (pw_and (pt_cmpR (kNotIn K) (pv 11) (pe_ix (kIxT K) (pv 3) pe_int (fun _ _ => rfl)) (by rfl)) (pw_and1 (pt_val (pe_call G__law_enough (hr.mono (by decide)) rfl g__law_enough kp__law_enough b__law_enough .nil passL (pa_cons (pe_tup (pa_cons (pe_ix (kIxT K) (pv 3) pe_int (fun _ _ => rfl)) (pa_cons (pv 14) pa_nil))) (pa_cons (pv 7) pa_nil)))))))) (pss_one (ps_expr (kApp K (pv 9) (pa_cons (pv 11) pa_nil)))) pss_nil))))) (pss_cons (ps_par (i := 12) (j := 13) rfl sc_law.nd rfl rfl (by decide) rfl rfl (pa_cons (pe_call G_needed_beats (hr.mono (by decide)) rfl g_needed_beats kp_needed_beats b_needed_beats .nil passL (pa_cons (pv 3) (pa_cons (pv 7) pa_nil))) (pa_cons (pe_call G_helpful_beats (hr.mono (by decide)) rfl g_helpful_beats kp_helpful_beats b_helpful_beats .nil passL (pa_cons (pv 3) (pa_cons (pv 7) pa_nil))) pa_nil)) rfl) (pss_cons (ps_if (PW.pt (pw_or (pt_not (pt_val (pe_call G__law_same (hr.mono (by decide)) rfl g__law_same kp__law_same b__law_same .nil passL (pa_cons (pv 12) (pa_cons (pv 8) pa_nil))))) (pw_or (pt_not (pt_val (pe_call G__law_same (hr.mono (by decide)) rfl g__law_same kp__law_same b__law_same .nil passL (pa_cons (pv 13) (pa_cons (pv 9) pa_nil))))) (pw_or1 (pt_cmpR (kNe K hu0) (pe_call G_can_sing (hr.mono (by decide)) rfl g_can_sing kp_can_sing b_can_sing .nil passL (pa_cons (pv 3) (pa_cons (pv 7) pa_nil))) (pv 10) (nomark _)))))) (pss_one (ps_ret pe_bl)) pss_nil) (pss_cons (ps_expr (kApp K (pv 12) (pa_cons pe_int pa_nil))) (pss_cons (ps_expr (kApp K (pv 13) (pa_cons pe_int pa_nil))) (pss_one (ps_if (PW.pt (pw_or (pt_cmpR (kNe K hu0) (pe_call G_needed_beats (hr.mono (by decide)) rfl g_needed_beats kp_needed_beats b_needed_beats .nil passL (pa_cons (pv 3) (pa_cons (pv 7) pa_nil))) (pv 8) (nomark _)) (pw_or1 (pt_cmpR (kNe K hu0) (pe_call G_helpful_beats (hr.mono (by decide)) rfl g_helpful_beats kp_helpful_beats b_helpful_beats .nil passL (pa_cons (pv 3) (pa_cons (pv 7) pa_nil))) (pv 9) (nomark _))))) (pss_one (ps_ret pe_bl)) pss_nil))))))))))))))) (pss_cons (ps_set (i := 3) sc_law.nd rfl (by first | exact Or.inl rfl | exact Or.inr rfl) (pe_tup (pa_cons pe_int (pa_cons (pe_tup (pa_cons pe_int (pa_cons pe_int (pa_cons pe_int (pa_cons pe_int (pa_cons pe_int (pa_cons pe_int pa_nil))))))) pa_nil)))) (pss_cons (ps_if (PW.pt (pw_or (pt_cmpR (kNe K hu0) (pe_call G_needed_beats (hr.mono (by decide)) rfl g_needed_beats kp_needed_beats b_needed_beats .nil passL (pa_cons (pv 3) (pa_cons (pe_tup (pa_cons pe_int (pa_cons pe_int (pa_cons pe_int pa_nil)))) pa_nil))) (pe_lst (pa_cons pe_int (pa_cons pe_int (pa_cons pe_int (pa_cons pe_int pa_nil))))) (nomark _)) (pw_or1 (pt_cmpR (kNe K hu0) (pe_call G_helpful_beats (hr.mono (by decide)) rfl g_helpful_beats kp_helpful_beats b_helpful_beats .nil passL (pa_cons (pv 3) (pa_cons (pe_tup (pa_cons pe_int (pa_cons pe_int (pa_cons pe_int pa_nil)))) pa_nil))) (pe_lst (pa_cons pe_int (pa_cons pe_int pa_nil))) (nomark _))))) (pss_one (ps_ret pe_bl)) pss_nil) (pss_one (ps_ret (pe_and (pe_cmpR (kEq K hu0) (pe_call G_needed_beats (hr.mono (by decide)) rfl g_needed_beats kp_needed_beats b_needed_beats .nil passL (pa_cons (pe_tup (pa_cons pe_int (pa_cons (pe_tup (pa_cons pe_int pa_nil)) pa_nil))) (pa_cons (pe_tup (pa_cons pe_int (pa_cons pe_int (pa_cons pe_int pa_nil)))) pa_nil))) (pe_lst (pa_cons pe_int pa_nil)) (nomark _)) (pe_one (pe_cmpR (kEq K hu0) (pe_call G_helpful_beats (hr.mono (by decide)) rfl g_helpful_beats kp_helpful_beats b_helpful_beats .nil passL (pa_cons (pe_tup (pa_cons pe_int (pa_cons (pe_tup pa_nil) pa_nil))) (pa_cons (pe_tup (pa_cons pe_int (pa_cons pe_int (pa_cons pe_int pa_nil)))) pa_nil))) (pe_lst (pa_cons pe_int pa_nil)) (nomark _))))))))), ?_⟩
  obtain ⟨ns, hl, rfl, rfl⟩ := hR
  refine q_forM (xs := (0 :: ns).take 10) (en := PyData.int) [1, 2, 3, 4, 5, 6, 7, 8, 9, 10, 11, 12, 13, 14, 15] ((ip_list (EO.frz (eo_slL (EO.frz (eo_op (EO.frz (eo_lst (xs := [.int 0]) (ap_cons ep_int ap_nil) (Nat.le_of_ble_eq_true rfl))) (ep_var rfl) (ro_catS (by rw [List.length_map]; show 1 + ns.length ≤ 4096; omega)))) op_no (op_some (K := K) ep_int)))).is (by rw [show (some (10 : Int)) = some ((10 : Nat) : Int) from rfl, cutD_to, List.map_take]; rfl))
    (fun i Γ1 => Γ1 = [Da K (.list (ns.map .int)), .no, .no, .no, .no, .no, .no, .no, .no, .no, .no, .no, .no, .no, .no, .no]) rfl (fun i cell Γ1 hx hI => ?_) fun Γ1 hI => ?_
  · subst hI
    refine ⟨_, [1], gp_name, ?_⟩
    refine q_mkdeck (i := 2) (Nat.le_of_ble_eq_true rfl) (ap_cons (ep_var rfl) (ap_cons ep_int ap_nil)) (by decide) fun p => ?_
    refine q_asgGE (K := K) (e_tup (K := K) (a_cons (e_callDA (K := K) (c := 62) (i := 2) rfl (a_cons ((ep_int (K := K)).to (a_cons (e_callD (K := K) (c := 1) (i := 2) rfl (by decide) (ap_cons (EO.frz (eo_lst (xs := [.int 9, .int 30, .int 60]) (ap_cons ep_int (ap_cons ep_int (ap_cons ep_int ap_nil))) (Nat.le_of_ble_eq_true rfl))) ap_nil) ⟨[.int 9, .int 30, .int 60], rfl, by decide, by decide⟩ fun d hd => ?_)))))))
    obtain ⟨l, e1, hd⟩ := hd
    cases e1
    obtain ⟨m, rfl, m1, m2⟩ : ∃ m : Int, d = .int m ∧ 1 ≤ m ∧ m ≤ 60 := by
      simp only [List.mem_cons, List.not_mem_nil, or_false] at hd
      rcases hd with rfl | rfl | rfl <;> exact ⟨_, rfl, by decide, by decide⟩
    refine a_nil ⟨[.int 1, .int m], _, rfl, rfl, by decide, ⟨1, m, rfl, by decide, m1, m2⟩, fun d hd => ?_⟩
    obtain ⟨a', b', c, al, e1, rfl, hp, _, _⟩ := hd
    clear e1
    refine a_cons (e_callD (K := K) (c := 3) (i := 2) rfl (by decide) (ap_cons ep_int (ap_cons ep_int ap_nil)) ⟨30, 12, rfl, by decide, by decide, by decide, by decide⟩ fun d hd => ?_)
    obtain ⟨_, _, s, b, h, e1, rfl, hc, _, _⟩ := hd
    clear e1
    have hc1 := hp.c1; have hc2 := hp.c2; have hs1 := hc.s1; have hs2 := hc.s2; have hb1 := hc.b1; have hb2 := hc.b2; have hh1 := hc.h1; have hh2 := hc.h2
    refine a_nil ⟨[Q.pcD c al, Q.chD s b h], rfl, Nat.le_of_ble_eq_true rfl, _, [3, 4], _, rfl, gp_tup2, ?_⟩
    refine q_set (ep_call (ap_cons (ep_var rfl) (ap_cons (ep_op (ep_var rfl) ep_int (rd_ixT rfl)) (ap_cons (ep_op (ep_var rfl) ep_int (rd_ixT rfl)) ap_nil))) (.inl ⟨c, al, s, b, hp, hs1, hs2, hb1, hb2, rfl, rfl⟩)) ?_
    refine s_src (fun ds => ∃ L : List Int, ds = L.map .int ∧ ∀ x ∈ L, 0 ≤ x ∧ x ≤ s) ?_ fun ds wi hL hi => ?_
    · rcases Q.mv_or (b := b) hp hs1 with e | ⟨m, e, m0, m1⟩
      · refine ⟨_, ⟨setI [0, h], rfl, fun x hx => ?_⟩, EO.frz (eo_sset (ns := [0, h]) (EO.frz (eo_op (EO.frz (eo_lst (xs := [.int 0, .int h]) (ap_cons ep_int (ap_cons (ep_op (ep_var rfl) ep_int (rd_ixT rfl)) ap_nil)) (Nat.le_of_ble_eq_true rfl))) (ep_if (b := false) ((tp_test (ep_op ((ep_var rfl).is (congrArg (Da K) e)) ep_non (rd_notN (by rfl)))).is rfl) (fun z => absurd z (by decide)) (fun _ => ep_nil0)) (ro_catS (Nat.le_of_ble_eq_true rfl)))) (.inl rfl) (Nat.le_of_ble_eq_true rfl))⟩
        have := mem_setI.mp hx
        simp only [List.mem_cons, List.not_mem_nil, or_false] at this
        omega
      · refine ⟨_, ⟨setI [0, h, m, min s (m + 1)], rfl, fun x hx => ?_⟩, EO.frz (eo_sset (ns := [0, h, m, min s (m + 1)]) (EO.frz (eo_op (EO.frz (eo_lst (xs := [.int 0, .int h]) (ap_cons ep_int (ap_cons (ep_op (ep_var rfl) ep_int (rd_ixT rfl)) ap_nil)) (Nat.le_of_ble_eq_true rfl))) (ep_if (b := true) ((tp_test (ep_op ((ep_var rfl).is (congrArg (Da K) e)) ep_non (rd_notN (by rfl)))).is rfl) (fun _ => EO.frz (eo_lst (xs := [.int m, .int (min s (m + 1))]) (ap_cons ((ep_var rfl).is (congrArg (Da K) e)) (ap_cons (ep_cb (xs := [.int s, .int (m + 1)]) (ap_cons (ep_op (ep_var rfl) ep_int (rd_ixT rfl)) (ap_cons (ep_op ((ep_var rfl).is (congrArg (Da K) e)) ep_int (rd_I0 rfl)) ap_nil)) cd_min2) ap_nil)) (Nat.le_of_ble_eq_true rfl))) (fun z => absurd z (by decide))) (ro_catS (Nat.le_of_ble_eq_true rfl)))) (.inl rfl) (Nat.le_of_ble_eq_true rfl))⟩
        have := mem_setI.mp hx
        simp only [List.mem_cons, List.not_mem_nil, or_false] at this
        omega
    obtain ⟨L, rfl, hL⟩ := hL
    generalize hB : Q.mvD c al s b = best at hi ⊢
    refine s_forM (xs := L) (en := PyData.int) [6, 7, 8, 9, 10, 11, 12, 13, 14, 15] hi (fun i Γ1 => Γ1 = [Da K (.list (ns.map .int)), Da K (.int cell), .own p oDk ((5 : Nat) + 5 + 1 + 62 + 3), Da K (Q.pcD c al), Da K (Q.chD s b h), Da K best, .no, .no, .no, .no, .no, .no, .no, .no, .no, .no]) rfl (fun i v Γ1 hx hI => ?_) fun Γ1 hI => ?_
    · subst hI
      have hv := hL v (List.mem_of_getElem? hx)
      have hcv : Q.ValidC s b v := ⟨hs1, hs2, hb1, hb2, hv.1, hv.2⟩
      clear hx
      refine ⟨_, [6], gp_name, ?_⟩
      refine q_par3 (a_consP (s := Da K (Q.chD s b v)) (ep_tup (xs := [.int s, .int b, .int v]) (ap_cons (ep_op (ep_var rfl) ep_int (rd_ixT rfl)) (ap_cons (ep_op (ep_var rfl) ep_int (rd_ixT rfl)) (ap_cons (ep_var rfl) ap_nil))) (Nat.le_of_ble_eq_true rfl)) (a_consO (o := oL K) (eo_lst (xs := []) ap_nil (Nat.zero_le _)) fun g1 => a_consO (o := oL K) (eo_lst (xs := []) ap_nil (Nat.zero_le _)) fun g2 => a_nil ⟨_, _, _, rfl, ?_⟩))
      refine q_set (ep_call (ap_cons (ep_var rfl) (ap_cons (ep_var rfl) ap_nil)) ⟨c, al, s, b, v, hp, hcv, rfl, rfl⟩) ?_
      refine q_forM (xs := rng 0 c) (en := PyData.int) [11, 14, 15] (ip_rng1 (ap_cons (ep_op (ep_var rfl) ep_int (rd_ixT rfl)) ap_nil) (by omega) (by omega))
        (fun i Γ1 => Γ1 = [Da K (.list (ns.map .int)), Da K (.int cell), .own p oDk ((5 : Nat) + 5 + 1 + 62 + 3), Da K (Q.pcD c al), Da K (Q.chD s b h), Da K best, Da K (.int v), Da K (Q.chD s b v), .own g1 (oL K) ((((rng 0 c).take i).filter (Q.p1 c al s b v)).map .int), .own g2 (oL K) ((((rng 0 c).take i).filter (Q.p2 c al s b v)).map .int), Da K (.bool (Q.en c al s b v)), .no, .no, .no, .no, .no]) rfl (fun i x Γ1 hx hI => ?_) fun Γ1 hI => ?_
      · subst hI
        have hxr := mem_rng.mp (List.mem_of_getElem? hx)
        have hil : i < 60 := by have := (List.getElem?_eq_some_iff.mp hx).1; rw [rng_len] at this; omega
        have len : ∀ f : Int → Bool, (((rng 0 c).take i).filter f).length + 1 ≤ 4096 := fun f => by
          have h1 : (((rng 0 c).take i).filter f).length ≤ ((rng 0 c).take i).length := List.length_filter_le _ _
          have h2 : ((rng 0 c).take i).length ≤ i := by rw [List.length_take]; exact Nat.min_le_left _ _
          omega
        refine ⟨_, [11], gp_name, ?_⟩
        refine q_set (ep_cb (ap_cons (EO.frz (eo_lcN (xs := rng 0 c) (f := fun y => !decide (decide (y ∈ al) = decide (y = x))) (w := PyData.int) (ws := (Q.oth c al x).map .int) (ip_rng1 (ap_cons (ep_op (ep_var rfl) ep_int (rd_ixT rfl)) ap_nil) (by omega) (by omega)) (fun y hy => tp_test (ep_op (ep_op (ep_var rfl) (ep_op (ep_var rfl) ep_int (rd_ixT rfl)) (rd_inI (neg := false) (.inr rfl))) (ep_op (ep_var rfl) (ep_var rfl) rd_eqI) rd_neB)) (fun y hy _ => ep_var rfl) rfl)) ap_nil) (cd_tuple (.inl rfl))) ?_
        have ho := Q.oth_valid hp hxr.1 hxr.2
        refine s_seq (fun Γ' => Γ' = [Da K (.list (ns.map .int)), Da K (.int cell), .own p oDk ((5 : Nat) + 5 + 1 + 62 + 3), Da K (Q.pcD c al), Da K (Q.chD s b h), Da K best, Da K (.int v), Da K (Q.chD s b v), .own g1 (oL K) ((((rng 0 c).take (i + 1)).filter (Q.p1 c al s b v)).map .int), .own g2 (oL K) ((((rng 0 c).take i).filter (Q.p2 c al s b v)).map .int), Da K (.bool (Q.en c al s b v)), Da K (.int x), .no, .no, Da K (Q.tI (Q.oth c al x)), .no]) ?_ fun Γ' hΓ => ?_
        · refine s_if (b := Q.p1 c al s b v x) (tp_and (tp_B (ep_var rfl)) fun _ => tp_and (tp_test (ep_op (ep_var rfl) (ep_op (ep_var rfl) ep_int (rd_ixT rfl)) (rd_inI (neg := false) (.inr rfl)))) fun _ => tp_not (tp_B (ep_call (ap_cons (ep_tup (xs := [.int c, Q.tI (Q.oth c al x)]) (ap_cons (ep_op (ep_var rfl) ep_int (rd_ixT rfl)) (ap_cons (ep_var rfl) ap_nil)) (Nat.le_of_ble_eq_true rfl)) (ap_cons (ep_var rfl) ap_nil)) ⟨c, _, s, b, v, ho, hcv, rfl, rfl⟩))) (fun z => ?_) fun z => ?_
          · exact s_app (p := g1) (d := .int x) rfl (ep_var rfl) (by rw [List.length_map]; exact len _) (by show _ = _; rw [Q.filt_next hx, if_pos z, List.map_append]; rfl)
          · exact s_next (by show _ = _; rw [Q.filt_next hx, if_neg (by rw [z]; exact Bool.false_ne_true), List.append_nil]; rfl)
        subst hΓ
        refine s_if (b := Q.p2 c al s b v x) (tp_and (tp_not (tp_B (ep_var rfl))) fun _ => tp_and (tp_test (ep_op (ep_var rfl) (ep_op (ep_var rfl) ep_int (rd_ixT rfl)) (rd_inI (neg := true) (.inr rfl)))) fun _ => tp_B (ep_call (ap_cons (ep_tup (xs := [.int c, Q.tI (Q.oth c al x)]) (ap_cons (ep_op (ep_var rfl) ep_int (rd_ixT rfl)) (ap_cons (ep_var rfl) ap_nil)) (Nat.le_of_ble_eq_true rfl)) (ap_cons (ep_var rfl) ap_nil)) ⟨c, _, s, b, v, ho, hcv, rfl, rfl⟩)) (fun z => ?_) fun z => ?_
        · exact s_app (p := g2) (d := .int x) rfl (ep_var rfl) (by rw [List.length_map]; exact len _) (by show _ = _; rw [Q.filt_next (f := Q.p2 c al s b v) hx, if_pos z, List.map_append]; rfl)
        · exact s_next (by show _ = _; rw [Q.filt_next (f := Q.p2 c al s b v) hx, if_neg (by rw [z]; exact Bool.false_ne_true), List.append_nil]; rfl)
      · subst hI
        rw [List.take_length, Q.need_eq hp, Q.help_eq hp]
        refine s_frz (i := 8) rfl (s_frz (i := 9) rfl ?_)
        refine q_par2 (a_consO (o := oL K) (eo_call (es := (Q.nb c al s b v).map .int) (ap_cons (ep_var rfl) (ap_cons (ep_var rfl) ap_nil)) (.inl ⟨c, al, s, b, v, hp, hcv, rfl, rfl⟩)) fun g3 => a_consO (o := oL K) (eo_call (es := (Q.hb c al s b v).map .int) (ap_cons (ep_var rfl) (ap_cons (ep_var rfl) ap_nil)) (.inl ⟨c, al, s, b, v, hp, hcv, rfl, rfl⟩)) fun g4 => a_nil ⟨_, _, rfl, ?_⟩)
        have few : ∀ l : List Int, (∀ x ∈ l, 0 ≤ x ∧ x < c) → l.Pairwise (· < ·) → l.length + 1 ≤ 4096 := fun l h1 h2 => by
          rcases Q.asc_len (lo := 0) (hi := c) h2 (fun x hx => (h1 x hx).1) (fun x hx => (h1 x hx).2) with e | e
          · subst e; decide
          · omega
        have fN : (Q.nb c al s b v).length + 1 ≤ 4096 := by
          rw [← Q.need_eq hp]
          exact few _ (fun x hx => mem_rng.mp (List.mem_filter.mp hx).1) (Q.rng_asc.filter _)
        have fH : (Q.hb c al s b v).length + 1 ≤ 4096 := by
          rw [← Q.help_eq hp]
          exact few _ (fun x hx => mem_rng.mp (List.mem_filter.mp hx).1) (Q.rng_asc.filter _)
        refine q_out (b := false) ((tp_or (a := false) (b := false) (tp_borrow (frz_list (i := 12) rfl (frz_list (i := 13) rfl (frz_no 2 frz_done))) (tp_notF (tp_B ((ep_call (ap_cons (ep_var rfl) (ap_cons (ep_var rfl) ap_nil)) ⟨Q.lI (Q.nb c al s b v), Q.lI (Q.nb c al s b v), rfl, Q.nt_lI, Q.nt_lI, rfl⟩).is (by rw [Q.same_rfl]))))) fun _ => tp_or (a := false) (b := false) (tp_borrow (frz_list (i := 12) rfl (frz_list (i := 13) rfl (frz_no 2 frz_done))) (tp_notF (tp_B ((ep_call (ap_cons (ep_var rfl) (ap_cons (ep_var rfl) ap_nil)) ⟨Q.lI (Q.hb c al s b v), Q.lI (Q.hb c al s b v), rfl, Q.nt_lI, Q.nt_lI, rfl⟩).is (by rw [Q.same_rfl]))))) fun _ => (tp_test (ep_op (ep_call (ap_cons (ep_var rfl) (ap_cons (ep_var rfl) ap_nil)) (.inl ⟨c, al, s, b, v, hp, hcv, rfl, rfl⟩)) (ep_var rfl) rd_neB)).is (by rw [decide_eq_true rfl]; rfl)).is rfl) (fun z => absurd z (by decide)) fun _ => ?_
        refine q_app (p := g3) rfl ep_int (by rw [List.length_map]; exact fN) (q_app (p := g4) rfl ep_int (by rw [List.length_map]; exact fH) ?_)
        refine s_if (b := false) ((tp_or (a := false) (b := false) ((tp_test (ep_op (ep_call (ap_cons (ep_var rfl) (ap_cons (ep_var rfl) ap_nil)) (.inl ⟨c, al, s, b, v, hp, hcv, rfl, rfl⟩)) (ep_var rfl) (rd_neLI (l := Q.nb c al s b v) (m := Q.nb c al s b v)))).is (by rw [decide_eq_true rfl]; rfl)) fun _ => (tp_test (ep_op (ep_call (ap_cons (ep_var rfl) (ap_cons (ep_var rfl) ap_nil)) (.inl ⟨c, al, s, b, v, hp, hcv, rfl, rfl⟩)) (ep_var rfl) (rd_neLI (l := Q.hb c al s b v) (m := Q.hb c al s b v)))).is (by rw [decide_eq_true rfl]; rfl)).is rfl) (fun z => absurd z (by decide)) fun _ => s_next rfl
    · exact (wipeL_sub (by decide) hI).trans rfl
  · subst hI
    refine q_set (s := Da K (Q.pcD 8 [0, 1, 4, 5, 6, 7])) (ep_tup (xs := [.int 8, Q.tI [0, 1, 4, 5, 6, 7]]) (ap_cons ep_int (ap_cons (ep_tup (xs := [.int 0, .int 1, .int 4, .int 5, .int 6, .int 7]) (ap_cons ep_int (ap_cons ep_int (ap_cons ep_int (ap_cons ep_int (ap_cons ep_int (ap_cons ep_int ap_nil)))))) (Nat.le_of_ble_eq_true rfl)) ap_nil)) (Nat.le_of_ble_eq_true rfl)) ?_
    have c331 : Q.ValidC 3 3 1 := ⟨by decide, by decide, by decide, by decide, by decide, by decide⟩
    have c332 : Q.ValidC 3 3 2 := ⟨by decide, by decide, by decide, by decide, by decide, by decide⟩
    have c220 : Q.ValidC 2 2 0 := ⟨by decide, by decide, by decide, by decide, by decide, by decide⟩
    have v5 : Q.ValidP 5 [2] := ⟨by decide, by decide, by decide, by decide, by decide⟩
    have v5e : Q.ValidP 5 [] := ⟨by decide, by decide, by decide, by decide, by decide⟩
    have ch : ∀ {Γ : List Sl} {x y z : Int}, EP (tTup (tCons (tC (.int x)) (tCons (tC (.int y)) (tCons (tC (.int z)) tNil)))) Γ (Da K (Q.chD x y z)) := fun {Γ x y z} => ep_tup (xs := [.int x, .int y, .int z]) (ap_cons ep_int (ap_cons ep_int (ap_cons ep_int ap_nil))) (Nat.le_of_ble_eq_true rfl)
    have l4 : ∀ {Γ : List Sl}, EP (tLst (tCons (tC (.int 0)) (tCons (tC (.int 1)) (tCons (tC (.int 4)) (tCons (tC (.int 5)) tNil))))) Γ (Da K (Q.lI [0, 1, 4, 5])) := fun {Γ} => EO.frz (eo_lst (xs := [.int 0, .int 1, .int 4, .int 5]) (ap_cons ep_int (ap_cons ep_int (ap_cons ep_int (ap_cons ep_int ap_nil)))) (Nat.le_of_ble_eq_true rfl))
    have l2 : ∀ {Γ : List Sl}, EP (tLst (tCons (tC (.int 2)) (tCons (tC (.int 3)) tNil))) Γ (Da K (Q.lI [2, 3])) := fun {Γ} => EO.frz (eo_lst (xs := [.int 2, .int 3]) (ap_cons ep_int (ap_cons ep_int ap_nil)) (Nat.le_of_ble_eq_true rfl))
    have l1 : ∀ {Γ : List Sl}, EP (tLst (tCons (tC (.int 2)) tNil)) Γ (Da K (Q.lI [2])) := fun {Γ} => EO.frz (eo_lst (xs := [.int 2]) (ap_cons ep_int ap_nil) (Nat.le_of_ble_eq_true rfl))
    refine q_out (b := false) ((tp_or (a := false) (b := false) ((tp_test (ep_op ((ep_call (ap_cons (ep_var rfl) (ap_cons ch ap_nil)) (show Q.needed_beats _ (.ok (Q.lI (Q.nb 8 [0, 1, 4, 5, 6, 7] 3 3 1))) from .inl ⟨_, _, 3, 3, 1, Q.song8, c331, rfl, rfl⟩)).is (show Da K _ = Da K (Q.lI [0, 1, 4, 5]) by kernel_rfl)) l4 rd_neLI)).is rfl) fun _ => (tp_test (ep_op ((ep_call (ap_cons (ep_var rfl) (ap_cons ch ap_nil)) (show Q.helpful_beats _ (.ok (Q.lI (Q.hb 8 [0, 1, 4, 5, 6, 7] 3 3 2))) from .inl ⟨_, _, 3, 3, 2, Q.song8, c332, rfl, rfl⟩)).is (show Da K _ = Da K (Q.lI [2, 3]) by kernel_rfl)) l2 rd_neLI)).is rfl).is rfl) (fun z => absurd z (by decide)) fun _ => ?_
    exact s_ret (ep_andT ((ep_op ((ep_call (ap_cons (ep_tup (xs := [.int 5, Q.tI [2]]) (ap_cons ep_int (ap_cons (ep_tup (xs := [.int 2]) (ap_cons ep_int ap_nil) (Nat.le_of_ble_eq_true rfl)) ap_nil)) (Nat.le_of_ble_eq_true rfl)) (ap_cons ch ap_nil)) (show Q.needed_beats _ (.ok (Q.lI (Q.nb 5 [2] 2 2 0))) from .inl ⟨_, _, 2, 2, 0, v5, c220, rfl, rfl⟩)).is (show Da K _ = Da K (Q.lI [2]) by kernel_rfl)) l1 rd_eqLI).is rfl) ((ep_op ((ep_call (ap_cons (ep_tup (xs := [.int 5, Q.tI []]) (ap_cons ep_int (ap_cons (ep_tup (xs := []) ap_nil (Nat.zero_le _)) ap_nil)) (Nat.le_of_ble_eq_true rfl)) (ap_cons ch ap_nil)) (show Q.helpful_beats _ (.ok (Q.lI (Q.hb 5 [] 2 2 0))) from .inl ⟨_, _, 2, 2, 0, v5e, c220, rfl, rfl⟩)).is (show Da K _ = Da K (Q.lI [2]) by kernel_rfl)) l1 rd_eqLI).is rfl)) ⟨_, rfl, .o⟩
end
def loose : List Str := (["ChoirError", "InvalidPiece", "InvalidChoir", "InvalidNumber", "MOST_BEATS", "MOST_SINGERS", "is_from", "good_beats", "is_piece", "is_choir", "need_piece", "need_choir", "window_counts", "enough", "can_sing", "without", "with_beat", "forbidden", "needed_beats", "helpful_beats", "need_number", "most_voices", "_law_deck", "_law_pick", "_law_one", "_law_sort", "_law_same", "_law_song", "_law_group", "_law_enough"] : List Str)
abbrev R : PySem.W.OpenRow := PySem.W.OpenLaw.row PySem.Challenge.rw_staggerbreaths_k10_whole_beats_that_matt
abbrev hk : PySem.W.Hook := He.hookD 4 fa fn
def ob (s : PySem.W.SharedT) : He.AlD := He.obsDG 4 fa fn (HandSHeadRun.getT s)
theorem ob_eq (s : PySem.W.SharedT) : ob s = hk.obs s.abs := He.obsDG_eq (HandSHeadRun.getT_eq s)
theorem run (w : World) : HandSHeadRun.RunEq R (PySem.W.view R.prog [36]) hk ob 3000 loose w := by
  intro os
  kernel_rfl
theorem facts {P : Program} {w : World} {K : PySem.W.Frag} {h : Heap} {mg : Str → Option Value} {f : Addr} (X : K.In h) (G : h.Ns mainGlobals mg) (hfa : mg ("law" : Str) = some (.ref f)) (c : He.SaysD fa fn K) :
    ∃ fd : FuncData, (∀ (s : Shared) (v : Value), BindsTo s fd ⟨[v], []⟩ [("script", v)]) ∧ ∀ base : Heap, K.In base → base.Ns mainGlobals mg → FnOk P w K mg base (L2.CX P w) 9 f fd ["script"] (PF K Q.law) := by
  have T : Env K mg := ⟨c, h, X, G⟩
  obtain ⟨fd, F⟩ := c.def_ 24 (d := d_law) rfl
  have e := hfa.symm.trans (T.glo 24 (x := "law"))
  cases e
  have b := FunD.bindsA (ps := ["script"]) F fun _ _ _ _ _ _ us hl => match us, hl with | [_], _ => rfl
  refine ⟨fd, fun s v => b s [v] rfl, fun base _ _ => ?_⟩
  have h_is_from := ok_is_from (P := P) (w := w) (base := base) T 
  have h_good_beats := ok_good_beats (P := P) (w := w) (base := base) T h_is_from
  have h_is_piece := ok_is_piece (P := P) (w := w) (base := base) T h_is_from h_good_beats
  have h_is_choir := ok_is_choir (P := P) (w := w) (base := base) T h_is_from
  have h_need_piece := ok_need_piece (P := P) (w := w) (base := base) T h_is_piece
  have h_need_choir := ok_need_choir (P := P) (w := w) (base := base) T h_need_piece h_is_choir
  have h_window_counts := ok_window_counts (P := P) (w := w) (base := base) T 
  have h_enough := ok_enough (P := P) (w := w) (base := base) T h_window_counts
  have h_can_sing := ok_can_sing (P := P) (w := w) (base := base) T h_need_choir h_enough
  have h_without := ok_without (P := P) (w := w) (base := base) T 
  have h_with_beat := ok_with_beat (P := P) (w := w) (base := base) T 
  have h_forbidden := ok_forbidden (P := P) (w := w) (base := base) T 
  have h_needed_beats := ok_needed_beats (P := P) (w := w) (base := base) T h_need_choir h_enough h_without
  have h_helpful_beats := ok_helpful_beats (P := P) (w := w) (base := base) T h_need_choir h_enough h_forbidden h_with_beat
  have h_need_number := ok_need_number (P := P) (w := w) (base := base) T h_is_from
  have h_most_voices := ok_most_voices (P := P) (w := w) (base := base) T h_need_piece h_need_number h_window_counts
  have h_law_deck := ok_law_deck (P := P) (w := w) (base := base) T 
  have h_law_pick := ok_law_pick (P := P) (w := w) (base := base) T 
  have h_law_one := ok_law_one (P := P) (w := w) (base := base) T h_law_pick
  have h_law_sort := ok_law_sort (P := P) (w := w) (base := base) T 
  have h_law_same := ok_law_same (P := P) (w := w) (base := base) T h_law_sort 6
  have h_law_song := ok_law_song (P := P) (w := w) (base := base) T h_law_one h_law_pick
  have h_law_group := ok_law_group (P := P) (w := w) (base := base) T h_law_pick
  have h_law_enough := ok_law_enough (P := P) (w := w) (base := base) T 
  exact ok_law T h_law_deck h_law_group h_law_song h_law_one h_most_voices h_law_enough h_helpful_beats h_needed_beats h_can_sing h_law_same F
end G
open PySem PySem.W PySem.Calls PyProof.Rows
theorem PySem.Challenge.cw_staggerbreaths_k10_whole_beats_that_matt_holds : PySem.Challenge.rw_staggerbreaths_k10_whole_beats_that_matt.Holds := by
  w_on; o_law
  refine HandSHeadRun.head_any (r := OpenLaw.row PySem.Challenge.rw_staggerbreaths_k10_whole_beats_that_matt) (q := view (OpenLaw.row PySem.Challenge.rw_staggerbreaths_k10_whole_beats_that_matt).prog [36]) (H := G.hk) (ob := G.ob) (M := 3000) (loose := G.loose) (d := HandSHeadRun.topDef (OpenLaw.row PySem.Challenge.rw_staggerbreaths_k10_whole_beats_that_matt).prog 36) (kwd := []) G.ob_eq
    (by kernel_rfl) (fun s => by kernel_rfl) G.run (by kernel_rfl) (by kernel_rfl) (by kernel_rfl) (by rfl) (by first | assumption | decide +kernel) (by decide +kernel) ⟨rfl, rfl, rfl, rfl, rfl, by decide +kernel⟩ ?hw ?hc
  case hw => w_witness2
  case hc =>
    refine TL.walk_end (l := PySem.Challenge.rw_staggerbreaths_k10_whole_beats_that_matt) (n := 63) (k := 9) (x := "script") (R := Q.law) rfl (Nat.le_of_ble_eq_true rfl) (by kernel_rfl) ⟨rfl, by decide, by decide⟩ ?F Q.law_true
    intro w mg fa h Y N hmg0
    obtain ⟨K, KX, c⟩ := Y
    have hmg : mg ("law" : PySem.Str) = some (.ref fa) := by
      have e : (HandSHeadRun.topDef (OpenLaw.row PySem.Challenge.rw_staggerbreaths_k10_whole_beats_that_matt).prog 36).name = ("law" : PySem.Str) := by kernel_rfl
      rw [← e]
      exact hmg0
    obtain ⟨fd, hb, hF⟩ := G.facts (P := (PySem.Challenge.rw_staggerbreaths_k10_whole_beats_that_matt).prog) (w := w) KX N hmg c
    exact ⟨K, fd, KX, hb, hF⟩
