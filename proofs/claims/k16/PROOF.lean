import PyProof.Rows.All
import Wide.All
import OpenK.AllK
import Wide.FinOn
import HandS.ForMost
import HandS.Exc
import HandS.TryOnly
import HandS.ExcOwn
import HandS.WordsExc
import HandS.Evl
import HandS.Lambda
import HandS.ExcCtx
import HandS.HotCalls
import HandS.EndTab
import HandS.Defaults
import HandS.HeadHook2
import HandS.HeadHook4
import HandS.IsInst
import HandS.TupAny
import HandS.TupMul
import HandS.Conv
import HandS.Style
import HandS.Zip
import HandS.HeadEnd
import HandS.Head0
import HandS.Head1
import HandS.Head2
import HandS.HeadHook1
import KE.KStateDown
import HandS.SortInts
import HandS.SetFor
import HandS.Strs
import HandS.Comp
import KE.GoesMore
import HandS.Dict
import HandS.DictComp
import HandS.SortRule
import HandS.ExcIs
import HandS.Iter
import HandS.HeadWalk
import PySem.Challenge.RW_staggerbreaths_k16_whole_more_never_take
set_option Elab.async false
set_option linter.all false
set_option maxRecDepth 100000
set_option maxHeartbeats 4000000
/-! TL1: a typed layer over the hand layer: what a slot holds (a value that stands still, an object of one's own), kept through every step. -/
namespace TL
open PySem L2
open Evl (Ex)

/-- how a value stands for a datum: by what stands still -/
structure Rp (α : Type) where
  R : Hp → V → α → Prop
  mono : ∀ {H H' : Hp} {v : V} {a : α}, Ex H H' → R H v a → R H' v a
/-- no table of code objects, no code object -/
def Reg (o : HO) : Prop := (∀ ps, o ≠ .tbl ps) ∧ ∀ P, o ≠ .ext P
theorem reg_lst {xs : List V} : Reg (.lst xs) := ⟨fun _ h => (nomatch h), fun _ h => (nomatch h)⟩
theorem tabs_upd {T : List (Addr × Str)} {H : Hp} {p : Addr} {o o' : HO} (h : LamX.Tabs T H) (e : H p = some o) (r : Reg o) : LamX.Tabs T (upd H p o') := fun z hz => by
  obtain ⟨ps, h1, h2, h3⟩ := h z hz
  refine ⟨ps, ?_, h2, fun pos cv hc => ?_⟩
  · rw [upd_ne]
    · exact h1
    · intro q
      rw [q] at h1
      rw [h1] at e
      cases e
      exact r.1 _ rfl
  · obtain ⟨c, e1, e2⟩ := h3 pos cv hc
    refine ⟨c, e1, ?_⟩
    rw [upd_ne]
    · exact e2
    · intro q
      rw [q] at e2
      rw [e2] at e
      cases e
      exact r.2 _ rfl
theorem tabs_keep {T : List (Addr × Str)} {H H' : Hp} (h : LamX.Tabs T H) (k : ∀ q o, H q = some o → ¬ Reg o → H' q = some o) : LamX.Tabs T H' := fun z hz => by
  obtain ⟨ps, h1, h2, h3⟩ := h z hz
  refine ⟨ps, k _ _ h1 fun r => r.1 _ rfl, h2, fun pos cv hc => ?_⟩
  obtain ⟨c, e1, e2⟩ := h3 pos cv hc
  exact ⟨c, e1, k _ _ e2 fun r => r.2 _ rfl⟩
theorem tabs_new {T : List (Addr × Str)} {H : Hp} {p : Addr} {o' : HO} (h : LamX.Tabs T H) (e : H p = none) : LamX.Tabs T (upd H p o') := h.ext fun b o z => by
  rw [upd_ne (ne_of_none z e)]; exact z
/-- the tables of code objects stand in H, apart from what stands still -/
def TbOk (T : List (Addr × Str)) (F H : Hp) : Prop := LamX.Tabs T H ∧ ∀ z ∈ T, F z.1 = none
theorem TbOk.nil {F H : Hp} : TbOk [] F H := ⟨fun _ h => (nomatch h), fun _ h => (nomatch h)⟩
theorem TbOk.upd {T : List (Addr × Str)} {F H : Hp} {p : Addr} {o o' : HO} (h : TbOk T F H) (e : H p = some o) (r : Reg o) : TbOk T F (upd H p o') := ⟨tabs_upd h.1 e r, h.2⟩
theorem TbOk.new {T : List (Addr × Str)} {F H : Hp} {p : Addr} {o' : HO} (h : TbOk T F H) (e : H p = none) : TbOk T F (L2.upd H p o') := ⟨tabs_new h.1 e, h.2⟩
theorem TbOk.newF {T : List (Addr × Str)} {F H : Hp} {p : Addr} {o' : HO} (h : TbOk T F H) (e : H p = none) : TbOk T (L2.upd F p o') H := ⟨h.1, fun z hz => by
  obtain ⟨ps, h1, _⟩ := h.1 z hz
  rw [upd_ne (ne_of_none h1 e)]; exact h.2 z hz⟩
/-- more stands still: cells that are regular -/
theorem TbOk.grow {T : List (Addr × Str)} {F F' H : Hp} (h : TbOk T F H) (g : ∀ q, F' q = F q ∨ ∃ o, H q = some o ∧ Reg o) : TbOk T F' H := ⟨h.1, fun z hz => by
  rcases g z.1 with e | ⟨o, e, r⟩
  · rw [e]; exact h.2 z hz
  · obtain ⟨ps, h1, _⟩ := h.1 z hz
    rw [h1] at e
    cases e
    exact absurd rfl (r.1 ps)⟩
/-- an object of one's own at p: its cells fp in the heap, the rest in what stands still -/
structure Ow (α : Type) where
  O : Hp → Hp → Addr → List Addr → α → Prop
  frame : ∀ {F F' H H' : Hp} {p : Addr} {fp : List Addr} {a : α}, Ex F F' → (∀ q ∈ fp, H' q = H q) → O F H p fp a → O F' H' p fp a
  there : ∀ {F H : Hp} {p : Addr} {fp : List Addr} {a : α}, O F H p fp a → ∀ q ∈ fp, ∃ o, H q = some o
  regs : ∀ {F H : Hp} {p : Addr} {fp : List Addr} {a : α}, O F H p fp a → ∀ q ∈ fp, ∀ o, H q = some o → Reg o
inductive Sl : Type 1
  | no
  | val {α : Type} (r : Rp α) (a : α)
  | own {α : Type} (p : Addr) (o : Ow α) (a : α)
inductive SlOk (F H : Hp) : Option V → Sl → List Addr → Prop
  | no {x : Option V} : SlOk F H x .no []
  | val {v : V} {α : Type} {r : Rp α} {a : α} : r.R F v a → SlOk F H (some v) (.val r a) []
  | own {α : Type} {p : Addr} {o : Ow α} {a : α} {fp : List Addr} : o.O F H p fp a → SlOk F H (some (.ref p)) (.own p o a) fp
inductive SlsOk (F H : Hp) : St → List Sl → List (List Addr) → Prop
  | nil : SlsOk F H [] [] []
  | cons {x : Option V} {s : Sl} {fp : List Addr} {σ : St} {Γ : List Sl} {fps : List (List Addr)} : SlOk F H x s fp → SlsOk F H σ Γ fps → SlsOk F H (x :: σ) (s :: Γ) (fp :: fps)
section
variable {F F' H H' : Hp} {σ : St} {Γ : List Sl} {fps : List (List Addr)} {x : Option V} {s : Sl} {fp : List Addr}
theorem SlOk.frame (h : SlOk F H x s fp) (e : Ex F F') (k : ∀ q ∈ fp, H' q = H q) : SlOk F' H' x s fp := by
  cases h with
  | no => exact .no
  | @val v α r a h => exact .val (r.mono e h)
  | @own α p o a fp h => exact .own (o.frame e k h)
theorem SlOk.there (h : SlOk F H x s fp) : ∀ q ∈ fp, ∃ o, H q = some o := by
  cases h with
  | no => exact fun q z => nomatch z
  | val h => exact fun q z => nomatch z
  | @own α p o a fp h => exact o.there h
theorem SlsOk.frame (h : SlsOk F H σ Γ fps) (e : Ex F F') (k : ∀ q ∈ fps.flatten, H' q = H q) : SlsOk F' H' σ Γ fps := by
  induction h with
  | nil => exact .nil
  | cons a b ih =>
    exact .cons (a.frame e fun q z => k q (by rw [List.flatten_cons]; exact List.mem_append_left _ z)) (ih fun q z => k q (by rw [List.flatten_cons]; exact List.mem_append_right _ z))
theorem SlsOk.there (h : SlsOk F H σ Γ fps) : ∀ q ∈ fps.flatten, ∃ o, H q = some o := by
  induction h with
  | nil => exact fun q z => nomatch z
  | cons a b ih =>
    intro q z
    rw [List.flatten_cons] at z
    rcases List.mem_append.mp z with z | z
    · exact a.there q z
    · exact ih q z
theorem SlOk.regs (h : SlOk F H x s fp) : ∀ q ∈ fp, ∀ o, H q = some o → Reg o := by
  cases h with
  | no => exact fun q z => nomatch z
  | val h => exact fun q z => nomatch z
  | @own α p o a fp h => exact o.regs h
theorem SlsOk.regs (h : SlsOk F H σ Γ fps) : ∀ q ∈ fps.flatten, ∀ o, H q = some o → Reg o := by
  induction h with
  | nil => exact fun q z => nomatch z
  | cons a b ih =>
    intro q z
    rw [List.flatten_cons] at z
    rcases List.mem_append.mp z with z | z
    · exact a.regs q z
    · exact ih q z
theorem SlsOk.get {i : Nat} (h : SlsOk F H σ Γ fps) (e : Γ[i]? = some s) : ∃ x fp, σ[i]? = some x ∧ fps[i]? = some fp ∧ SlOk F H x s fp := by
  induction h generalizing i with
  | nil => simp at e
  | @cons x s' fp σ Γ fps a b ih =>
    cases i with
    | zero =>
      simp only [List.getElem?_cons_zero, Option.some.injEq] at e
      subst e
      exact ⟨x, fp, rfl, rfl, a⟩
    | succ i =>
      simp only [List.getElem?_cons_succ] at e ⊢
      exact ih e
theorem SlsOk.set {i : Nat} (h : SlsOk F H σ Γ fps) (a : SlOk F H x s fp) : SlsOk F H (σ.set i x) (Γ.set i s) (fps.set i fp) := by
  induction h generalizing i with
  | nil => exact .nil
  | cons b c ih =>
    cases i with
    | zero => exact .cons a c
    | succ i => exact .cons b ih
theorem SlsOk.append {σ' : St} {Γ' : List Sl} {fps' : List (List Addr)} (h : SlsOk F H σ Γ fps) (g : SlsOk F H σ' Γ' fps') : SlsOk F H (σ ++ σ') (Γ ++ Γ') (fps ++ fps') := by
  induction h with
  | nil => exact g
  | cons a b ih => exact .cons a ih
theorem SlsOk.len (h : SlsOk F H σ Γ fps) : σ.length = Γ.length ∧ fps.length = Γ.length := by
  induction h with
  | nil => exact ⟨rfl, rfl⟩
  | cons a b ih => exact ⟨by rw [List.length_cons, List.length_cons, ih.1], by rw [List.length_cons, List.length_cons, ih.2]⟩
theorem SlsOk.nos (σ : St) : SlsOk F H σ (List.replicate σ.length .no) (List.replicate σ.length []) := by
  induction σ with
  | nil => exact .nil
  | cons x r ih => exact .cons .no ih
end
/-! ### lists of footprints -/
theorem mem_set {L : List (List Addr)} {i : Nat} {fp : List Addr} {q : Addr} (h : q ∈ (L.set i fp).flatten) : q ∈ L.flatten ∨ q ∈ fp := by
  induction L generalizing i with
  | nil => exact .inl h
  | cons a r ih =>
    cases i with
    | zero =>
      rw [List.set_cons_zero, List.flatten_cons] at h
      rcases List.mem_append.mp h with h | h
      · exact .inr h
      · exact .inl (by rw [List.flatten_cons]; exact List.mem_append_right _ h)
    | succ i =>
      rw [List.set_cons_succ, List.flatten_cons] at h
      rcases List.mem_append.mp h with h | h
      · exact .inl (by rw [List.flatten_cons]; exact List.mem_append_left _ h)
      · rcases ih h with h | h
        · exact .inl (by rw [List.flatten_cons]; exact List.mem_append_right _ h)
        · exact .inr h
theorem mem_at {L : List (List Addr)} {i : Nat} {fp : List Addr} {q : Addr} (e : L[i]? = some fp) (h : q ∈ fp) : q ∈ L.flatten :=
  List.mem_flatten.mpr ⟨fp, List.mem_of_getElem? e, h⟩
/-- a part set anew, apart from the others -/
theorem nodup_set {L : List (List Addr)} {i : Nat} {fp : List Addr} (h : L.flatten.Nodup) (hf : fp.Nodup) (d : ∀ q ∈ fp, q ∉ (L.set i []).flatten) : (L.set i fp).flatten.Nodup := by
  induction L generalizing i with
  | nil => exact h
  | cons a r ih =>
    rw [List.flatten_cons, List.nodup_append] at h
    obtain ⟨h1, h2, h3⟩ := h
    cases i with
    | zero =>
      rw [List.set_cons_zero, List.flatten_cons, List.nodup_append]
      refine ⟨hf, h2, fun x hx y hy e => ?_⟩
      subst e
      refine d x hx ?_
      rw [List.set_cons_zero, List.flatten_cons]
      exact List.mem_append_right _ hy
    | succ i =>
      rw [List.set_cons_succ, List.flatten_cons, List.nodup_append]
      refine ⟨h1, ih h2 fun q hq z => d q hq ?_, fun x hx y hy e => ?_⟩
      · rw [List.set_cons_succ, List.flatten_cons]
        exact List.mem_append_right _ z
      · subst e
        rcases mem_set hy with hy | hy
        · exact h3 x hx x hy rfl
        · refine d x hy ?_
          rw [List.set_cons_succ, List.flatten_cons]
          exact List.mem_append_left _ hx
theorem nodup_drop {L : List (List Addr)} {i : Nat} (h : L.flatten.Nodup) : (L.set i []).flatten.Nodup :=
  nodup_set h List.nodup_nil fun q z => nomatch z
/-- a part's own cells are in no other part -/
theorem apart {L : List (List Addr)} {i : Nat} {fp : List Addr} {q : Addr} (h : L.flatten.Nodup) (e : L[i]? = some fp) (hq : q ∈ fp) : q ∉ (L.set i []).flatten := by
  induction L generalizing i with
  | nil => simp at e
  | cons a r ih =>
    rw [List.flatten_cons, List.nodup_append] at h
    obtain ⟨h1, h2, h3⟩ := h
    cases i with
    | zero =>
      simp only [List.getElem?_cons_zero, Option.some.injEq] at e
      subst e
      rw [List.set_cons_zero, List.flatten_cons]
      intro z
      rcases List.mem_append.mp z with z | z
      · exact nomatch z
      · exact h3 q hq q z rfl
    | succ i =>
      simp only [List.getElem?_cons_succ] at e
      rw [List.set_cons_succ, List.flatten_cons]
      intro z
      rcases List.mem_append.mp z with z | z
      · exact h3 q z q (mem_at e hq) rfl
      · exact ih h2 e z
/-! ### the state -/
/-- the entry: what stood still, the heap, the cells that were handed over -/
structure Bs where
  F : Hp
  H : Hp
  A : List Addr
  T : List (Addr × Str)
structure OkF (B : Bs) (Γ : List Sl) (σ : St) (F H : Hp) (fps : List (List Addr)) : Prop where
  sl : SlsOk F H σ Γ fps
  nd : fps.flatten.Nodup
  fz : ∀ q ∈ fps.flatten, F q = none
  ex : Ex F H
  bF : Ex B.F F
  bG : ∀ q o, F q = some o → B.F q = some o ∨ B.H q = none ∨ q ∈ B.A
  bK : ∀ q o, B.H q = some o → q ∉ B.A → (∀ ps, o ≠ .tbl ps) → H q = some o
  bD : (∀ q o, B.H q = some o → ∃ o', H q = some o') ∧ TbOk B.T F H
  bO : ∀ q ∈ fps.flatten, q ∈ B.A ∨ B.H q = none
def Ok (B : Bs) (Γ : List Sl) (σ : St) (F H : Hp) : Prop := ∃ fps, OkF B Γ σ F H fps
section
variable {B : Bs} {Γ Δ Γ' : List Sl} {σ τ : St} {F F' H H' : Hp} {fps fpd : List (List Addr)} {s : Sl} {v : V} {p : Addr} {o : HO}
theorem OkF.bN (h : OkF B Γ σ F H fps) (hp : H p = none) : B.H p = none := by
  cases e : B.H p with
  | none => rfl
  | some o =>
    obtain ⟨o', e'⟩ := h.bD.1 p o e
    rw [hp] at e'; cases e'
theorem OkF.nF (h : OkF B Γ σ F H fps) (hp : H p = none) : F p = none := by
  cases e : F p with
  | none => rfl
  | some o => rw [h.ex p o e] at hp; cases hp
theorem OkF.nfp (h : OkF B Γ σ F H fps) (hp : H p = none) : p ∉ fps.flatten := fun z => by
  obtain ⟨o, e⟩ := h.sl.there p z
  rw [hp] at e; cases e
theorem ex_upd (e : Ex F H) : Ex (upd F p o) (upd H p o) := fun q u h => by
  by_cases z : q = p
  · subst z; rw [upd_same] at h ⊢; exact h
  · rw [upd_ne z] at h ⊢; exact e q u h
/-- a new object that stands still from now on -/
theorem OkF.alloc (h : OkF B Γ σ F H fps) (hp : H p = none) : OkF B Γ σ (upd F p o) (upd H p o) fps := by
  have e1 : Ex F (upd F p o) := Ex.new (h.nF hp)
  have np : ∀ q ∈ fps.flatten, q ≠ p := fun q z e => h.nfp hp (e ▸ z)
  refine ⟨h.sl.frame e1 fun q z => upd_ne (np q z), h.nd, fun q z => by rw [upd_ne (np q z)]; exact h.fz q z, ex_upd h.ex, h.bF.trans e1, fun q u z => ?_, fun q u a b c => ?_, ⟨fun q u a => ?_, (h.bD.2.newF hp).new hp⟩, h.bO⟩
  · by_cases e : q = p
    · subst e; exact .inr (.inl (h.bN hp))
    · rw [upd_ne e] at z; exact h.bG q u z
  · have z := h.bK q u a b c
    rw [upd_ne (ne_of_none z hp)]; exact z
  · obtain ⟨u', z⟩ := h.bD.1 q u a
    exact ⟨u', by rw [upd_ne (ne_of_none z hp)]; exact z⟩
/-- a new object that is tracked by nobody -/
theorem OkF.lay (h : OkF B Γ σ F H fps) (hp : H p = none) : OkF B Γ σ F (upd H p o) fps := by
  have np : ∀ q ∈ fps.flatten, q ≠ p := fun q z e => h.nfp hp (e ▸ z)
  refine ⟨h.sl.frame (Ex.refl F) fun q z => upd_ne (np q z), h.nd, h.fz, fun q u z => ?_, h.bF, h.bG, fun q u a b c => ?_, ⟨fun q u a => ?_, h.bD.2.new hp⟩, h.bO⟩
  · rw [upd_ne (ne_of_none (h.ex q u z) hp)]; exact h.ex q u z
  · have z := h.bK q u a b c
    rw [upd_ne (ne_of_none z hp)]; exact z
  · obtain ⟨u', z⟩ := h.bD.1 q u a
    exact ⟨u', by rw [upd_ne (ne_of_none z hp)]; exact z⟩
/-- a value at the head -/
theorem OkF.push {α : Type} {r : Rp α} {a : α} (h : OkF B Γ σ F H fps) (hr : r.R F v a) : OkF B (.val r a :: Γ) (some v :: σ) F H ([] :: fps) :=
  ⟨.cons (.val hr) h.sl, h.nd, h.fz, h.ex, h.bF, h.bG, h.bK, h.bD, h.bO⟩
/-- a new object of one's own at the head -/
theorem OkF.pushO {α : Type} {w : Ow α} {a : α} (h : OkF B Γ σ F H fps) (hp : H p = none) (ho : w.O F (upd H p o) p [p] a) : OkF B (.own p w a :: Γ) (some (.ref p) :: σ) F (upd H p o) ([p] :: fps) := by
  have g := h.lay (o := o) hp
  refine ⟨.cons (.own ho) g.sl, ?_, ?_, g.ex, g.bF, g.bG, g.bK, g.bD, ?_⟩
  · rw [List.flatten_cons, List.nodup_append]
    refine ⟨List.nodup_cons.mpr ⟨List.not_mem_nil, List.nodup_nil⟩, h.nd, fun x hx y hy e => ?_⟩
    have ex : x = p := by simpa using hx
    subst e ex
    exact h.nfp hp hy
  · intro q z
    rw [List.flatten_cons] at z
    rcases List.mem_append.mp z with z | z
    · have e : q = p := by simpa using z
      rw [e]; exact h.nF hp
    · exact h.fz q z
  · intro q z
    rw [List.flatten_cons] at z
    rcases List.mem_append.mp z with z | z
    · have e : q = p := by simpa using z
      rw [e]; exact .inr (h.bN hp)
    · exact h.bO q z
/-- the head dropped -/
theorem OkF.pop {x : Option V} {fp : List Addr} (h : OkF B (s :: Γ) (x :: σ) F H (fp :: fps)) : OkF B Γ σ F H fps := by
  have sub : ∀ q ∈ fps.flatten, q ∈ (fp :: fps).flatten := fun q z => by rw [List.flatten_cons]; exact List.mem_append_right _ z
  refine ⟨?_, ?_, fun q z => h.fz q (sub q z), h.ex, h.bF, h.bG, h.bK, h.bD, fun q z => h.bO q (sub q z)⟩
  · cases h.sl with
    | cons a b => exact b
  · have z := h.nd
    rw [List.flatten_cons, List.nodup_append] at z
    exact z.2.1
theorem Ok.pop {x : Option V} (h : Ok B (s :: Γ) (x :: σ) F H) : Ok B Γ σ F H := by
  obtain ⟨L, h⟩ := h
  cases h.sl with
  | cons a b => exact ⟨_, h.pop⟩
/-- a slot set to what the head holds -/
theorem Ok.store {x : Option V} {i : Nat} (h : Ok B (s :: Γ) (x :: σ) F H) : Ok B (Γ.set i s) (σ.set i x) F H := by
  obtain ⟨L, h⟩ := h
  cases h.sl with
  | @cons x s fp σ Γ fps a b =>
    have nd := h.nd
    rw [List.flatten_cons, List.nodup_append] at nd
    obtain ⟨n1, n2, n3⟩ := nd
    have mm : ∀ q ∈ (fps.set i fp).flatten, q ∈ (fp :: fps).flatten := fun q z => by
      rw [List.flatten_cons]
      rcases mem_set z with z | z
      · exact List.mem_append_right _ z
      · exact List.mem_append_left _ z
    refine ⟨fps.set i fp, b.set a, nodup_set n2 n1 fun q hq z => ?_, fun q z => h.fz q (mm q z), h.ex, h.bF, h.bG, h.bK, h.bD, fun q z => h.bO q (mm q z)⟩
    rcases mem_set z with z | z
    · exact n3 q hq q z rfl
    · exact nomatch z
/-- a slot forgotten -/
theorem Ok.forget {x : Option V} {i : Nat} (h : Ok B Γ σ F H) : Ok B (Γ.set i .no) (σ.set i x) F H := by
  obtain ⟨L, h⟩ := h
  have mm : ∀ q ∈ (L.set i []).flatten, q ∈ L.flatten := fun q z => (mem_set z).elim id fun z => nomatch z
  exact ⟨L.set i [], h.sl.set .no, nodup_drop h.nd, fun q z => h.fz q (mm q z), h.ex, h.bF, h.bG, h.bK, h.bD, fun q z => h.bO q (mm q z)⟩
/-- THE FRAME: what runs from Γ alone leaves Δ as it is -/
theorem OkF.compose {τ' : St} (h : OkF B (Δ ++ Γ) (τ ++ σ) F H (fpd ++ fps)) (hd : SlsOk F H τ Δ fpd) (g : Ok ⟨F, H, fps.flatten, B.T⟩ Γ' τ' F' H') : ∃ fps', OkF B (Δ ++ Γ') (τ ++ τ') F' H' (fpd ++ fps') := by
  obtain ⟨L, g⟩ := g
  have nd := h.nd
  rw [List.flatten_append, List.nodup_append] at nd
  obtain ⟨n1, n2, n3⟩ := nd
  have ind : ∀ q ∈ fpd.flatten, q ∈ (fpd ++ fps).flatten := fun q z => by rw [List.flatten_append]; exact List.mem_append_left _ z
  have ins : ∀ q ∈ fps.flatten, q ∈ (fpd ++ fps).flatten := fun q z => by rw [List.flatten_append]; exact List.mem_append_right _ z
  have keep : ∀ q o, H q = some o → q ∉ fps.flatten → (∀ ps, o ≠ .tbl ps) → H' q = some o := fun q o e n r => g.bK q o e n r
  have nofr : ∀ q ∈ fpd.flatten, q ∉ fps.flatten := fun q z y => n3 q z q y rfl
  have keepd : ∀ q ∈ fpd.flatten, H' q = H q := fun q z => by
    obtain ⟨o, e⟩ := hd.there q z
    rw [e]; exact keep q o e (nofr q z) (hd.regs q z o e).1
  have fzd : ∀ q ∈ fpd.flatten, F' q = none := fun q z => by
    cases e : F' q with
    | none => rfl
    | some o =>
      rcases g.bG q o e with y | y | y
      · have := h.fz q (ind q z)
        rw [show F q = some o from y] at this; cases this
      · obtain ⟨o2, e2⟩ := hd.there q z
        rw [show H q = none from y] at e2; cases e2
      · exact absurd y (nofr q z)
  refine ⟨L, (hd.frame g.bF keepd).append g.sl, ?_, fun q z => ?_, g.ex, h.bF.trans g.bF, fun q o e => ?_, fun q o e n r => ?_, ⟨fun q o e => ?_, g.bD.2⟩, fun q z => ?_⟩
  · rw [List.flatten_append, List.nodup_append]
    refine ⟨n1, g.nd, fun x hx y hy e => ?_⟩
    subst e
    rcases g.bO x hy with z | z
    · exact nofr x hx z
    · obtain ⟨o2, e2⟩ := hd.there x hx
      rw [show H x = none from z] at e2; cases e2
  · rw [List.flatten_append] at z
    rcases List.mem_append.mp z with z | z
    · exact fzd q z
    · exact g.fz q z
  · rcases g.bG q o e with y | y | y
    · exact h.bG q o y
    · exact .inr (.inl (h.bN y))
    · exact .inr ((h.bO q (ins q y)).elim .inr .inl)
  · have e1 := h.bK q o e n r
    refine keep q o e1 (fun y => ?_) r
    rcases h.bO q (ins q y) with z | z
    · exact n z
    · rw [z] at e; cases e
  · obtain ⟨o1, e1⟩ := h.bD.1 q o e
    exact g.bD.1 q o1 e1
  · rw [List.flatten_append] at z
    rcases List.mem_append.mp z with z | z
    · exact h.bO q (ind q z)
    · rcases g.bO q z with y | y
      · exact h.bO q (ins q y)
      · exact .inr (h.bN y)
/-- the base for what runs from here -/
theorem OkF.base (h : OkF B Γ σ F H fps) : OkF ⟨F, H, fps.flatten, B.T⟩ Γ σ F H fps :=
  ⟨h.sl, h.nd, h.fz, h.ex, Ex.refl F, fun _ _ e => .inl e, fun _ _ e _ _ => e, ⟨fun _ o e => ⟨o, e⟩, h.bD.2⟩, fun _ z => .inl z⟩
/-- with one slot at the head -/
theorem Ok.compose1 {x : Option V} {τ' : St} (h : Ok B (s :: Γ) (x :: σ) F H) (k : ∀ fps, OkF ⟨F, H, fps.flatten, B.T⟩ Γ σ F H fps → Ok ⟨F, H, fps.flatten, B.T⟩ Γ' τ' F' H') : Ok B (s :: Γ') (x :: τ') F' H' := by
  obtain ⟨L, h⟩ := h
  cases h.sl with
  | @cons x s fp σ Γ fps a b =>
    obtain ⟨L', g⟩ := OkF.compose (Δ := [s]) (τ := [x]) (fpd := [fp]) h (.cons a .nil) (k fps h.pop.base)
    exact ⟨_, g⟩
/-- what ran from no slot at all (a def without objects handed over) -/
theorem Ok.after {τ' : St} (h : Ok B Γ σ F H) (g : Ok ⟨F, H, [], B.T⟩ Γ' τ' F' H') : Ok B (Γ' ++ Γ) (τ' ++ σ) F' H' := by
  obtain ⟨L, h⟩ := h
  have h2 : OkF B (Γ ++ []) (σ ++ []) F H (L ++ []) := by
    rw [List.append_nil, List.append_nil, List.append_nil]; exact h
  obtain ⟨L', g'⟩ := OkF.compose (Δ := Γ) (τ := σ) (fpd := L) (fps := []) h2 h.sl g
  have gs := g'.sl
  -- the two parts change places
  have sp : ∀ {σ₁ : St} {Γ₁ : List Sl} {f₁ : List (List Addr)}, SlsOk F H σ₁ Γ₁ f₁ → ∀ {σ₂ : St} {Γ₂ : List Sl} {f₂ : List (List Addr)}, SlsOk F' H' (σ₁ ++ σ₂) (Γ₁ ++ Γ₂) (f₁ ++ f₂) → SlsOk F' H' σ₁ Γ₁ f₁ ∧ SlsOk F' H' σ₂ Γ₂ f₂ := by
    intro σ₁ Γ₁ f₁ k
    induction k with
    | nil => intro σ₂ Γ₂ f₂ z; exact ⟨.nil, z⟩
    | cons a b ih =>
      intro σ₂ Γ₂ f₂ z
      cases z with
      | cons a' b' =>
        obtain ⟨z1, z2⟩ := ih b'
        exact ⟨.cons a' z1, z2⟩
  obtain ⟨s1, s2⟩ := sp h.sl gs
  have mm : ∀ q, q ∈ (L' ++ L).flatten → q ∈ (L ++ L').flatten := fun q z => by
    rw [List.flatten_append] at z ⊢
    exact List.mem_append.mpr ((List.mem_append.mp z).symm)
  refine ⟨L' ++ L, s2.append s1, ?_, fun q z => g'.fz q (mm q z), g'.ex, g'.bF, g'.bG, g'.bK, g'.bD, fun q z => g'.bO q (mm q z)⟩
  have nd := g'.nd
  rw [List.flatten_append, List.nodup_append] at nd ⊢
  obtain ⟨n1, n2, n3⟩ := nd
  exact ⟨n2, n1, fun x hx y hy e => n3 y hy x hx e.symm⟩
end
end TL
/-! TL2: data that stand still, lists of one's own, what an expression comes to. -/
namespace TL
open PySem L2
open Evl (Ex ex_l ex_t)

def wee : Nat := 4096
mutual
inductive Dq (K : PySem.W.Frag) (H : Hp) : V → PyData → Prop
  | non : Dq K H .non .none
  | bl (b : Bool) : Dq K H (.bl b) (.bool b)
  | int (i : Int) : Dq K H (.int i) (.int i)
  | str (x : Str) : Dq K H (.str x) (.str x)
  | lst {a : Addr} {xs : List V} {ds : List PyData} : SqL K H a xs → ds.length ≤ wee → DqAll K H xs ds → Dq K H (.ref a) (.list ds)
  | tup {a : Addr} {xs : List V} {ds : List PyData} : SqT K H a xs → ds.length ≤ wee → DqAll K H xs ds → Dq K H (.ref a) (.tuple ds)
inductive DqAll (K : PySem.W.Frag) (H : Hp) : List V → List PyData → Prop
  | nil : DqAll K H [] []
  | cons {v : V} {vs : List V} {d : PyData} {ds : List PyData} : Dq K H v d → DqAll K H vs ds → DqAll K H (v :: vs) (d :: ds)
end
section
variable {K : PySem.W.Frag} {H H' : Hp}
mutual
theorem Dq.mono (e : Ex H H') : ∀ (d : PyData) (v : V), Dq K H v d → Dq K H' v d
  | .none, _, h => by cases h; exact .non
  | .bool b, _, h => by cases h; exact .bl b
  | .int i, _, h => by cases h; exact .int i
  | .str x, _, h => by cases h; exact .str x
  | .list ds, _, h => by
    cases h with
    | lst a b c => exact .lst (ex_l e a) b (DqAll.mono e ds _ c)
  | .tuple ds, _, h => by
    cases h with
    | tup a b c => exact .tup (ex_t e a) b (DqAll.mono e ds _ c)
  | .dict _, _, h => by cases h
theorem DqAll.mono (e : Ex H H') : ∀ (ds : List PyData) (vs : List V), DqAll K H vs ds → DqAll K H' vs ds
  | [], _, h => by cases h; exact .nil
  | d :: ds, _, h => by
    cases h with
    | cons a b => exact .cons (Dq.mono e d _ a) (DqAll.mono e ds _ b)
end
mutual
theorem Dq.dp : ∀ (d : PyData) (v : V), Dq K H v d → Dp K H v d
  | .none, _, h => by cases h; exact .non
  | .bool b, _, h => by cases h; exact .bl b
  | .int i, _, h => by cases h; exact .int i
  | .str x, _, h => by cases h; exact .str x
  | .list ds, _, h => by
    cases h with
    | lst a b c => exact .lst a (DqAll.dp ds _ c)
  | .tuple ds, _, h => by
    cases h with
    | tup a b c => exact .tup a (DqAll.dp ds _ c)
  | .dict _, _, h => by cases h
theorem DqAll.dp : ∀ (ds : List PyData) (vs : List V), DqAll K H vs ds → DpAll K H vs ds
  | [], _, h => by cases h; exact .nil
  | d :: ds, _, h => by
    cases h with
    | cons a b => exact .cons (Dq.dp d _ a) (DqAll.dp ds _ b)
end
theorem DqAll.len : ∀ {vs : List V} {ds : List PyData}, DqAll K H vs ds → vs.length = ds.length
  | [], _, h => by cases h; rfl
  | v :: vs, _, h => by
    cases h with
    | cons a b => rw [List.length_cons, List.length_cons, DqAll.len b]
theorem DqAll.get : ∀ {vs : List V} {ds : List PyData} {i : Nat} {d : PyData}, DqAll K H vs ds → ds[i]? = some d → ∃ v, vs[i]? = some v ∧ Dq K H v d
  | [], _, _, _, h, e => by cases h; simp at e
  | v :: vs, _, i, d, h, e => by
    cases h with
    | cons a b =>
      cases i with
      | zero => simp at e; subst e; exact ⟨v, rfl, a⟩
      | succ i => exact DqAll.get (i := i) b (by simpa using e)
theorem DqAll.get' : ∀ {vs : List V} {ds : List PyData} {i : Nat} {v : V}, DqAll K H vs ds → vs[i]? = some v → ∃ d, ds[i]? = some d ∧ Dq K H v d
  | [], _, _, _, h, e => by simp at e
  | v :: vs, _, i, w, h, e => by
    cases h with
    | @cons _ _ d _ a b =>
      cases i with
      | zero => simp at e; subst e; exact ⟨d, rfl, a⟩
      | succ i => exact DqAll.get' (i := i) b (by simpa using e)
theorem DqAll.append : ∀ {vs ws : List V} {ds es : List PyData}, DqAll K H vs ds → DqAll K H ws es → DqAll K H (vs ++ ws) (ds ++ es)
  | [], _, _, _, h, g => by cases h; exact g
  | v :: vs, _, _, _, h, g => by
    cases h with
    | cons a b => exact .cons a (DqAll.append b g)
theorem DqAll.take : ∀ {vs : List V} {ds : List PyData} (n : Nat), DqAll K H vs ds → DqAll K H (vs.take n) (ds.take n)
  | _, _, 0, h => by simp only [List.take_zero]; exact .nil
  | [], _, n + 1, h => by cases h; exact .nil
  | v :: vs, _, n + 1, h => by
    cases h with
    | cons a b => exact .cons a (DqAll.take n b)
theorem DqAll.drop : ∀ {vs : List V} {ds : List PyData} (n : Nat), DqAll K H vs ds → DqAll K H (vs.drop n) (ds.drop n)
  | _, _, 0, h => h
  | [], _, n + 1, h => by cases h; exact .nil
  | v :: vs, _, n + 1, h => by
    cases h with
    | cons a b => exact DqAll.drop n b
theorem DqAll.reverse : ∀ {vs : List V} {ds : List PyData}, DqAll K H vs ds → DqAll K H vs.reverse ds.reverse
  | [], _, h => by cases h; exact .nil
  | v :: vs, _, h => by
    cases h with
    | cons a b =>
      rw [List.reverse_cons, List.reverse_cons]
      exact DqAll.append (DqAll.reverse b) (.cons a .nil)
theorem DqAll.ints {ns : List Int} : DqAll K H (ns.map V.int) (ns.map PyData.int) := by
  induction ns with
  | nil => exact .nil
  | cons n r ih => exact .cons (.int n) ih
theorem DqAll.ints_inv : ∀ {ns : List Int} {vs : List V}, DqAll K H vs (ns.map PyData.int) → vs = ns.map V.int
  | [], _, h => by cases h; rfl
  | n :: r, _, h => by
    cases h with
    | cons a b => cases a; rw [DqAll.ints_inv b]; rfl
theorem DqAll.bools_inv : ∀ {ns : List Bool} {vs : List V}, DqAll K H vs (ns.map PyData.bool) → vs = ns.map V.bl
  | [], _, h => by cases h; rfl
  | n :: r, _, h => by
    cases h with
    | cons a b => cases a; rw [DqAll.bools_inv b]; rfl
end
/-- data that stand still -/
def rD (K : PySem.W.Frag) : Rp PyData := ⟨fun H v d => Dq K H v d, fun {_ _ _ _} e h => Dq.mono e _ _ h⟩
/-- a list of one's own -/
def oL (K : PySem.W.Frag) : Ow (List PyData) where
  O := fun F H p fp ds => fp = [p] ∧ ∃ xs, H p = some (.lst xs) ∧ ds.length ≤ wee ∧ DqAll K F xs ds
  frame := fun {F F' H H' p fp a} e k ⟨h1, xs, h2, h3, h4⟩ => ⟨h1, xs, by rw [k p (by rw [h1]; exact List.mem_singleton.mpr rfl)]; exact h2, h3, DqAll.mono e _ _ h4⟩
  there := fun {F H p fp a} ⟨h1, xs, h2, _⟩ q hq => by
    rw [h1] at hq
    have e : q = p := by simpa using hq
    rw [e]; exact ⟨_, h2⟩
  regs := fun {F H p fp a} ⟨h1, xs, h2, _⟩ q hq o ho => by
    rw [h1] at hq
    have e : q = p := by simpa using hq
    rw [e, h2] at ho
    cases ho
    exact reg_lst
abbrev Da (K : PySem.W.Frag) (d : PyData) : Sl := .val (rD K) d

/-! ### what an expression, a test, arguments come to -/
def E (te : TE) (Γ : List Sl) (k : List Sl → Sl → Prop) : Prop := ∀ (B : Bs) (σ : St) (F H : Hp), Ok B Γ σ F H → ∀ Q : VK, (∀ Γ' s v F' H', k Γ' s → Ok B (s :: Γ') (some v :: σ) F' H' → Ex F F' → Q v H') → te σ H Q
def T (tt : TT) (Γ : List Sl) (k : List Sl → Bool → Prop) : Prop := ∀ (B : Bs) (σ : St) (F H : Hp), Ok B Γ σ F H → ∀ Q : Bool → Hp → Prop, (∀ Γ' b F' H', k Γ' b → Ok B Γ' σ F' H' → Ex F F' → Q b H') → tt σ H Q
def A (ta : TA) (Γ : List Sl) (k : List Sl → List Sl → Prop) : Prop := ∀ (B : Bs) (σ : St) (F H : Hp), Ok B Γ σ F H → ∀ Q : List V → Hp → Prop, (∀ Γ' ss vs F' H', k Γ' ss → ss.length = vs.length → Ok B (ss ++ Γ') (vs.map some ++ σ) F' H' → Ex F F' → Q vs H') → ta σ H Q
/-- .. of one datum, the slots as they stand -/
def EP (te : TE) (Γ : List Sl) (s : Sl) : Prop := E te Γ fun Γ' s' => Γ' = Γ ∧ s' = s
def TP (tt : TT) (Γ : List Sl) (b : Bool) : Prop := T tt Γ fun Γ' b' => Γ' = Γ ∧ b' = b
def AP (ta : TA) (Γ : List Sl) (ss : List Sl) : Prop := A ta Γ fun Γ' ss' => Γ' = Γ ∧ ss' = ss
/-- .. of a new list of one's own -/
def EO (te : TE) (Γ : List Sl) {α : Type} (o : Ow α) (a : α) : Prop := E te Γ fun Γ' s' => Γ' = Γ ∧ ∃ p, s' = .own p o a

section
variable {K : PySem.W.Frag} {B : Bs} {Γ Δ Γ' : List Sl} {σ τ : St} {F F' H H' : Hp} {s : Sl} {v : V} {te ta tb tc : TE} {tt tu : TT} {k k' : List Sl → Sl → Prop} {d e x y z : PyData} {i j : Nat}
theorem E.imp (h : E te Γ k) (w : ∀ Γ' s, k Γ' s → k' Γ' s) : E te Γ k' := fun B σ F H I Q q => h B σ F H I Q fun Γ' s v F' H' a b c => q Γ' s v F' H' (w _ _ a) b c
theorem EP.to (h : EP te Γ s) (w : k Γ s) : E te Γ k := h.imp fun Γ' s' ⟨a, b⟩ => by subst a b; exact w
theorem TP.to {k : List Sl → Bool → Prop} {b : Bool} (h : TP tt Γ b) (w : k Γ b) : T tt Γ k := fun B σ F H I Q q => h B σ F H I Q fun Γ' s F' H' ⟨a, b⟩ c d => by subst a b; exact q _ _ F' H' w c d
theorem EP.is {s' : Sl} (h : EP te Γ s) (w : s = s') : EP te Γ s' := by subst w; exact h
theorem TP.is {b b' : Bool} (h : TP tt Γ b) (w : b = b') : TP tt Γ b' := by subst w; exact h
/-- what runs, run with something ahead -/
theorem split {σ₁ : St} {Γ₁ : List Sl} (hl : σ₁.length = Γ₁.length) : ∀ {σ₂ : St} {Γ₂ : List Sl} {f : List (List Addr)}, SlsOk F H (σ₁ ++ σ₂) (Γ₁ ++ Γ₂) f → ∃ f₁ f₂, f = f₁ ++ f₂ ∧ SlsOk F H σ₁ Γ₁ f₁ ∧ SlsOk F H σ₂ Γ₂ f₂ := by
  induction Γ₁ generalizing σ₁ with
  | nil =>
    have e : σ₁ = [] := List.eq_nil_of_length_eq_zero hl
    subst e
    intro σ₂ Γ₂ f h
    exact ⟨[], f, rfl, .nil, h⟩
  | cons s r ih =>
    cases σ₁ with
    | nil => simp at hl
    | cons a t =>
      intro σ₂ Γ₂ f h
      cases h with
      | cons u w =>
        obtain ⟨f₁, f₂, e, g1, g2⟩ := ih (by simpa using hl) w
        subst e
        exact ⟨_, f₂, rfl, .cons u g1, g2⟩
theorem underT (hl : τ.length = Δ.length) (h : Ok B (Δ ++ Γ) (τ ++ σ) F H) : ∃ B', Ok B' Γ σ F H ∧ B'.T = B.T ∧ ∀ Γ' σ' F' H', Ok B' Γ' σ' F' H' → Ok B (Δ ++ Γ') (τ ++ σ') F' H' := by
  obtain ⟨L, h⟩ := h
  obtain ⟨f₁, f₂, e, g1, g2⟩ := split hl h.sl
  subst e
  have sub : ∀ q ∈ f₂.flatten, q ∈ (f₁ ++ f₂).flatten := fun q z => by rw [List.flatten_append]; exact List.mem_append_right _ z
  have nd := h.nd
  rw [List.flatten_append, List.nodup_append] at nd
  have h2 : OkF B Γ σ F H f₂ := ⟨g2, nd.2.1, fun q z => h.fz q (sub q z), h.ex, h.bF, h.bG, h.bK, h.bD, fun q z => h.bO q (sub q z)⟩
  exact ⟨_, ⟨f₂, h2.base⟩, rfl, fun Γ' σ' F' H' g => by
    obtain ⟨f', g'⟩ := OkF.compose h g1 g
    exact ⟨_, g'⟩⟩
theorem under (hl : τ.length = Δ.length) (h : Ok B (Δ ++ Γ) (τ ++ σ) F H) : ∃ B', Ok B' Γ σ F H ∧ ∀ Γ' σ' F' H', Ok B' Γ' σ' F' H' → Ok B (Δ ++ Γ') (τ ++ σ') F' H' := by
  obtain ⟨B', I, _, c⟩ := underT hl h
  exact ⟨B', I, c⟩
theorem E.under (h : E te Γ k) (hl : τ.length = Δ.length) (I : Ok B (Δ ++ Γ) (τ ++ σ) F H) {Q : VK} (q : ∀ Γ' s v F' H', k Γ' s → Ok B (Δ ++ s :: Γ') (τ ++ some v :: σ) F' H' → Ex F F' → Q v H') : te σ H Q := by
  obtain ⟨B', I', c⟩ := TL.under hl I
  exact h B' σ F H I' Q fun Γ' s v F' H' a b e => q Γ' s v F' H' a (c _ _ _ _ b) e
theorem T.under {k : List Sl → Bool → Prop} (h : T tt Γ k) (hl : τ.length = Δ.length) (I : Ok B (Δ ++ Γ) (τ ++ σ) F H) {Q : Bool → Hp → Prop} (q : ∀ Γ' b F' H', k Γ' b → Ok B (Δ ++ Γ') (τ ++ σ) F' H' → Ex F F' → Q b H') : tt σ H Q := by
  obtain ⟨B', I', c⟩ := TL.under hl I
  exact h B' σ F H I' Q fun Γ' s F' H' a b e => q Γ' s F' H' a (c _ _ _ _ b) e
theorem A.under {ta : TA} {k : List Sl → List Sl → Prop} (h : A ta Γ k) (hl : τ.length = Δ.length) (I : Ok B (Δ ++ Γ) (τ ++ σ) F H) {Q : List V → Hp → Prop} (q : ∀ Γ' ss vs F' H', k Γ' ss → ss.length = vs.length → Ok B (Δ ++ (ss ++ Γ')) (τ ++ (vs.map some ++ σ)) F' H' → Ex F F' → Q vs H') : ta σ H Q := by
  obtain ⟨B', I', c⟩ := TL.under hl I
  exact h B' σ F H I' Q fun Γ' s v F' H' a n b e => q Γ' s v F' H' a n (c _ _ _ _ b) e
/-- the head read -/
theorem Ok.head {x : Option V} {α : Type} {r : Rp α} {a : α} (h : Ok B (.val r a :: Γ) (x :: σ) F H) : ∃ v, x = some v ∧ r.R F v a := by
  obtain ⟨L, h⟩ := h
  cases h.sl with
  | cons u w =>
    cases u with
    | val hr => exact ⟨_, rfl, hr⟩
theorem Ok.ex (h : Ok B Γ σ F H) : Ex F H := by obtain ⟨L, h⟩ := h; exact h.ex
theorem Ok.at_ {α : Type} {r : Rp α} {a : α} (h : Ok B Γ σ F H) (e : Γ[i]? = some (.val r a)) : ∃ v, σ[i]? = some (some v) ∧ r.R F v a := by
  obtain ⟨L, h⟩ := h
  obtain ⟨x, fp, e1, _, u⟩ := h.sl.get e
  cases u with
  | val hr => exact ⟨_, e1, hr⟩
theorem Ok.push {α : Type} {r : Rp α} {a : α} (h : Ok B Γ σ F H) (hr : r.R F v a) : Ok B (.val r a :: Γ) (some v :: σ) F H := by
  obtain ⟨L, h⟩ := h
  exact ⟨_, h.push hr⟩
theorem Ok.alloc {p : Addr} {o : HO} (h : Ok B Γ σ F H) (hp : H p = none) : Ok B Γ σ (upd F p o) (upd H p o) := by
  obtain ⟨L, h⟩ := h
  exact ⟨_, h.alloc hp⟩
theorem Ok.nF {p : Addr} (h : Ok B Γ σ F H) (hp : H p = none) : F p = none := by
  obtain ⟨L, h⟩ := h
  exact h.nF hp
theorem Ok.pushL {p : Addr} {xs : List V} {ds : List PyData} (h : Ok B Γ σ F H) (hp : H p = none) (hz : ds.length ≤ wee) (hd : DqAll K F xs ds) : Ok B (.own p (oL K) ds :: Γ) (some (.ref p) :: σ) F (upd H p (.lst xs)) := by
  obtain ⟨L, h⟩ := h
  exact ⟨_, h.pushO hp ⟨rfl, xs, upd_same, hz, hd⟩⟩
/-- a list of one's own stands still from now on -/
theorem Ok.freeze {p : Addr} {ds : List PyData} {x : Option V} (h : Ok B (.own p (oL K) ds :: Γ) (x :: σ) F H) : ∃ F', x = some (.ref p) ∧ Ex F F' ∧ Ok B (Da K (.list ds) :: Γ) (x :: σ) F' H := by
  obtain ⟨L, h⟩ := h
  cases h.sl with
  | @cons x s fp σ Γ fps u w =>
    cases u with
    | own ho =>
      obtain ⟨e1, xs, e2, e3, e4⟩ := ho
      subst e1
      have np : F p = none := h.fz p (by rw [List.flatten_cons]; exact List.mem_append_left _ (List.mem_singleton.mpr rfl))
      have eF : Ex F (upd F p (.lst xs)) := Ex.new np
      have nd := h.nd
      rw [List.flatten_cons, List.nodup_append] at nd
      have nin : ∀ q ∈ fps.flatten, q ≠ p := fun q z e => nd.2.2 p (List.mem_singleton.mpr rfl) q z e.symm
      refine ⟨upd F p (.lst xs), rfl, eF, [] :: fps, .cons (.val (Dq.lst (.inl (.inl upd_same)) e3 (DqAll.mono eF _ _ e4))) (w.frame eF fun q _ => rfl), nd.2.1, fun q z => ?_, fun q o z => ?_, h.bF.trans eF, fun q o z => ?_, h.bK, ⟨h.bD.1, h.bD.2.grow fun q => if z : q = p then .inr ⟨.lst xs, (congrArg H z).trans e2, reg_lst⟩ else .inl (upd_ne z)⟩, fun q z => h.bO q (by rw [List.flatten_cons]; exact List.mem_append_right _ z)⟩
      · rw [upd_ne (nin q z)]
        exact h.fz q (by rw [List.flatten_cons]; exact List.mem_append_right _ z)
      · by_cases e : q = p
        · subst e; rw [upd_same] at z; cases z; exact e2
        · rw [upd_ne e] at z; exact h.ex q o z
      · by_cases e : q = p
        · subst e
          rcases h.bO q (by rw [List.flatten_cons]; exact List.mem_append_left _ (List.mem_singleton.mpr rfl)) with y | y
          · exact .inr (.inr y)
          · exact .inr (.inl y)
        · rw [upd_ne e] at z; exact h.bG q o z
theorem EO.frz {ds : List PyData} (h : EO te Γ (oL K) ds) : EP te Γ (Da K (.list ds)) := fun B σ F H I Q q => h B σ F H I Q fun Γ' s v F' H' ⟨a, p, b⟩ c e => by
  subst a b
  obtain ⟨F2, e1, e2, c2⟩ := c.freeze
  exact q _ _ v F2 H' ⟨rfl, rfl⟩ c2 (e.trans e2)

/-! ### names, constants -/
theorem ep_var {α : Type} {r : Rp α} {a : α} (h : Γ[i]? = some (.val r a)) : EP (tVar i) Γ (.val r a) := fun B σ F H I Q q => by
  obtain ⟨v, e, hr⟩ := I.at_ h
  exact ⟨v, e, q _ _ v F H ⟨rfl, rfl⟩ (I.push hr) (Ex.refl F)⟩
theorem ep_val {α : Type} {r : Rp α} {a : α} (h : ∀ F, r.R F v a) : EP (tC v) Γ (.val r a) := fun B σ F H I Q q => q _ _ v F H ⟨rfl, rfl⟩ (I.push (h F)) (Ex.refl F)
theorem ep_int {n : Int} : EP (tC (.int n)) Γ (Da K (.int n)) := ep_val fun F => Dq.int n
theorem ep_bl {n : Bool} : EP (tC (.bl n)) Γ (Da K (.bool n)) := ep_val fun F => Dq.bl n
theorem ep_str {n : Str} : EP (tC (.str n)) Γ (Da K (.str n)) := ep_val fun F => Dq.str n
theorem ep_non : EP (tC .non) Γ (Da K .none) := ep_val fun F => Dq.non

/-! ### operators -/
/-- by values: from x and y comes z -/
def RD (K : PySem.W.Frag) (r : R2) (x y z : PyData) : Prop := ∀ (B : Bs) (Γ : List Sl) (σ : St) (F H : Hp) (v w : V), Ok B Γ σ F H → Dq K F v x → Dq K F w y → ∀ Q : VK, (∀ u F' H', Ok B (Da K z :: Γ) (some u :: σ) F' H' → Ex F F' → Q u H') → r v w H Q
def UD (K : PySem.W.Frag) (r : V → Hp → VK → Prop) (x z : PyData) : Prop := ∀ (B : Bs) (Γ : List Sl) (σ : St) (F H : Hp) (v : V), Ok B Γ σ F H → Dq K F v x → ∀ Q : VK, (∀ u F' H', Ok B (Da K z :: Γ) (some u :: σ) F' H' → Ex F F' → Q u H') → r v H Q
def CD (K : PySem.W.Frag) (r : List V → Hp → VK → Prop) (xs : List PyData) (z : PyData) : Prop := ∀ (B : Bs) (Γ : List Sl) (σ : St) (F H : Hp) (vs : List V), Ok B Γ σ F H → DqAll K F vs xs → ∀ Q : VK, (∀ u F' H', Ok B (Da K z :: Γ) (some u :: σ) F' H' → Ex F F' → Q u H') → r vs H Q
/-- .. a new list -/
def CO (K : PySem.W.Frag) (r : List V → Hp → VK → Prop) (xs : List PyData) (ds : List PyData) : Prop := ∀ (B : Bs) (Γ : List Sl) (σ : St) (F H : Hp) (vs : List V), Ok B Γ σ F H → DqAll K F vs xs → ∀ Q : VK, (∀ p H', Ok B (.own p (oL K) ds :: Γ) (some (.ref p) :: σ) F H' → Q (.ref p) H') → r vs H Q
def RO (K : PySem.W.Frag) (r : R2) (x y : PyData) (ds : List PyData) : Prop := ∀ (B : Bs) (Γ : List Sl) (σ : St) (F H : Hp) (v w : V), Ok B Γ σ F H → Dq K F v x → Dq K F w y → ∀ Q : VK, (∀ p H', Ok B (.own p (oL K) ds :: Γ) (some (.ref p) :: σ) F H' → Q (.ref p) H') → r v w H Q
theorem ep_op {r : R2} (ha : EP ta Γ (Da K x)) (hb : EP tb Γ (Da K y)) (hr : RD K r x y z) : EP (tOp r ta tb) Γ (Da K z) := fun B σ F H I Q q =>
  ha B σ F H I _ fun Γ1 s1 v F1 H1 ⟨a, b⟩ I1 e1 => by
    subst a b
    refine E.under hb (τ := [some v]) (Δ := [Da K x]) rfl I1 fun Γ2 s2 w F2 H2 ⟨a, b⟩ I2 e2 => ?_
    subst a b
    obtain ⟨v', h1, hv⟩ := Ok.head I2
    cases h1
    obtain ⟨w', h2, hw⟩ := Ok.head (Ok.pop I2)
    cases h2
    exact hr B _ _ F2 H2 v w (Ok.pop (Ok.pop I2)) hv hw Q fun u F3 H3 I3 e3 => q _ _ u F3 H3 ⟨rfl, rfl⟩ I3 ((e1.trans e2).trans e3)
theorem eo_op {r : R2} {ds : List PyData} (ha : EP ta Γ (Da K x)) (hb : EP tb Γ (Da K y)) (hr : RO K r x y ds) : EO (tOp r ta tb) Γ (oL K) ds := fun B σ F H I Q q =>
  ha B σ F H I _ fun Γ1 s1 v F1 H1 ⟨a, b⟩ I1 e1 => by
    subst a b
    refine E.under hb (τ := [some v]) (Δ := [Da K x]) rfl I1 fun Γ2 s2 w F2 H2 ⟨a, b⟩ I2 e2 => ?_
    subst a b
    obtain ⟨v', h1, hv⟩ := Ok.head I2
    cases h1
    obtain ⟨w', h2, hw⟩ := Ok.head (Ok.pop I2)
    cases h2
    exact hr B _ _ F2 H2 v w (Ok.pop (Ok.pop I2)) hv hw Q fun p H3 I3 => q _ _ _ F2 H3 ⟨rfl, p, rfl⟩ I3 (e1.trans e2)
theorem ep_un {r : V → Hp → VK → Prop} (ha : EP ta Γ (Da K x)) (hr : UD K r x z) : EP (tUn r ta) Γ (Da K z) := fun B σ F H I Q q =>
  ha B σ F H I _ fun Γ1 s1 v F1 H1 ⟨a, b⟩ I1 e1 => by
    subst a b
    obtain ⟨v', h1, hv⟩ := Ok.head I1
    cases h1
    exact hr B _ _ F1 H1 v (Ok.pop I1) hv Q fun u F3 H3 I3 e3 => q _ _ u F3 H3 ⟨rfl, rfl⟩ I3 (e1.trans e3)

/-! ### arguments -/
theorem ap_nil : AP tNil Γ [] := fun B σ F H I Q q => q _ _ [] F H ⟨rfl, rfl⟩ rfl I (Ex.refl F)
theorem ap_cons {tr : TA} {ss : List Sl} (ha : EP ta Γ s) (hr : AP tr Γ ss) : AP (tCons ta tr) Γ (s :: ss) := fun B σ F H I Q q =>
  ha B σ F H I _ fun Γ1 s1 v F1 H1 ⟨a, b⟩ I1 e1 => by
    subst a b
    refine A.under hr (τ := [some v]) (Δ := [s1]) rfl I1 fun Γ2 s2 w F2 H2 ⟨a, b⟩ n I2 e2 => ?_
    subst a b
    exact q _ (s1 :: s2) (v :: w) F2 H2 ⟨rfl, rfl⟩ (by simp [n]) I2 (e1.trans e2)
/-- data all -/
theorem Ok.all : ∀ {xs : List PyData} {vs : List V}, xs.length = vs.length → Ok B (xs.map (Da K) ++ Γ) (vs.map some ++ σ) F H → DqAll K F vs xs ∧ Ok B Γ σ F H
  | [], [], _, h => ⟨.nil, h⟩
  | [], _ :: _, n, _ => by simp at n
  | _ :: _, [], n, _ => by simp at n
  | x :: xs, v :: vs, n, h => by
    obtain ⟨v', e, hv⟩ := Ok.head (show Ok B (Da K x :: (xs.map (Da K) ++ Γ)) (some v :: (vs.map some ++ σ)) F H from h)
    cases e
    obtain ⟨a, b⟩ := Ok.all (xs := xs) (vs := vs) (by simpa using n) (Ok.pop h)
    exact ⟨.cons hv a, b⟩
theorem ep_cb {r : List V → Hp → VK → Prop} {t : TA} {xs : List PyData} (ha : AP t Γ (xs.map (Da K))) (hr : CD K r xs z) : EP (tCB r t) Γ (Da K z) := fun B σ F H I Q q =>
  ha B σ F H I _ fun Γ1 ss vs F1 H1 ⟨a, b⟩ n I1 e1 => by
    subst a b
    obtain ⟨h1, h2⟩ := Ok.all (by simpa using n) I1
    exact hr B _ _ F1 H1 vs h2 h1 Q fun u F3 H3 I3 e3 => q _ _ u F3 H3 ⟨rfl, rfl⟩ I3 (e1.trans e3)
theorem eo_cb {r : List V → Hp → VK → Prop} {t : TA} {xs ds : List PyData} (ha : AP t Γ (xs.map (Da K))) (hr : CO K r xs ds) : EO (tCB r t) Γ (oL K) ds := fun B σ F H I Q q =>
  ha B σ F H I _ fun Γ1 ss vs F1 H1 ⟨a, b⟩ n I1 e1 => by
    subst a b
    obtain ⟨h1, h2⟩ := Ok.all (by simpa using n) I1
    exact hr B _ _ F1 H1 vs h2 h1 Q fun p H3 I3 => q _ _ _ F1 H3 ⟨rfl, p, rfl⟩ I3 e1
/-- a written tuple, a written list -/
theorem ep_tup {t : TA} {xs : List PyData} (ha : AP t Γ (xs.map (Da K))) (hz : xs.length ≤ wee) : EP (tTup t) Γ (Da K (.tuple xs)) := fun B σ F H I Q q =>
  ha B σ F H I _ fun Γ1 ss vs F1 H1 ⟨a, b⟩ n I1 e1 => by
    subst a b
    obtain ⟨h1, h2⟩ := Ok.all (by simpa using n) I1
    refine ⟨Nat.le_trans (by rw [h1.len]; exact hz) (by decide), fun p hp => ?_⟩
    have eF : Ex F1 (upd F1 p (.tup vs)) := Ex.new (h2.nF hp)
    exact q _ _ _ (upd F1 p (.tup vs)) _ ⟨rfl, rfl⟩ ((h2.alloc hp).push (Dq.tup (.inl (.inl upd_same)) hz (DqAll.mono eF _ _ h1))) (e1.trans eF)
theorem eo_lst {t : TA} {xs : List PyData} (ha : AP t Γ (xs.map (Da K))) (hz : xs.length ≤ wee) : EO (tLst t) Γ (oL K) xs := fun B σ F H I Q q =>
  ha B σ F H I _ fun Γ1 ss vs F1 H1 ⟨a, b⟩ n I1 e1 => by
    subst a b
    obtain ⟨h1, h2⟩ := Ok.all (by simpa using n) I1
    exact ⟨Nat.le_trans (by rw [h1.len]; exact hz) (by decide), fun p hp => q _ _ _ F1 _ ⟨rfl, p, rfl⟩ (h2.pushL hp hz h1) e1⟩

/-! ### tests -/
theorem tp_test {b : Bool} (h : EP te Γ (Da K (.bool b))) : TP (tTest te) Γ b := fun B σ F H I Q q => h B σ F H I _ fun Γ1 s1 v F1 H1 ⟨a, c⟩ I1 e1 => by
  subst a c
  obtain ⟨v', e, hv⟩ := Ok.head I1
  cases e
  cases hv
  exact ⟨b, rfl, q _ _ F1 H1 ⟨rfl, rfl⟩ (Ok.pop I1) e1⟩
theorem tp_B {b : Bool} (h : EP te Γ (Da K (.bool b))) : TP (tB te) Γ b := fun B σ F H I Q q => h B σ F H I _ fun Γ1 s1 v F1 H1 ⟨a, c⟩ I1 e1 => by
  subst a c
  obtain ⟨v', e, hv⟩ := Ok.head I1
  cases e
  cases hv
  exact ⟨b, rfl, q _ _ F1 H1 ⟨rfl, rfl⟩ (Ok.pop I1) e1⟩
theorem tp_yes : TP tYes Γ true := fun B σ F H I Q q => q _ _ F H ⟨rfl, rfl⟩ I (Ex.refl F)
theorem tp_not {b : Bool} (h : TP tt Γ b) : TP (tNot tt) Γ (!b) := fun B σ F H I Q q => h B σ F H I _ fun Γ1 b1 F1 H1 ⟨a, c⟩ I1 e1 => by
  subst a c
  exact q _ _ F1 H1 ⟨rfl, rfl⟩ I1 e1
theorem tp_and {a b : Bool} (h1 : TP tt Γ a) (h2 : a = true → TP tu Γ b) : TP (tAnd tt tu) Γ (a && b) := fun B σ F H I Q q => h1 B σ F H I _ fun Γ1 b1 F1 H1 ⟨u, w⟩ I1 e1 => by
  subst u w
  cases b1 with
  | true =>
    show tu σ H1 Q
    exact h2 rfl B σ F1 H1 I1 Q fun Γ2 b2 F2 H2 ⟨u, w⟩ I2 e2 => by subst u w; exact q _ _ F2 H2 ⟨rfl, rfl⟩ I2 (e1.trans e2)
  | false =>
    show Q false H1
    exact q _ _ F1 H1 ⟨rfl, rfl⟩ I1 e1
theorem tp_or {a b : Bool} (h1 : TP tt Γ a) (h2 : a = false → TP tu Γ b) : TP (tOr tt tu) Γ (a || b) := fun B σ F H I Q q => h1 B σ F H I _ fun Γ1 b1 F1 H1 ⟨u, w⟩ I1 e1 => by
  subst u w
  cases b1 with
  | true =>
    show Q true H1
    exact q _ _ F1 H1 ⟨rfl, rfl⟩ I1 e1
  | false =>
    show tu σ H1 Q
    exact h2 rfl B σ F1 H1 I1 Q fun Γ2 b2 F2 H2 ⟨u, w⟩ I2 e2 => by subst u w; exact q _ _ F2 H2 ⟨rfl, rfl⟩ I2 (e1.trans e2)
theorem ep_andV {a b : Bool} (h1 : EP ta Γ (Da K (.bool a))) (h2 : a = true → EP tb Γ (Da K (.bool b))) : EP (tAndV ta tb) Γ (Da K (.bool (a && b))) := fun B σ F H I Q q => h1 B σ F H I _ fun Γ1 s1 v F1 H1 ⟨u, w⟩ I1 e1 => by
  subst u w
  obtain ⟨v', e, hv⟩ := Ok.head I1
  cases e
  cases hv
  refine ⟨a, rfl, ?_⟩
  cases a with
  | true =>
    show tb σ H1 Q
    exact h2 rfl B σ F1 H1 (Ok.pop I1) Q fun Γ2 b2 w F2 H2 ⟨u, x⟩ I2 e2 => by subst u x; exact q _ _ w F2 H2 ⟨rfl, rfl⟩ I2 (e1.trans e2)
  | false =>
    show Q (.bl false) H1
    exact q _ _ _ F1 H1 ⟨rfl, rfl⟩ I1 e1
theorem ep_orV {a b : Bool} (h1 : EP ta Γ (Da K (.bool a))) (h2 : a = false → EP tb Γ (Da K (.bool b))) : EP (tOrV ta tb) Γ (Da K (.bool (a || b))) := fun B σ F H I Q q => h1 B σ F H I _ fun Γ1 s1 v F1 H1 ⟨u, w⟩ I1 e1 => by
  subst u w
  obtain ⟨v', e, hv⟩ := Ok.head I1
  cases e
  cases hv
  refine ⟨a, rfl, ?_⟩
  cases a with
  | true =>
    show Q (.bl true) H1
    exact q _ _ _ F1 H1 ⟨rfl, rfl⟩ I1 e1
  | false =>
    show tb σ H1 Q
    exact h2 rfl B σ F1 H1 (Ok.pop I1) Q fun Γ2 b2 w F2 H2 ⟨u, x⟩ I2 e2 => by subst u x; exact q _ _ w F2 H2 ⟨rfl, rfl⟩ I2 (e1.trans e2)
theorem ep_notV {a : Bool} (h1 : EP ta Γ (Da K (.bool a))) : EP (tNotV ta) Γ (Da K (.bool (!a))) := fun B σ F H I Q q => h1 B σ F H I _ fun Γ1 s1 v F1 H1 ⟨u, w⟩ I1 e1 => by
  subst u w
  obtain ⟨v', e, hv⟩ := Ok.head I1
  cases e
  cases hv
  exact ⟨a, rfl, q _ _ _ F1 H1 ⟨rfl, rfl⟩ ((Ok.pop I1).push (Dq.bl _)) e1⟩
/-- a if t else b -/
theorem ep_if {b : Bool} (hc : TP tt Γ b) (h1 : b = true → EP ta Γ s) (h2 : b = false → EP tb Γ s) : EP (tIf tt ta tb) Γ s := fun B σ F H I Q q => hc B σ F H I _ fun Γ1 b1 F1 H1 ⟨u, w⟩ I1 e1 => by
  subst u w
  cases b1 with
  | true =>
    show ta σ H1 Q
    exact h1 rfl B σ F1 H1 I1 Q fun Γ2 s2 w F2 H2 ⟨u, x⟩ I2 e2 => by subst u x; exact q _ _ w F2 H2 ⟨rfl, rfl⟩ I2 (e1.trans e2)
  | false =>
    show tb σ H1 Q
    exact h2 rfl B σ F1 H1 I1 Q fun Γ2 s2 w F2 H2 ⟨u, x⟩ I2 e2 => by subst u x; exact q _ _ w F2 H2 ⟨rfl, rfl⟩ I2 (e1.trans e2)
theorem ep_ite {b : Bool} (hc : TP tt Γ b) (h1 : b = true → EP ta Γ (Da K x)) (h2 : b = false → EP tb Γ (Da K y)) : EP (tIf tt ta tb) Γ (Da K (if b = true then x else y)) := by
  cases b with
  | true => exact ep_if hc (fun _ => h1 rfl) fun z => nomatch z
  | false => exact ep_if hc (fun z => nomatch z) fun _ => h2 rfl
/-- a op b op c -/
theorem ep_chain {r r' : R2} {a b : Bool} (ha : EP ta Γ (Da K x)) (hb : EP tb Γ (Da K y)) (hr : RD K r x y (.bool a)) (hc : a = true → EP tc Γ (Da K z)) (hr' : RD K r' y z (.bool b)) : EP (tChain r r' ta tb tc) Γ (Da K (.bool (a && b))) := fun B σ F H I Q q =>
  ha B σ F H I _ fun Γ1 s1 v F1 H1 ⟨u, w⟩ I1 e1 => by
    subst u w
    refine E.under hb (τ := [some v]) (Δ := [Da K x]) rfl I1 fun Γ2 s2 w F2 H2 ⟨a, b⟩ I2 e2 => ?_
    subst a b
    obtain ⟨v', h1, hv⟩ := Ok.head I2
    cases h1
    obtain ⟨w', h2, hw⟩ := Ok.head (Ok.pop I2)
    cases h2
    refine hr B _ _ F2 H2 v w (Ok.pop I2) hv hw _ fun u F3 H3 I3 e3 => ?_
    obtain ⟨u', h3, hu⟩ := Ok.head I3
    cases h3
    cases hu
    refine ⟨a, rfl, ?_⟩
    cases a with
    | true =>
      show tc σ H3 fun w' H4 => r' w w' H4 Q
      refine E.under (hc rfl) (τ := [some w]) (Δ := [Da K y]) rfl (Ok.pop I3) fun Γ4 s4 w4 F4 H4 ⟨a, b⟩ I4 e4 => ?_
      subst a b
      obtain ⟨v5, h5, hv5⟩ := Ok.head I4
      cases h5
      obtain ⟨w6, h6, hw6⟩ := Ok.head (Ok.pop I4)
      cases h6
      exact hr' B _ _ F4 H4 w w4 (Ok.pop (Ok.pop I4)) hv5 hw6 Q fun u F5 H5 I5 e5 => q _ _ u F5 H5 ⟨rfl, rfl⟩ I5 ((((e1.trans e2).trans e3).trans e4).trans e5)
    | false =>
      show Q (.bl false) H3
      exact q _ _ _ F3 H3 ⟨rfl, rfl⟩ ((Ok.pop (Ok.pop I3)).push (Dq.bl false)) ((e1.trans e2).trans e3)

/-! ### the operators' rules -/
theorem rd_v {r : R2} (h : ∀ F H v w, Ex F H → Dq K F v x → Dq K F w y → ∃ u, Dq K F u z ∧ ∀ Q : VK, Q u H → r v w H Q) : RD K r x y z := fun B Γ σ F H v w I hv hw Q q => by
  obtain ⟨u, h1, h2⟩ := h F H v w I.ex hv hw
  exact h2 Q (q u F H (I.push h1) (Ex.refl F))
theorem rd_I0 {g : Int → Int → V} {a b c : Int} (h : g a b = .int c) : RD K (rI0 g) (.int a) (.int b) (.int c) := rd_v fun F H v w _ hv hw => by
  cases hv; cases hw
  exact ⟨.int c, Dq.int c, fun Q q => ⟨a, b, rfl, rfl, by rw [h]; exact q⟩⟩
theorem rd_I0b {g : Int → Int → V} {a b : Int} {c : Bool} (h : g a b = .bl c) : RD K (rI0 g) (.int a) (.int b) (.bool c) := rd_v fun F H v w _ hv hw => by
  cases hv; cases hw
  exact ⟨.bl c, Dq.bl c, fun Q q => ⟨a, b, rfl, rfl, by rw [h]; exact q⟩⟩
theorem rd_I {C : Int → Int → Prop} {g : Int → Int → V} {a b c : Int} (hc : C a b) (h : g a b = .int c) : RD K (rI C g) (.int a) (.int b) (.int c) := rd_v fun F H v w _ hv hw => by
  cases hv; cases hw
  exact ⟨.int c, Dq.int c, fun Q q => ⟨a, b, rfl, rfl, hc, by rw [h]; exact q⟩⟩
theorem ud_I {g : Int → V} {a c : Int} (h : g a = .int c) : UD K (rU g) (.int a) (.int c) := fun B Γ σ F H v I hv Q q => by
  cases hv
  exact ⟨a, rfl, by rw [h]; exact q _ F H (I.push (Dq.int c)) (Ex.refl F)⟩
/-- == of ints -/
theorem rd_eqI {a b : Int} : RD K rEq (.int a) (.int b) (.bool (decide (a = b))) := rd_v fun F H v w _ hv hw => by
  cases hv; cases hw
  refine ⟨.bl (decide (a = b)), Dq.bl _, fun Q q => ⟨rfl, ?_⟩⟩
  have e : decide (V.int a = V.int b) = decide (a = b) := by simp
  rw [e]; exact q
theorem rd_neI {a b : Int} : RD K rNe (.int a) (.int b) (.bool (!decide (a = b))) := rd_v fun F H v w _ hv hw => by
  cases hv; cases hw
  refine ⟨.bl (!decide (a = b)), Dq.bl _, fun Q q => ⟨rfl, ?_⟩⟩
  have e : decide (V.int a = V.int b) = decide (a = b) := by simp
  rw [e]; exact q
/-- == of data -/
theorem rd_eqD (hx : SeqAt.shaped x = true) (hy : SeqAt.shaped y = true) : RD K (rEqD K) x y (.bool (PyData.eqv x y)) := fun B Γ σ F H v w I hv hw Q q =>
  ⟨x, y, Dq.dp _ _ (Dq.mono I.ex _ _ hv), Dq.dp _ _ (Dq.mono I.ex _ _ hw), hx, hy, q _ F H (I.push (Dq.bl _)) (Ex.refl F)⟩
theorem rd_neD (hx : SeqAt.shaped x = true) (hy : SeqAt.shaped y = true) : RD K (rNeD K) x y (.bool (!PyData.eqv x y)) := fun B Γ σ F H v w I hv hw Q q =>
  ⟨x, y, Dq.dp _ _ (Dq.mono I.ex _ _ hv), Dq.dp _ _ (Dq.mono I.ex _ _ hw), hx, hy, q _ F H (I.push (Dq.bl _)) (Ex.refl F)⟩
/-- a place in a tuple, a list -/
theorem rd_ixT {ds : List PyData} {i : Int} (h : atI ds i = some z) : RD K (rIxT K) (.tuple ds) (.int i) z := fun B Γ σ F H v w I hv hw Q q => by
  cases hw
  cases hv with
  | tup a b c =>
    have e := c.len
    unfold atI at h
    obtain ⟨j, hj, hz⟩ := Option.bind_eq_some_iff.mp h
    obtain ⟨u, h1, h2⟩ := c.get hz
    exact ⟨_, _, i, u, rfl, rfl, ex_t I.ex a, by unfold atI; rw [e, hj]; exact h1, q u F H (I.push h2) (Ex.refl F)⟩
theorem rd_ixL {ds : List PyData} {i : Int} (h : atI ds i = some z) : RD K (rIxL K) (.list ds) (.int i) z := fun B Γ σ F H v w I hv hw Q q => by
  cases hw
  cases hv with
  | lst a b c =>
    have e := c.len
    unfold atI at h
    obtain ⟨j, hj, hz⟩ := Option.bind_eq_some_iff.mp h
    obtain ⟨u, h1, h2⟩ := c.get hz
    exact ⟨_, _, i, u, rfl, rfl, ex_l I.ex a, by unfold atI; rw [e, hj]; exact h1, q u F H (I.push h2) (Ex.refl F)⟩
end
end TL
/-! TL3: what is walked, comprehensions, statements, loops. -/
namespace TL
open PySem L2
open Evl (Ex ex_l ex_t)

/-! ### slots forgotten for a while -/
def wipeL (Γ : List Sl) : List Nat → List Sl
  | [] => Γ
  | v :: vs => (wipeL Γ vs).set v .no
section
variable {K : PySem.W.Frag} {B : Bs} {Γ Δ Γ' Γ2 : List Sl} {σ σ2 τ : St} {F F' H H' : Hp} {s : Sl} {v : V} {i j : Nat} {vs : List Nat}
theorem Ok.wipe : ∀ {vs : List Nat}, Ok B Γ σ F H → Ok B (wipeL Γ vs) (L2.wipe σ vs) F H
  | [], h => h
  | v :: vs, h => (Ok.wipe (vs := vs) h).forget
/-- a slot set to something without cells -/
theorem Ok.setv {x : Option V} (h : Ok B Γ σ F H) (u : SlOk F H x s []) : Ok B (Γ.set i s) (σ.set i x) F H := by
  obtain ⟨L, h⟩ := h
  have mm : ∀ q ∈ (L.set i []).flatten, q ∈ L.flatten := fun q z => (mem_set z).elim id fun z => nomatch z
  exact ⟨L.set i [], h.sl.set u, nodup_drop h.nd, fun q z => h.fz q (mm q z), h.ex, h.bF, h.bG, h.bK, h.bD, fun q z => h.bO q (mm q z)⟩
theorem set_back {α : Type _} {l : List α} {i : Nat} {a b : α} (e : l[i]? = some a) : (l.set i b).set i a = l := by
  rw [List.set_set]
  apply List.ext_getElem?
  intro j
  by_cases h : i = j
  · subst h
    rw [List.getElem?_set_self (List.getElem?_eq_some_iff.mp e).1, e]
  · rw [List.getElem?_set_ne h]
theorem set_out {α : Type _} {l : List α} {i : Nat} {b : α} (e : l[i]? = none) : l.set i b = l := by
  have h : l.length ≤ i := by simpa using e
  exact List.set_eq_of_length_le h
theorem Ok.lens (h : Ok B Γ σ F H) : σ.length = Γ.length := by obtain ⟨L, h⟩ := h; exact h.sl.len.1
theorem wipeL_len (Γ : List Sl) : ∀ vs, (wipeL Γ vs).length = Γ.length
  | [] => rfl
  | v :: vs => by unfold wipeL; rw [List.length_set, wipeL_len Γ vs]
/-- a slot of wiped lists is what it was, or nothing -/
theorem wipe_at : ∀ {vs : List Nat} {i : Nat}, σ.length = Γ.length → i < Γ.length → (((wipeL Γ vs)[i]? = Γ[i]? ∧ (L2.wipe σ vs)[i]? = σ[i]?) ∨ ((wipeL Γ vs)[i]? = some .no ∧ ∃ x, (L2.wipe σ vs)[i]? = some x))
  | [], i, _, _ => .inl ⟨rfl, rfl⟩
  | v :: vs, i, hl, hi => by
    unfold wipeL L2.wipe
    by_cases h : v = i
    · subst h
      right
      have h1 : v < (wipeL Γ vs).length := by rw [wipeL_len]; exact hi
      have h2 : v < (L2.wipe σ vs).length := by rw [L2.wipe_length]; omega
      exact ⟨by rw [List.getElem?_set_self h1], ⟨none, by rw [List.getElem?_set_self h2]⟩⟩
    · rw [List.getElem?_set_ne h, List.getElem?_set_ne h]
      exact wipe_at (vs := vs) hl hi
theorem Ok.unwipe : ∀ {vs : List Nat}, Ok B (wipeL Γ' vs) (L2.wipe σ vs) F H → σ.length = Γ'.length → (∀ j ∈ vs, ∀ s, Γ'[j]? = some s → ∃ x, σ[j]? = some x ∧ SlOk F H x s []) → Ok B Γ' σ F H
  | [], h, _, _ => h
  | v :: vs, h, hl, w => by
    refine Ok.unwipe (vs := vs) ?_ hl fun j hj => w j (List.mem_cons_of_mem _ hj)
    unfold wipeL L2.wipe at h
    by_cases hv : v < Γ'.length
    · rcases wipe_at (vs := vs) hl hv with ⟨e1, e2⟩ | ⟨e1, x, e2⟩
      · obtain ⟨x, ex, so⟩ := w v List.mem_cons_self Γ'[v] (by rw [List.getElem?_eq_getElem hv])
        have h2 := h.setv (i := v) so
        rwa [set_back (by rw [e1, List.getElem?_eq_getElem hv]), set_back (by rw [e2, ex])] at h2
      · have h2 := h.setv (i := v) (SlOk.no (x := x))
        rwa [set_back e1, set_back e2] at h2
    · rw [set_out (by rw [List.getElem?_eq_none_iff, wipeL_len]; omega), set_out (by rw [List.getElem?_eq_none_iff, L2.wipe_length]; omega)] at h
      exact h
/-- slots without cells of their own -/
def NoOwn (Γ : List Sl) (vs : List Nat) : Prop := ∀ j ∈ vs, ∀ (α : Type) (p : Addr) (o : Ow α) (a : α), Γ[j]? ≠ some (.own p o a)
theorem Ok.plain (h : Ok B Γ σ F H) (n : NoOwn Γ vs) (e : Ex F F') : ∀ j ∈ vs, ∀ s, Γ[j]? = some s → ∃ x, σ[j]? = some x ∧ SlOk F' H' x s [] := fun j hj s es => by
  obtain ⟨L, h⟩ := h
  obtain ⟨x, fp, e1, e2, u⟩ := h.sl.get es
  refine ⟨x, e1, ?_⟩
  cases u with
  | no => exact .no
  | @val v α r a hr => exact .val (r.mono e hr)
  | own ho => exact absurd es (n j hj _ _ _ _)
/-- behind a run in wiped slots -/
theorem Ok.back (h : Ok B Γ2 σ2 F' H') (es : L2.wipe σ2 vs = L2.wipe σ vs) (eg : wipeL Γ2 vs = wipeL Γ' vs) (hl : σ.length = Γ'.length) (w : ∀ j ∈ vs, ∀ s, Γ'[j]? = some s → ∃ x, σ[j]? = some x ∧ SlOk F' H' x s []) : Ok B Γ' σ F' H' := by
  have h2 := Ok.wipe (vs := vs) h
  rw [es, eg] at h2
  exact h2.unwipe hl w
end

/-! ### what is walked -/
/-- the turns of J yield ds -/
def Turns (K : PySem.W.Frag) (J : It) (F1 : Hp) (ds : List PyData) : Prop := ∀ (i : Nat) (F2 H2 : Hp), Ex F1 F2 → Ex F2 H2 →
  (∀ d, ds[i]? = some d → J.go i H2 ∧ ∀ x H3, J.yld i H2 x H3 → ∃ F3, (∀ B Γ σ, Ok B Γ σ F2 H2 → Ok B Γ σ F3 H3) ∧ Ex F2 F3 ∧ Dq K F3 x d) ∧ (ds.length ≤ i → J.stop i H2)
def IP (K : PySem.W.Frag) (wi : TI) (Γ : List Sl) (ds : List PyData) : Prop := ∀ (B : Bs) (σ : St) (F H : Hp), Ok B Γ σ F H → ∀ R : It → Hp → Prop, (∀ J F1 H1, Ok B Γ σ F1 H1 → Ex F F1 → Turns K J F1 ds → ds.length ≤ wee → R J H1) → wi σ H R
/-- a target takes d -/
def GP (K : PySem.W.Frag) (g : TG) (d : PyData) (vs : List Nat) (Γ Γ' : List Sl) : Prop := ∀ (B : Bs) (σ : St) (F H : Hp) (v : V), Ok B Γ σ F H → Dq K F v d → ∀ Q : St → Hp → Prop, (∀ σ', L2.wipe σ' vs = L2.wipe σ vs → Ok B Γ' σ' F H → Q σ' H) → g v σ H Q
def rng (a b : Int) : List Int := (List.range (b - a).toNat).map fun i => a + (i : Nat)
section
variable {K : PySem.W.Frag} {B : Bs} {Γ Δ Γ' : List Sl} {σ τ : St} {F F' H H' : Hp} {s : Sl} {v : V} {te ta tb tc tl : TE} {d e x y z : PyData} {i j : Nat} {vs : List Nat} {ds : List PyData}
theorem ip_list (h : EP tl Γ (Da K (.list ds))) : IP K (iList K tl) Γ ds := fun B σ F H I R q => h B σ F H I _ fun Γ1 s1 v F1 H1 ⟨a, b⟩ I1 e1 => by
  subst a b
  obtain ⟨v', e, hv⟩ := Ok.head I1
  cases e
  cases hv with
  | @lst a xs _ hs hz ha =>
    refine ⟨a, rfl, ⟨xs, ex_l I1.ex hs⟩, q _ F1 H1 (Ok.pop I1) e1 (fun i F2 H2 e2 e3 => ⟨fun d hd => ?_, fun hn => ?_⟩) ?_⟩
    · obtain ⟨u, hu, du⟩ := ha.get hd
      refine ⟨⟨xs, u, ex_l (e2.trans e3) hs, hu⟩, fun x H3 hy => ?_⟩
      obtain ⟨eH, hx⟩ := hy
      subst eH
      have ex := hx xs (ex_l (e2.trans e3) hs)
      rw [hu] at ex
      cases ex
      exact ⟨F2, fun _ _ _ z => z, Ex.refl _, Dq.mono e2 _ _ du⟩
    · exact ⟨xs, ex_l (e2.trans e3) hs, by rw [ha.len]; exact hn⟩
    · exact hz
theorem ip_tup (h : EP tl Γ (Da K (.tuple ds))) : IP K (iTup K tl) Γ ds := fun B σ F H I R q => h B σ F H I _ fun Γ1 s1 v F1 H1 ⟨a, b⟩ I1 e1 => by
  subst a b
  obtain ⟨v', e, hv⟩ := Ok.head I1
  cases e
  cases hv with
  | @tup a xs _ hs hz ha =>
    refine ⟨a, rfl, ⟨xs, ex_t I1.ex hs⟩, q _ F1 H1 (Ok.pop I1) e1 (fun i F2 H2 e2 e3 => ⟨fun d hd => ?_, fun hn => ?_⟩) ?_⟩
    · obtain ⟨u, hu, du⟩ := ha.get hd
      refine ⟨⟨xs, u, ex_t (e2.trans e3) hs, hu⟩, fun x H3 hy => ?_⟩
      obtain ⟨eH, hx⟩ := hy
      subst eH
      have ex := hx xs (ex_t (e2.trans e3) hs)
      rw [hu] at ex
      cases ex
      exact ⟨F2, fun _ _ _ z => z, Ex.refl _, Dq.mono e2 _ _ du⟩
    · exact ⟨xs, ex_t (e2.trans e3) hs, by rw [ha.len]; exact hn⟩
    · exact hz
theorem rng_len {a b : Int} : (rng a b).length = (b - a).toNat := by simp [rng]
theorem turns_rng {lo hi : Int} {F1 : Hp} : Turns K (Itr lo (hi - lo).toNat) F1 ((rng lo hi).map PyData.int) := fun i F2 H2 e2 e3 => by
  have hl : ((rng lo hi).map PyData.int).length = (hi - lo).toNat := by simp [rng]
  refine ⟨fun d hd => ?_, fun hn => by rw [hl] at hn; exact hn⟩
  have hi' : i < (hi - lo).toNat := by rw [← hl]; exact (List.getElem?_eq_some_iff.mp hd).1
  refine ⟨hi', fun x H3 hy => ?_⟩
  obtain ⟨eH, ex⟩ := hy
  subst eH ex
  refine ⟨F2, fun _ _ _ z => z, Ex.refl _, ?_⟩
  have ed : d = .int (lo + (i : Nat)) := by
    simp only [rng, List.map_map, List.getElem?_map, List.getElem?_range hi', Option.map_some, Function.comp] at hd
    exact (Option.some.inj hd).symm
  subst ed
  exact Dq.int _
theorem ip_rng1 {ta : TA} {n : Int} (h : AP ta Γ [Da K (.int n)]) (h1 : -(2 ^ 62) ≤ n) (h2 : n ≤ 4096) : IP K (iRng1 ta) Γ ((rng 0 n).map PyData.int) := fun B σ F H I R q => h B σ F H I _ fun Γ1 ss ws F1 H1 ⟨a, b⟩ hn I1 e1 => by
  subst a b
  obtain ⟨ha, I2⟩ := Ok.all (xs := [PyData.int n]) (by simpa using hn) I1
  cases ha with
  | cons hv hr =>
    cases hr
    cases hv
    refine ⟨n, rfl, h1, by omega, q _ F1 H1 I2 e1 ?_ (by rw [List.length_map, rng_len]; exact (by omega : (n - 0).toNat ≤ 4096))⟩
    have t := turns_rng (K := K) (lo := 0) (hi := n) (F1 := F1)
    rwa [Int.sub_zero] at t
theorem ip_rng2 {ta : TA} {m n : Int} (h : AP ta Γ [Da K (.int m), Da K (.int n)]) (h1 : -(2 ^ 62) ≤ m ∧ m < 2 ^ 62 ∧ -(2 ^ 62) ≤ n ∧ n < 2 ^ 62) (h2 : n - m ≤ 4096) : IP K (iRng2 ta) Γ ((rng m n).map PyData.int) := fun B σ F H I R q => h B σ F H I _ fun Γ1 ss ws F1 H1 ⟨a, b⟩ hn I1 e1 => by
  subst a b
  obtain ⟨ha, I2⟩ := Ok.all (xs := [PyData.int m, PyData.int n]) (by simpa using hn) I1
  cases ha with
  | cons hv hr =>
    cases hr with
    | cons hv2 hr2 =>
      cases hr2
      cases hv
      cases hv2
      exact ⟨m, n, rfl, h1, q _ F1 H1 I2 e1 turns_rng (by rw [List.length_map, rng_len]; exact (by omega : (n - m).toNat ≤ 4096))⟩
/-- pairs made at each turn -/
theorem new_pair {x y : V} {p q : PyData} {F2 H2 H3 : Hp} {A' : Addr} (e3 : Ex F2 H2) (hA : H2 A' = none) (eH : H3 = upd H2 A' (.tup [x, y])) (hx : Dq K F2 x p) (hy : Dq K F2 y q) :
    ∃ F3, (∀ B Γ σ, Ok B Γ σ F2 H2 → Ok B Γ σ F3 H3) ∧ Ex F2 F3 ∧ Dq K F3 (.ref A') (.tuple [p, q]) := by
  subst eH
  have hF : F2 A' = none := by
    cases e : F2 A' with
    | none => rfl
    | some o => rw [e3 A' o e] at hA; cases hA
  have eF : Ex F2 (upd F2 A' (.tup [x, y])) := Ex.new hF
  exact ⟨upd F2 A' (.tup [x, y]), fun B Γ σ I => I.alloc hA, eF, Dq.tup (.inl (.inl upd_same)) (by simp only [List.length_cons, List.length_nil]; exact (by decide : 2 ≤ wee)) (.cons (Dq.mono eF _ _ hx) (.cons (Dq.mono eF _ _ hy) .nil))⟩
/-- the pairs of enumerate -/
def enumP (ds : List PyData) : List PyData := (List.range ds.length).zipWith (fun i d => .tuple [.int (i : Nat), d]) ds
theorem enumP_get {i : Nat} {d : PyData} (h : (enumP ds)[i]? = some d) : ∃ e, ds[i]? = some e ∧ d = .tuple [.int (i : Nat), e] := by
  unfold enumP at h
  rw [List.getElem?_zipWith] at h
  cases e2 : ds[i]? with
  | none =>
    rw [e2] at h
    cases e1 : (List.range ds.length)[i]? <;> rw [e1] at h <;> cases h
  | some u =>
    have hi := (List.getElem?_eq_some_iff.mp e2).1
    rw [e2, List.getElem?_range hi] at h
    exact ⟨u, rfl, (Option.some.inj h).symm⟩
theorem enumP_len : (enumP ds).length = ds.length := by simp [enumP]
theorem ip_enum {ta : TA} (h : AP ta Γ [Da K (.list ds)]) : IP K (iEnum K ta) Γ (enumP ds) := fun B σ F H I R q => h B σ F H I _ fun Γ1 ss ws F1 H1 ⟨a, b⟩ hn I1 e1 => by
  subst a b
  obtain ⟨ha, I2⟩ := Ok.all (xs := [PyData.list ds]) (by simpa using hn) I1
  cases ha with
  | cons hv hr =>
    cases hr
    cases hv with
    | @lst a xs _ hs hz hc =>
      refine ⟨a, xs, rfl, ex_l I2.ex hs, q _ F1 H1 I2 e1 (fun i F2 H2 e2 e3 => ⟨fun d hd => ?_, fun hl => ?_⟩) (by rw [enumP_len]; exact hz)⟩
      · obtain ⟨e', h1, h2⟩ := enumP_get hd
        obtain ⟨u, hu, du⟩ := hc.get h1
        refine ⟨⟨xs, u, ex_l (e2.trans e3) hs, hu⟩, fun x H3 hy => ?_⟩
        obtain ⟨A', w, e4, hA, eH, hx⟩ := hy
        subst e4 h2
        have ew := hx xs (ex_l (e2.trans e3) hs)
        rw [hu] at ew
        cases ew
        exact new_pair e3 hA eH (Dq.int _) (Dq.mono e2 _ _ du)
      · exact ⟨xs, ex_l (e2.trans e3) hs, by rw [hc.len]; rw [enumP_len] at hl; exact hl⟩
def zipP (ds es : List PyData) : List PyData := ds.zipWith (fun d e => .tuple [d, e]) es
theorem zipP_get {i : Nat} {d : PyData} {es : List PyData} (h : (zipP ds es)[i]? = some d) : ∃ a b, ds[i]? = some a ∧ es[i]? = some b ∧ d = .tuple [a, b] := by
  unfold zipP at h
  rw [List.getElem?_zipWith] at h
  cases e1 : ds[i]? with
  | none => rw [e1] at h; cases h
  | some a =>
    cases e2 : es[i]? with
    | none => rw [e1, e2] at h; cases h
    | some b => rw [e1, e2] at h; exact ⟨a, b, rfl, rfl, (Option.some.inj h).symm⟩
theorem zipP_len {es : List PyData} : (zipP ds es).length = min ds.length es.length := by simp [zipP]
theorem ip_zipL {ta : TA} {es : List PyData} (h : AP ta Γ [Da K (.list ds), Da K (.list es)]) : IP K (iZip K ta) Γ (zipP ds es) := fun B σ F H I R q => h B σ F H I _ fun Γ1 ss ws F1 H1 ⟨a, b⟩ hn I1 e1 => by
  subst a b
  obtain ⟨ha, I2⟩ := Ok.all (xs := [PyData.list ds, PyData.list es]) (by simpa using hn) I1
  cases ha with
  | cons hv hr =>
    cases hr with
    | cons hv2 hr2 =>
      cases hr2
      cases hv with
      | @lst a xs _ hs hz hc =>
        cases hv2 with
        | @lst b ys _ hs2 hz2 hc2 =>
          refine ⟨a, b, xs, ys, rfl, ex_l I2.ex hs, ex_l I2.ex hs2, q _ F1 H1 I2 e1 (fun i F2 H2 e2 e3 => ⟨fun d hd => ?_, fun hl => ?_⟩) (by rw [zipP_len]; exact Nat.le_trans (Nat.min_le_left _ _) hz)⟩
          · obtain ⟨p1, p2, h1, h2, h3⟩ := zipP_get hd
            obtain ⟨u, hu, du⟩ := hc.get h1
            obtain ⟨w, hw, dw⟩ := hc2.get h2
            refine ⟨⟨xs, ys, u, w, ex_l (e2.trans e3) hs, ex_l (e2.trans e3) hs2, hu, hw⟩, fun x H3 hy => ?_⟩
            obtain ⟨A', x', y', e4, hA, eH, hx, hy'⟩ := hy
            subst e4 h3
            have ew := hx xs (ex_l (e2.trans e3) hs)
            rw [hu] at ew
            cases ew
            have ew := hy' ys (ex_l (e2.trans e3) hs2)
            rw [hw] at ew
            cases ew
            exact new_pair e3 hA eH (Dq.mono e2 _ _ du) (Dq.mono e2 _ _ dw)
          · rw [zipP_len] at hl
            exact ⟨xs, ys, ex_l (e2.trans e3) hs, ex_l (e2.trans e3) hs2, by rw [hc.len, hc2.len]; omega⟩
/-! ### targets -/
theorem wipe_set {x : Option V} (h : j ∈ vs) : L2.wipe (σ.set j x) vs = L2.wipe σ vs := by
  induction vs with
  | nil => exact nomatch h
  | cons v vs ih =>
    unfold L2.wipe
    by_cases hj : j ∈ vs
    · rw [ih hj]
    · have e : j = v := by
        rcases List.mem_cons.mp h with e | e
        · exact e
        · exact absurd e hj
      subst e
      have c : ∀ ws : List Nat, j ∉ ws → L2.wipe (σ.set j x) ws = (L2.wipe σ ws).set j x := by
        intro ws
        induction ws with
        | nil => intro _; rfl
        | cons w ws ih2 =>
          intro hn
          unfold L2.wipe
          rw [ih2 fun z => hn (List.mem_cons_of_mem _ z), List.set_comm _ _ fun e => hn (by rw [e]; exact List.mem_cons_self)]
      rw [c vs hj, List.set_set]
theorem wipe_wipe : L2.wipe (L2.wipe σ vs) vs = L2.wipe σ vs := by
  have key : ∀ us : List Nat, (∀ u ∈ us, u ∈ vs) → L2.wipe (L2.wipe σ us) vs = L2.wipe σ vs := by
    intro us
    induction us with
    | nil => intro _; rfl
    | cons u us ih =>
      intro hu
      show L2.wipe ((L2.wipe σ us).set u none) vs = _
      rw [wipe_set (hu u List.mem_cons_self)]
      exact ih fun y hy => hu y (List.mem_cons_of_mem _ hy)
  exact key vs fun _ h => h
theorem gp_name (h : j ∈ vs := by decide) : GP K (gName j) d vs Γ (Γ.set j (Da K d)) := fun B σ F H v I hv Q q => q _ (wipe_set h) (I.setv (.val hv))
theorem gp_tup2 {i j : Nat} {a b : PyData} (h : i ∈ vs := by decide) (h2 : j ∈ vs := by decide) : GP K (gTup K 2 (gCons (gName i) (gCons (gName j) gNil))) (.tuple [a, b]) vs Γ ((Γ.set i (Da K a)).set j (Da K b)) := fun B σ F H v I hv Q q => by
  cases hv with
  | @tup p xs _ hs hz hc =>
    cases hc with
    | @cons x xs _ _ h1 hc =>
      cases hc with
      | @cons y ys _ _ h2 hc =>
        cases hc
        refine ⟨p, [x, y], rfl, ex_t I.ex hs, rfl, x, [y], rfl, y, [], rfl, rfl, ?_⟩
        exact q _ (by rw [wipe_set (by assumption), wipe_set (by assumption)]) ((I.setv (.val h1)).setv (.val h2))
theorem gp_tup3 {i j k : Nat} {a b c : PyData} (h : i ∈ vs := by decide) (h2 : j ∈ vs := by decide) (h3 : k ∈ vs := by decide) : GP K (gTup K 3 (gCons (gName i) (gCons (gName j) (gCons (gName k) gNil)))) (.tuple [a, b, c]) vs Γ (((Γ.set i (Da K a)).set j (Da K b)).set k (Da K c)) := fun B σ F H v I hv Q q => by
  cases hv with
  | @tup p xs _ hs hz hc =>
    cases hc with
    | @cons x xs _ _ h1 hc =>
      cases hc with
      | @cons y ys _ _ h2 hc =>
        cases hc with
        | @cons z zs _ _ h3 hc =>
          cases hc
          refine ⟨p, [x, y, z], rfl, ex_t I.ex hs, rfl, x, [y, z], rfl, y, [z], rfl, z, [], rfl, rfl, ?_⟩
          exact q _ (by rw [wipe_set (by assumption), wipe_set (by assumption), wipe_set (by assumption)]) (((I.setv (.val h1)).setv (.val h2)).setv (.val h3))
end

/-! ### comprehensions -/
section
variable {K : PySem.W.Frag} {B : Bs} {Γ Δ Γ' : List Sl} {σ τ : St} {F F' H H' : Hp} {s : Sl} {v : V} {te : TE} {tt : TT} {wi : TI} {g : TG} {vs : List Nat} {α : Type} {xs : List α} {e : α → PyData} {f : α → Bool} {w : α → PyData}
theorem take_next {xs : List α} {i : Nat} {x : α} (h : xs[i]? = some x) : xs.take (i + 1) = xs.take i ++ [x] := by
  rw [List.take_add_one, h]; rfl
theorem Ok.appL {p : Addr} {ds : List PyData} {d : PyData} {x : Option V} (h : Ok B (.own p (oL K) ds :: Γ) (x :: σ) F H) (hv : Dq K F v d) (hz : ds.length + 1 ≤ wee) :
    ∃ acc, x = some (.ref p) ∧ H p = some (.lst acc) ∧ acc.length = ds.length ∧ Ok B (.own p (oL K) (ds ++ [d]) :: Γ) (x :: σ) F (upd H p (.lst (acc ++ [v]))) := by
  obtain ⟨L, h⟩ := h
  cases h.sl with
  | @cons x s fp σ Γ fps u w =>
    cases u with
    | own ho =>
      obtain ⟨e1, xs, e2, e3, e4⟩ := ho
      subst e1
      refine ⟨xs, rfl, e2, e4.len, [p] :: fps, ?_, h.nd, h.fz, ?_, h.bF, h.bG, ?_, ?_, h.bO⟩
      · refine .cons (.own ⟨rfl, _, upd_same, by rw [List.length_append]; exact hz, e4.append (.cons hv .nil)⟩) (w.frame (Ex.refl _) fun q z => upd_ne fun e => ?_)
        have nd := h.nd
        rw [List.flatten_cons, List.nodup_append] at nd
        exact nd.2.2 p (List.mem_singleton.mpr rfl) q z e.symm
      · intro q o z
        have ne : q ≠ p := fun e => by
          have := h.fz p (by rw [List.flatten_cons]; exact List.mem_append_left _ (List.mem_singleton.mpr rfl))
          rw [e, this] at z; cases z
        rw [upd_ne ne]; exact h.ex q o z
      · intro q o a b c
        have ne : q ≠ p := fun e => by
          subst e
          rcases h.bO q (by rw [List.flatten_cons]; exact List.mem_append_left _ (List.mem_singleton.mpr rfl)) with y | y
          · exact b y
          · rw [y] at a; cases a
        rw [upd_ne ne]; exact h.bK q o a b c
      · refine ⟨fun q o a => ?_, h.bD.2.upd e2 reg_lst⟩
        by_cases e : q = p
        · subst e; exact ⟨_, upd_same⟩
        · rw [upd_ne e]; exact h.bD.1 q o a
theorem eo_lc (hi : IP K wi Γ (xs.map e)) (hv : NoOwn Γ vs)
    (ht : ∀ x ∈ xs, ∃ Γi, GP K g (e x) vs (wipeL Γ vs) Γi ∧ wipeL Γi vs = wipeL Γ vs ∧ TP tt Γi (f x) ∧ (f x = true → EP te Γi (Da K (w x)))) : EO (tLc wi g tt te vs) Γ (oL K) ((xs.filter f).map w) := fun B σ F H I Q q => by
  refine hi B σ F H I _ fun J F1 H1 I1 e1 tn hz D hD => ?_
  rw [List.length_map] at hz
  refine ⟨fun i m H' => m = xs.length - i ∧ i ≤ xs.length ∧ ∃ F', Ok B (.own D (oL K) (((xs.take i).filter f).map w) :: Γ) (some (.ref D) :: σ) F' H' ∧ Ex F1 F', ⟨_, rfl, Nat.zero_le _, F1, I1.pushL hD (Nat.zero_le _) .nil, Ex.refl _⟩, ?_⟩
  rintro i m H' ⟨rfl, hi', F', I', e'⟩
  by_cases hlt : i < xs.length
  · have hx : xs[i]? = some xs[i] := List.getElem?_eq_getElem hlt
    obtain ⟨go, yl⟩ := (tn i F' H' e' I'.ex).1 (e xs[i]) (by rw [List.getElem?_map, hx]; rfl)
    refine .inr ⟨go, fun H2 => ∃ F2, Ok B (.own D (oL K) (((xs.take (i + 1)).filter f).map w) :: Γ) (some (.ref D) :: σ) F2 H2 ∧ Ex F1 F2, fun H2 ⟨F2, a, b⟩ => ⟨xs.length - (i + 1), by omega, rfl, hlt, F2, a, b⟩, fun x H3 hy => ?_⟩
    obtain ⟨F3, carry, e3, dx⟩ := yl x H3 hy
    have I3 := carry _ _ _ I'
    obtain ⟨Γi, hg, eg, tT, eT⟩ := ht xs[i] (List.getElem_mem hlt)
    obtain ⟨B', Iw, back⟩ := TL.under (τ := [some (.ref D)]) (Δ := [.own D (oL K) (((xs.take i).filter f).map w)]) rfl I3
    have pl : ∀ {F' H' : Hp}, Ex F3 F' → ∀ j ∈ vs, ∀ s, Γ[j]? = some s → ∃ x, σ[j]? = some x ∧ SlOk F' H' x s [] := fun e => Iw.plain hv e
    refine hg B' _ F3 H3 x (Iw.wipe (vs := vs)) dx _ fun σ2 es I4 => ⟨es.trans wipe_wipe, ?_⟩
    · have es' : L2.wipe σ2 vs = L2.wipe σ vs := es.trans wipe_wipe
      refine tT B' σ2 F3 H3 I4 _ fun Γ5 b F5 H5 ⟨a1, a2⟩ I5 e5 => ?_
      subst a1 a2
      cases hb : f xs[i] with
      | false =>
        show ∃ F2, _ ∧ _
        refine ⟨F5, ?_, (e'.trans e3).trans e5⟩
        rw [take_next hx, List.filter_append, List.filter_cons, hb]
        simp only [Bool.false_eq_true, if_false, List.filter_nil, List.append_nil]
        exact back _ _ _ _ (I5.back es' eg I.lens (pl e5))
      | true =>
        show te σ2 H5 _
        refine (eT hb) B' σ2 F5 H5 I5 _ fun Γ6 s6 y F6 H6 ⟨a1, a2⟩ I6 e6 => ?_
        subst a1 a2
        obtain ⟨y', ey, dy⟩ := Ok.head I6
        cases ey
        have I7 := back _ _ _ _ ((Ok.pop I6).back es' eg I.lens (pl (e5.trans e6)))
        obtain ⟨acc, _, hA, hl, I8⟩ := Ok.appL I7 dy (by
          have h1 : (((xs.take i).filter f).map w).length ≤ i := by
            rw [List.length_map]
            exact Nat.le_trans (List.length_filter_le _ _) (by rw [List.length_take]; omega)
          omega)
        refine ⟨acc, hA, ?_, F6, ?_, ((e'.trans e3).trans e5).trans e6⟩
        · have h1 : (((xs.take i).filter f).map w).length ≤ i := by
            rw [List.length_map]
            exact Nat.le_trans (List.length_filter_le _ _) (by rw [List.length_take]; omega)
          rw [hl]
          exact Nat.lt_of_le_of_lt (Nat.le_trans h1 (Nat.le_trans hi' hz)) (by decide)
        · rw [take_next hx, List.filter_append, List.filter_cons, hb]
          simp only [if_true, List.filter_nil, List.map_append, List.map_cons, List.map_nil]
          exact I8
  · have ei : i = xs.length := by omega
    subst ei
    refine .inl ⟨(tn _ F' H' e' I'.ex).2 (by simp), ?_⟩
    rw [List.take_length] at I'
    exact q _ _ _ F' H' ⟨rfl, D, rfl⟩ I' (e1.trans e')
end
end TL
/-! TL4: statements, loops, what a def promises, calls. -/
namespace TL
open PySem L2
open Evl (Ex ex_l ex_t)

/-- what is wanted behind a statement -/
structure AD where
  nx : List Sl → Prop
  rt : List Sl → Sl → Prop
  bk : List Sl → Prop := fun _ => False
  ct : List Sl → Prop := fun _ => False
def S (B : Bs) (ts : TS) (Γ : List Sl) (D : AD) : Prop := ∀ (σ : St) (F H : Hp), Ok B Γ σ F H → ∀ D' : Ends,
  (∀ Γ' σ' F' H', D.nx Γ' → Ok B Γ' σ' F' H' → Ex F F' → D'.nx σ' H') → (∀ Γ' s v σ' F' H', D.rt Γ' s → Ok B (s :: Γ') (some v :: σ') F' H' → Ex F F' → D'.rt v H') →
  (∀ Γ' σ' F' H', D.bk Γ' → Ok B Γ' σ' F' H' → Ex F F' → D'.bk σ' H') → (∀ Γ' σ' F' H', D.ct Γ' → Ok B Γ' σ' F' H' → Ex F F' → D'.ct σ' H') → ts D' σ H
section
variable {K : PySem.W.Frag} {B : Bs} {Γ Δ Γ' : List Sl} {σ τ : St} {F F' H H' : Hp} {s : Sl} {v : V} {te ta tb tc : TE} {tt : TT} {t u : TS} {D : AD} {d e x y z : PyData} {i j : Nat} {vs : List Nat} {g : TG} {b : Bool}
theorem s_next (h : D.nx Γ) : S B tNext Γ D := fun σ F H I D' hn _ _ _ => hn Γ σ F H h I (Ex.refl F)
theorem s_break (h : D.bk Γ) : S B tBreak Γ D := fun σ F H I D' _ _ hb _ => hb Γ σ F H h I (Ex.refl F)
theorem s_cont (h : D.ct Γ) : S B tCont Γ D := fun σ F H I D' _ _ _ hc => hc Γ σ F H h I (Ex.refl F)
theorem s_seq (M : List Sl → Prop) (h : S B t Γ { D with nx := M }) (k : ∀ Γ', M Γ' → S B u Γ' D) : S B (tSeq t u) Γ D := fun σ F H I D' hn hr hb hc =>
  h σ F H I { D' with nx := u D' } (fun Γ1 σ1 F1 H1 m I1 e1 => k Γ1 m σ1 F1 H1 I1 D' (fun a b c d p q r => hn a b c d p q (e1.trans r)) (fun a b c d f g p q r => hr a b c d f g p q (e1.trans r)) (fun a b c d p q r => hb a b c d p q (e1.trans r)) (fun a b c d p q r => hc a b c d p q (e1.trans r))) hr hb hc
theorem s_any (h : S B t Γ { D with nx := fun Γ' => Γ' = Γ ∧ D.nx Γ }) : S B t Γ D := fun σ F H I D' hn hr hb hc => h σ F H I D' (fun Γ' σ' F' H' ⟨a, m⟩ I' e => by subst a; exact hn _ σ' F' H' m I' e) hr hb hc
/-- an expression's value goes to a slot -/
theorem s_asgE (h : E te Γ fun Γ' s => D.nx (Γ'.set i s)) : S B (tAsg te (gName i)) Γ D := fun σ F H I D' hn hr hb hc =>
  h B σ F H I _ fun Γ1 s1 v F1 H1 m I1 e1 => hn _ _ F1 H1 m I1.store e1
theorem q_asgE (h : E te Γ fun Γ' s => S B u (Γ'.set i s) D) : S B (tSeq (tAsg te (gName i)) u) Γ D := fun σ F H I D' hn hr hb hc =>
  h B σ F H I _ fun Γ1 s1 v F1 H1 m I1 e1 => m _ F1 H1 I1.store D' (fun a b c d p q r => hn a b c d p q (e1.trans r)) (fun a b c d f g p q r => hr a b c d f g p q (e1.trans r)) (fun a b c d p q r => hb a b c d p q (e1.trans r)) (fun a b c d p q r => hc a b c d p q (e1.trans r))
theorem s_set (h : EP te Γ s) (k : D.nx (Γ.set i s)) : S B (tAsg te (gName i)) Γ D := s_asgE (h.to k)
theorem q_set (h : EP te Γ s) (k : S B u (Γ.set i s) D) : S B (tSeq (tAsg te (gName i)) u) Γ D := q_asgE (h.to k)
theorem q_setO {α : Type} {o : Ow α} {a : α} (h : EO te Γ o a) (k : ∀ p, S B u (Γ.set i (.own p o a)) D) : S B (tSeq (tAsg te (gName i)) u) Γ D := q_asgE (h.imp fun Γ' s ⟨a, p, b⟩ => by subst a b; exact k p)
theorem s_setO {α : Type} {o : Ow α} {a : α} (h : EO te Γ o a) (k : ∀ p, D.nx (Γ.set i (.own p o a))) : S B (tAsg te (gName i)) Γ D := s_asgE (h.imp fun Γ' s ⟨a, p, b⟩ => by subst a b; exact k p)
/-- several targets -/
theorem s_asgG (h : EP te Γ (Da K d)) (hg : GP K g d vs Γ Γ') (k : D.nx Γ') : S B (tAsg te g) Γ D := fun σ F H I D' hn hr hb hc =>
  h B σ F H I _ fun Γ1 s1 v F1 H1 ⟨a, b⟩ I1 e1 => by
    subst a b
    obtain ⟨v', ev, hv⟩ := Ok.head I1
    cases ev
    exact hg B σ F1 H1 v (Ok.pop I1) hv _ fun σ' _ I2 => hn _ σ' F1 H1 k I2 e1
theorem q_asgG (h : EP te Γ (Da K d)) (hg : GP K g d vs Γ Γ') (k : S B u Γ' D) : S B (tSeq (tAsg te g) u) Γ D :=
  s_seq (fun Γ1 => Γ1 = Γ') (s_asgG h hg rfl) fun Γ1 e => by subst e; exact k
theorem s_ret (h : EP te Γ s) (k : D.rt Γ s) : S B (tRet te) Γ D := fun σ F H I D' hn hr hb hc =>
  h B σ F H I _ fun Γ1 s1 v F1 H1 ⟨a, b⟩ I1 e1 => by subst a b; exact hr _ _ v σ F1 H1 k I1 e1
theorem s_retE (h : E te Γ D.rt) : S B (tRet te) Γ D := fun σ F H I D' hn hr hb hc =>
  h B σ F H I _ fun Γ1 s1 v F1 H1 a I1 e1 => hr _ _ v σ F1 H1 a I1 e1
theorem s_retO {α : Type} {o : Ow α} {a : α} (h : EO te Γ o a) (k : ∀ p, D.rt Γ (.own p o a)) : S B (tRet te) Γ D := s_retE (h.imp fun Γ' s ⟨a, p, b⟩ => by subst a b; exact k p)
theorem s_drop (h : E te Γ fun Γ' _ => D.nx Γ') : S B (tDrop te) Γ D := fun σ F H I D' hn hr hb hc =>
  h B σ F H I _ fun Γ1 s1 v F1 H1 a I1 e1 => hn _ σ F1 H1 a I1.pop e1
theorem q_drop (h : E te Γ fun Γ' _ => S B u Γ' D) : S B (tSeq (tDrop te) u) Γ D := fun σ F H I D' hn hr hb hc =>
  h B σ F H I _ fun Γ1 s1 v F1 H1 m I1 e1 => m _ F1 H1 I1.pop D' (fun a b c d p q r => hn a b c d p q (e1.trans r)) (fun a b c d f g p q r => hr a b c d f g p q (e1.trans r)) (fun a b c d p q r => hb a b c d p q (e1.trans r)) (fun a b c d p q r => hc a b c d p q (e1.trans r))
theorem s_if (hc : TP tt Γ b) (h1 : b = true → S B t Γ D) (h2 : b = false → S B u Γ D) : S B (tIfS tt t u) Γ D := fun σ F H I D' hn hr hb hct =>
  hc B σ F H I _ fun Γ1 b1 F1 H1 ⟨p, q⟩ I1 e1 => by
    subst p q
    have go : ∀ {w : TS}, S B w Γ1 D → w D' σ H1 := fun {w} k => k σ F1 H1 I1 D' (fun a b c d p q r => hn a b c d p q (e1.trans r)) (fun a b c d f g p q r => hr a b c d f g p q (e1.trans r)) (fun a b c d p q r => hb a b c d p q (e1.trans r)) (fun a b c d p q r => hct a b c d p q (e1.trans r))
    cases b1 with
    | true => show t D' σ H1; exact go (h1 rfl)
    | false => show u D' σ H1; exact go (h2 rfl)
/-- .. whatever the test leaves -/
theorem s_ifE (hc : T tt Γ fun Γ' b => (b = true → S B t Γ' D) ∧ (b = false → S B u Γ' D)) : S B (tIfS tt t u) Γ D := fun σ F H I D' hn hr hb hct =>
  hc B σ F H I _ fun Γ1 b1 F1 H1 ⟨p, q⟩ I1 e1 => by
    have go : ∀ {w : TS}, S B w Γ1 D → w D' σ H1 := fun {w} k => k σ F1 H1 I1 D' (fun a b c d p q r => hn a b c d p q (e1.trans r)) (fun a b c d f g p q r => hr a b c d f g p q (e1.trans r)) (fun a b c d p q r => hb a b c d p q (e1.trans r)) (fun a b c d p q r => hct a b c d p q (e1.trans r))
    cases b1 with
    | true => show t D' σ H1; exact go (p rfl)
    | false => show u D' σ H1; exact go (q rfl)
/-- an if with something behind -/
theorem q_if {w : TS} (hc : TP tt Γ b) (h1 : b = true → S B (tSeq t w) Γ D) (h2 : b = false → S B (tSeq u w) Γ D) : S B (tSeq (tIfS tt t u) w) Γ D := s_if (t := tSeq t w) (u := tSeq u w) hc h1 h2
theorem q_ifE {w : TS} (hc : T tt Γ fun Γ' b => (b = true → S B (tSeq t w) Γ' D) ∧ (b = false → S B (tSeq u w) Γ' D)) : S B (tSeq (tIfS tt t u) w) Γ D := s_ifE (t := tSeq t w) (u := tSeq u w) hc
/-- .. the usual: the test's way leaves the def -/
theorem q_out {w : TS} (hc : TP tt Γ b) (h1 : b = true → S B t Γ { D with nx := fun _ => False }) (h2 : b = false → S B w Γ D) : S B (tSeq (tIfS tt t tNext) w) Γ D :=
  q_if hc (fun hb => s_seq (fun _ => False) (h1 hb) fun _ z => z.elim) fun hb => h2 hb
theorem q_nextq {w : TS} (h : S B w Γ D) : S B (tSeq tNext w) Γ D := h
theorem s_never (h : False) : S B tNever Γ D := h.elim
/-! ### loops -/
theorem s_for {α : Type} {xs : List α} {en : α → PyData} {wi : TI} (hi : IP K wi Γ (xs.map en)) (Inv : Nat → List Sl → Prop) (h0 : Inv 0 Γ)
    (hs : ∀ (i : Nat) (x : α) (Γ1 : List Sl), xs[i]? = some x → Inv i Γ1 → ∃ Γ2 vs, GP K g (en x) vs Γ1 Γ2 ∧ S B t Γ2 { D with nx := Inv (i + 1), ct := Inv (i + 1), bk := D.nx }) (hd : ∀ Γ1, Inv xs.length Γ1 → D.nx Γ1) : S B (tFor wi g t) Γ D := fun σ F H I D' hn hr hb hc => by
  refine hi B σ F H I _ fun J F1 H1 I1 e1 tn _ => ?_
  refine ⟨fun i m σ' H' => m = xs.length - i ∧ i ≤ xs.length ∧ ∃ Γ' F', Inv i Γ' ∧ Ok B Γ' σ' F' H' ∧ Ex F1 F', ⟨_, rfl, Nat.zero_le _, Γ, F1, h0, I1, Ex.refl _⟩, ?_⟩
  rintro i m σ' H' ⟨rfl, hi', Γ', F', hv, I', e'⟩
  by_cases hlt : i < xs.length
  · have hx : xs[i]? = some xs[i] := List.getElem?_eq_getElem hlt
    obtain ⟨go, yl⟩ := (tn i F' H' e' I'.ex).1 (en xs[i]) (by rw [List.getElem?_map, hx]; rfl)
    obtain ⟨Γ2, vs, hg, hb2⟩ := hs i xs[i] Γ' hx hv
    refine .inr ⟨go, fun σ2 H2 => ∃ Γ' F', Inv (i + 1) Γ' ∧ Ok B Γ' σ2 F' H2 ∧ Ex F1 F', fun σ2 H2 q => ⟨xs.length - (i + 1), by omega, rfl, hlt, q⟩, fun x H3 hy => ?_⟩
    obtain ⟨F3, carry, e3, dx⟩ := yl x H3 hy
    refine hg B σ' F3 H3 x (carry _ _ _ I') dx _ fun σ2 _ I2 => ?_
    have eA : Ex F1 F3 := e'.trans e3
    exact hb2 σ2 F3 H3 I2 { D' with nx := _, ct := _, bk := D'.nx } (fun Γ5 σ5 F5 H5 a I5 e5 => ⟨Γ5, F5, a, I5, eA.trans e5⟩) (fun a b c d f g p q r => hr a b c d f g p q ((e1.trans eA).trans r))
      (fun a b c d p q r => hn a b c d p q ((e1.trans eA).trans r)) (fun Γ5 σ5 F5 H5 a I5 e5 => ⟨Γ5, F5, a, I5, eA.trans e5⟩)
  · have ei : i = xs.length := by omega
    subst ei
    exact .inl ⟨(tn _ F' H' e' I'.ex).2 (by simp), hn Γ' σ' F' H' (hd Γ' hv) I' (e1.trans e')⟩
theorem q_for {α : Type} {xs : List α} {en : α → PyData} {wi : TI} (hi : IP K wi Γ (xs.map en)) (Inv : Nat → List Sl → Prop) (h0 : Inv 0 Γ)
    (hs : ∀ (i : Nat) (x : α) (Γ1 : List Sl), xs[i]? = some x → Inv i Γ1 → ∃ Γ2 vs, GP K g (en x) vs Γ1 Γ2 ∧ S B t Γ2 { D with nx := Inv (i + 1), ct := Inv (i + 1), bk := fun Γ' => S B u Γ' D }) (hd : ∀ Γ1, Inv xs.length Γ1 → S B u Γ1 D) : S B (tSeq (tFor wi g t) u) Γ D :=
  s_seq (fun Γ' => S B u Γ' D) (s_for hi Inv h0 hs hd) fun _ h => h
theorem s_while {α : Type} (Inv : α → List Sl → Prop) (μ : α → Nat) (a0 : α) (h0 : Inv a0 Γ) (f : α → Bool)
    (hs : ∀ (a : α) (Γ1 : List Sl), Inv a Γ1 → TP tt Γ1 (f a) ∧ (f a = true → S B t Γ1 { D with nx := fun Γ2 => ∃ a', Inv a' Γ2 ∧ μ a' < μ a, ct := fun Γ2 => ∃ a', Inv a' Γ2 ∧ μ a' < μ a, bk := D.nx }) ∧ (f a = false → D.nx Γ1)) : S B (tWhile tt t) Γ D := fun σ F H I D' hn hr hb hc => by
  refine ⟨fun m σ' H' => ∃ a Γ' F', m = μ a ∧ Inv a Γ' ∧ Ok B Γ' σ' F' H' ∧ Ex F F', ⟨_, a0, Γ, F, rfl, h0, I, Ex.refl _⟩, ?_⟩
  rintro m σ' H' ⟨a, Γ', F', rfl, hv, I', e'⟩
  obtain ⟨h1, h2, h3⟩ := hs a Γ' hv
  refine h1 B σ' F' H' I' _ fun Γ2 b F2 H2 ⟨p, q⟩ I2 e2 => ?_
  subst p q
  cases hf : f a with
  | true =>
    show ∃ N : St → Hp → Prop, _
    refine ⟨fun σ3 H3 => ∃ a' Γ' F', Inv a' Γ' ∧ μ a' < μ a ∧ Ok B Γ' σ3 F' H3 ∧ Ex F F', fun σ3 H3 ⟨a', Γ', F', q1, q2, q3, q4⟩ => ⟨_, q2, a', Γ', F', rfl, q1, q3, q4⟩, ?_⟩
    have eA := e'.trans e2
    exact h2 hf σ' F2 H2 I2 { D' with nx := _, ct := _, bk := D'.nx } (fun Γ5 σ5 F5 H5 ⟨a', q1, q2⟩ I5 e5 => ⟨a', Γ5, F5, q1, q2, I5, eA.trans e5⟩) (fun a b c d f g p q r => hr a b c d f g p q (eA.trans r))
      (fun a b c d p q r => hn a b c d p q (eA.trans r)) (fun Γ5 σ5 F5 H5 ⟨a', q1, q2⟩ I5 e5 => ⟨a', Γ5, F5, q1, q2, I5, eA.trans e5⟩)
  | false => exact hn _ σ' F2 H2 (h3 hf) I2 (e'.trans e2)

/-! ### promises -/
theorem Ok.exT (I : Ok B Γ σ F H) : Ex F H ∧ TbOk B.T F H := by
  obtain ⟨L, h⟩ := I
  exact ⟨h.ex, h.bD.2⟩
def clsV (K : PySem.W.Frag) (x : Str) : Value := .ref (He.ga K x)
/-- what a def hands back: a list is new -/
def Res (K : PySem.W.Frag) (d : PyData) (s : Sl) : Prop := (∃ ds p, d = .list ds ∧ s = .own p (oL K) ds) ∨ ((∀ ds, d ≠ .list ds) ∧ s = Da K d)
theorem Res.l {ds : List PyData} {p : Addr} : Res K (.list ds) (.own p (oL K) ds) := .inl ⟨ds, p, rfl, rfl⟩
theorem Res.o (h : ∀ ds, d ≠ .list ds := by intro _ h; cases h) : Res K d (Da K d) := .inr ⟨h, rfl⟩
/-- a def without objects handed over: from data comes a datum, or an error of the class so called -/
abbrev Rl := List PyData → Except Str PyData → Prop
def PFt (T : List (Addr × Str)) (K : PySem.W.Frag) (R : Rl) : Sp := fun vs H Q X => ∃ (ds : List PyData) (r : Except Str PyData) (F : Hp), R ds r ∧ (Ex F H ∧ TbOk T F H) ∧ DqAll K F vs ds ∧
  (∀ d s v F' H', r = .ok d → Res K d s → Ok ⟨F, H, [], T⟩ [s] [some v] F' H' → Q v H') ∧ (∀ x F' H', r = .error x → Ok ⟨F, H, [], T⟩ [] [] F' H' → X (clsV K x) none H')
/-- .. whatever tables stand -/
def PF (K : PySem.W.Frag) (R : Rl) : Sp := fun vs H Q X => ∃ T, PFt T K R vs H Q X
theorem ok_args {T : List (Addr × Str)} : ∀ {vs : List V} {ds : List PyData}, DqAll K F vs ds → Ex F H ∧ TbOk T F H → Ok ⟨F, H, [], T⟩ (ds.map (Da K)) (vs.map some) F H
  | [], _, h, e => by
    cases h
    exact ⟨[], .nil, List.nodup_nil, (fun _ z => nomatch z), e.1, Ex.refl F, fun _ _ q => .inl q, fun _ _ q _ _ => q, ⟨fun _ o q => ⟨o, q⟩, e.2⟩, fun _ z => nomatch z⟩
  | v :: vs, _, h, e => by
    cases h with
    | cons a b => exact (ok_args b e).push a
theorem ep_call {R : Rl} {E : XK} {t : TA} {ds : List PyData} (ha : AP t Γ (ds.map (Da K))) (hR : R ds (.ok d)) : EP (tCall (PF K R) [] E t) Γ (Da K d) := fun B σ F H I Q q =>
  ha B σ F H I _ fun Γ1 ss vs F1 H1 ⟨a, b⟩ n I1 e1 => by
    subst a b
    obtain ⟨h1, h2⟩ := Ok.all (by simpa using n) I1
    show PF K R (vs ++ []) H1 Q E
    rw [List.append_nil]
    refine ⟨B.T, ds, _, F1, hR, Ok.exT h2, h1, fun d' s v F' H' e hs I' => ?_, fun x F' H' e _ => by cases e⟩
    cases e
    have I3 := h2.after I'
    have eF : Ex F1 F' := by
      obtain ⟨L, I'⟩ := I'
      exact I'.bF
    rcases hs with ⟨es, p, hd, hs⟩ | ⟨_, hs⟩
    · subst hd hs
      obtain ⟨F2, ex, e2, I4⟩ := Ok.freeze I3
      exact q _ _ v F2 H' ⟨rfl, rfl⟩ I4 ((e1.trans eF).trans e2)
    · subst hs
      exact q _ _ v F' H' ⟨rfl, rfl⟩ I3 (e1.trans eF)
theorem eo_call {R : Rl} {E : XK} {t : TA} {ds es : List PyData} (ha : AP t Γ (ds.map (Da K))) (hR : R ds (.ok (.list es))) : EO (tCall (PF K R) [] E t) Γ (oL K) es := fun B σ F H I Q q =>
  ha B σ F H I _ fun Γ1 ss vs F1 H1 ⟨a, b⟩ n I1 e1 => by
    subst a b
    obtain ⟨h1, h2⟩ := Ok.all (by simpa using n) I1
    show PF K R (vs ++ []) H1 Q E
    rw [List.append_nil]
    refine ⟨B.T, ds, _, F1, hR, Ok.exT h2, h1, fun d' s v F' H' e hs I' => ?_, fun x F' H' e _ => by cases e⟩
    cases e
    have I3 := h2.after I'
    have eF : Ex F1 F' := by
      obtain ⟨L, I'⟩ := I'
      exact I'.bF
    rcases hs with ⟨es', p, hd, hs⟩ | ⟨hn, hs⟩
    · cases hd
      subst hs
      exact q _ _ v F' H' ⟨rfl, p, rfl⟩ I3 (e1.trans eF)
    · exact absurd rfl (hn es)
/-- a call as a statement, that may raise -/
theorem q_call {R : Rl} {E : XK} {ta : TA} {ds : List PyData} {r : Except Str PyData} (ha : AP ta Γ (ds.map (Da K))) (hR : R ds r) (h1 : ∀ d, r = .ok d → S B u Γ D) (h2 : ∀ x, r = .error x → ∀ F' H', Ok B [] [] F' H' → E (clsV K x) none H') : S B (tSeq (tDrop (tCall (PF K R) [] E ta)) u) Γ D := fun σ F H I D' hn hr hb hc =>
  ha B σ F H I _ fun Γ1 ss vs F1 H1 ⟨a, b⟩ n I1 e1 => by
    subst a b
    obtain ⟨g1, g2⟩ := Ok.all (by simpa using n) I1
    show PF K R (vs ++ []) H1 _ E
    rw [List.append_nil]
    refine ⟨B.T, ds, _, F1, hR, Ok.exT g2, g1, fun d' s v F' H' e hs I' => ?_, fun x F' H' e I' => ?_⟩
    · have I3 := Ok.pop (g2.after I')
      have eF : Ex F1 F' := by
        obtain ⟨L, I'⟩ := I'
        exact I'.bF
      have eA := e1.trans eF
      exact h1 d' e σ F' H' I3 D' (fun a b c d p q r => hn a b c d p q (eA.trans r)) (fun a b c d f g p q r => hr a b c d f g p q (eA.trans r)) (fun a b c d p q r => hb a b c d p q (eA.trans r)) (fun a b c d p q r => hc a b c d p q (eA.trans r))
    · have I3 : Ok B Γ1 σ F' H' := g2.after I'
      obtain ⟨L, I4⟩ := I3
      exact h2 x e F' H' ⟨[], .nil, List.nodup_nil, (fun _ z => nomatch z), I4.ex, I4.bF, I4.bG, I4.bK, I4.bD, fun _ z => nomatch z⟩
/-- raise X('..') -/
theorem s_raise {x : Str} {E : XK} {W : WX} (hW : W = fun cls dd _ H' => E cls dd H') (h : ∀ F' H', Ok B [] [] F' H' → E (clsV K x) none H') : S B (fun _ σ H => (fun (_ : St) H Q => Q (clsV K x) none H : St → Hp → XK → Prop) σ H fun cls dd H' => W cls dd σ H') Γ D := fun σ F H I D' _ _ _ _ => by
  subst hW
  obtain ⟨L, I4⟩ := I
  exact h F H ⟨[], .nil, List.nodup_nil, (fun _ z => nomatch z), I4.ex, I4.bF, I4.bG, I4.bK, I4.bD, fun _ z => nomatch z⟩
end
section
variable {P : Program} {w : World} {K : PySem.W.Frag} {mg : Str → Option Value} {base : Heap}
/-- the slots at a def's entry -/
def Γ0 (K : PySem.W.Frag) (ds : List PyData) (n : Nat) : List Sl := ds.map (Da K) ++ List.replicate (n - ds.length) .no
theorem nil_flat (n : Nat) : (List.replicate n ([] : List Addr)).flatten = [] := by
  induction n with
  | zero => rfl
  | succ n ih => rw [List.replicate_succ, List.flatten_cons, ih]; rfl
theorem nos_none {F H : Hp} (n : Nat) : SlsOk F H (List.replicate n none) (List.replicate n .no) (List.replicate n []) := by
  induction n with
  | zero => exact .nil
  | succ n ih => exact .cons .no ih
theorem nos_ok {B : Bs} {Γ : List Sl} {σ : St} {F H : Hp} (h : Ok B Γ σ F H) (n : Nat) : Ok B (Γ ++ List.replicate n .no) (σ ++ List.replicate n none) F H := by
  obtain ⟨L, h⟩ := h
  have e : (L ++ List.replicate n ([] : List Addr)).flatten = L.flatten := by
    rw [List.flatten_append, nil_flat, List.append_nil]
  exact ⟨L ++ List.replicate n [], h.sl.append (nos_none n), by rw [e]; exact h.nd, by rw [e]; exact h.fz, h.ex, h.bF, h.bG, h.bK, h.bD, by rw [e]; exact h.bO⟩
theorem Ok.take1 {B : Bs} {Γ : List Sl} {σ : St} {F H : Hp} {s : Sl} {x : Option V} (h : Ok B (s :: Γ) (x :: σ) F H) : Ok B [s] [x] F H := by
  obtain ⟨L, h⟩ := h
  cases h.sl with
  | @cons x s fp σ Γ fps u w =>
    have sub : ∀ q ∈ [fp].flatten, q ∈ (fp :: fps).flatten := fun q z => by
      rw [List.flatten_cons]
      exact List.mem_append_left _ (by simpa using z)
    have nd := h.nd
    rw [List.flatten_cons, List.nodup_append] at nd
    exact ⟨[fp], .cons u .nil, by simpa using nd.1, fun q z => h.fz q (sub q z), h.ex, h.bF, h.bG, h.bK, h.bD, fun q z => h.bO q (sub q z)⟩
/-- THE RULE for a def -/
theorem fn_pf {x qual : Str} {params : Arguments} {body : List Stmt} {scope : Scope} {f : Addr} {fd : FuncData} {N ps : List Str} {k : Nat} {R : Rl} (Fd : FunD K x qual params body scope [] [] f fd) (sc : FnScope N ps scope) (hl : ∀ ds r, R ds r → ds.length = ps.length)
    (hbody : ∀ (cdv : Value) (A : Around) (outer : List Env) (s : Shared) (H : Hp) (E : XK) (ds : List PyData) (r : Except Str PyData) (B : Bs), Room k (A.deeper (PyProof.Rows.envOfC qual scope s.heap.objs.size f cdv)) → R ds r → (∀ x, r = .error x → ∀ F' H', Ok B [] [] F' H' → E (clsV K x) none H') →
      ∃ t, PSs (cxOf (L2N.CX P w) P w K mg base N qual scope f cdv A outer s H E) body t ∧ S B t (Γ0 K ds N.length) ⟨fun _ => r = .ok .none, fun _ s => ∃ d, r = .ok d ∧ Res K d s, fun _ => False, fun _ => False⟩) :
    FnOk P w K mg base (L2N.CX P w) (k + 1) f fd ps (PF K R) := by
  refine FunD.ok Fd sc (fun vs H Q E h => ?_) fun cdv A outer s H vs Q E hr h => ?_
  · obtain ⟨T, ds, r, F, h1, _, h3, _⟩ := h
    rw [h3.len, hl ds r h1]
  · obtain ⟨T, ds, r, F, h1, h2, h3, h4, h5⟩ := h
    obtain ⟨t, ht, hs⟩ := hbody cdv A outer s H E ds r ⟨F, H, [], T⟩ hr h1 (fun x e F' H' I => h5 x F' H' e I)
    refine ⟨t, ht, ?_⟩
    have I0 : Ok ⟨F, H, [], T⟩ (Γ0 K ds N.length) (L2.start N vs) F H := by
      unfold Γ0 L2.start
      rw [h3.len]
      exact nos_ok (ok_args h3 h2) _
    refine hs _ F H I0 _ (fun Γ' σ' F' H' e I' _ => ?_) (fun Γ' s v σ' F' H' ⟨d, e, hd⟩ I' _ => ?_) (fun _ _ _ _ z => z.elim) (fun _ _ _ _ z => z.elim)
    · exact h4 .none (Da K .none) .non F' H' e .o (Ok.take1 (I'.push Dq.non))
    · exact h4 d s v F' H' e hd (Ok.take1 I')
/-- the def's object and its code -/
def FunC (K : PySem.W.Frag) (x qual : Str) (params : Arguments) (body : List Stmt) (scope : Scope) (f : Addr) (cdv : Value) : Prop :=
  ∃ (oc : Value) (od : Option Addr) (dV kV doc pm : Value) (an : Option Addr) (ct : Value) (osl : Array (Option Value)), K.lookup f = some ⟨oc, od, .func (PySem.W.fnOf x qual params body scope dV kV doc pm an cdv ct), osl⟩ ∧ PySem.W.codeIn K cdv qual = true
theorem FunC.code {x qual : Str} {params : Arguments} {body : List Stmt} {scope : Scope} {p : Str × Option Str} {cdv : Value} (h : FunC K x qual params body scope (He.fAd K p) cdv) : cdv = .ref (He.codeOf K p) := by
  obtain ⟨oc, od, dV, kV, doc, pm, an, ct, osl, lk, hc⟩ := h
  obtain ⟨c, e⟩ := He.codeIn_ref hc
  subst e
  rw [He.codeOf_eq lk rfl]
theorem okC {CX : CXT} {x qual : Str} {params : Arguments} {body : List Stmt} {scope : Scope} {dvs : List V} {kws : List (Str × V)} {f : Addr} {fd : FuncData} {N ps : List Str} {k : Nat} {sp : Sp} (F : FunD K x qual params body scope dvs kws f fd) (S : FnScope N ps scope) (len : ∀ vs H Q E, sp vs H Q E → vs.length = ps.length)
    (hbody : ∀ (cdv : Value), FunC K x qual params body scope f cdv → ∀ (A : Around) (outer : List Env) (s : Shared) (H : Hp) (vs : List V) (Q : VK) (E : XK), Room k (A.deeper (PyProof.Rows.envOfC qual scope s.heap.objs.size f cdv)) → sp vs H Q E →
      ∃ t, PSs (cxOf CX P w K mg base N qual scope f cdv A outer s H E) body t ∧ t { nx := fun _ H' => Q .non H', rt := Q } (L2.start N vs) H) : FnOk P w K mg base CX (k + 1) f fd ps sp := by
  obtain ⟨oc, od, dV, kV, doc, pm, an, cdv, ct, osl, rfl, lk, hcd, _, _⟩ := F.ex
  exact fn_of lk hcd S len fun A outer s H vs Q E hr hsp => hbody cdv ⟨oc, od, dV, kV, doc, pm, an, ct, osl, lk, hcd⟩ A outer s H vs Q E hr hsp
/-- .. with the tables T -/
theorem fn_pfT {T : List (Addr × Str)} {x qual : Str} {params : Arguments} {body : List Stmt} {scope : Scope} {f : Addr} {fd : FuncData} {N ps : List Str} {k : Nat} {R : Rl} (Fd : FunD K x qual params body scope [] [] f fd) (sc : FnScope N ps scope) (hl : ∀ ds r, R ds r → ds.length = ps.length)
    (hbody : ∀ (cdv : Value), FunC K x qual params body scope f cdv → ∀ (A : Around) (outer : List Env) (s : Shared) (H : Hp) (E : XK) (ds : List PyData) (r : Except Str PyData) (B : Bs), B.T = T → Room k (A.deeper (PyProof.Rows.envOfC qual scope s.heap.objs.size f cdv)) → R ds r → (∀ x, r = .error x → ∀ F' H', Ok B [] [] F' H' → E (clsV K x) none H') →
      ∃ t, PSs (cxOf (L2N.CX P w) P w K mg base N qual scope f cdv A outer s H E) body t ∧ S B t (Γ0 K ds N.length) ⟨fun _ => r = .ok .none, fun _ s => ∃ d, r = .ok d ∧ Res K d s, fun _ => False, fun _ => False⟩) :
    FnOk P w K mg base (L2N.CX P w) (k + 1) f fd ps (PFt T K R) := by
  refine okC Fd sc (fun vs H Q E h => ?_) fun cdv hcc A outer s H vs Q E hr h => ?_
  · obtain ⟨ds, r, F, h1, _, h3, _⟩ := h
    rw [h3.len, hl ds r h1]
  · obtain ⟨ds, r, F, h1, h2, h3, h4, h5⟩ := h
    obtain ⟨t, ht, hs⟩ := hbody cdv hcc A outer s H E ds r ⟨F, H, [], T⟩ rfl hr h1 (fun x e F' H' I => h5 x F' H' e I)
    refine ⟨t, ht, ?_⟩
    have I0 : Ok ⟨F, H, [], T⟩ (Γ0 K ds N.length) (L2.start N vs) F H := by
      unfold Γ0 L2.start
      rw [h3.len]
      exact nos_ok (ok_args h3 h2) _
    refine hs _ F H I0 _ (fun Γ' σ' F' H' e I' _ => ?_) (fun Γ' s v σ' F' H' ⟨d, e, hd⟩ I' _ => ?_) (fun _ _ _ _ z => z.elim) (fun _ _ _ _ z => z.elim)
    · exact h4 .none (Da K .none) .non F' H' e .o (Ok.take1 (I'.push Dq.non))
    · exact h4 d s v F' H' e hd (Ok.take1 I')
end
end TL
/-! TL5: the built-ins by data. -/
namespace TL
open PySem L2
open Evl (Ex ex_l ex_t)
/-! ### list + list, whatever list -/
section
variable {X : Cx}
def rCatS (K : PySem.W.Frag) : R2 := fun x y H Q => ∃ l b xs zs, x = .ref l ∧ y = .ref b ∧ SqL K H l xs ∧ SqL K H b zs ∧ xs.length + zs.length ≤ sizeLine ∧ ∀ p, H p = none → Q (.ref p) (upd H p (.lst (xs ++ zs)))
theorem op_catS : OpR X (binaryOp .Add) (rCatS X.K) := by
  intro pins s σ H x y v u Q I rx ry h
  obtain ⟨l, b, xs, zs, rfl, rfl, hH, hB, hz, q⟩ := h
  cases rx
  cases ry
  obtain ⟨its, r, ⟨⟨c1, d1, t1, s1⟩, n1, e1, a1, a2, a3⟩, _⟩ := I.list hH
  obtain ⟨its2, r2, ⟨⟨c2, d2, t2, s2⟩, n2, e2, b1, b2, b3⟩, _⟩ := I.list hB
  simp only at a1 a2 a3 b1 b2 b3
  subst a1 a2 a3 b1 b2 b3
  have l1 := r.length
  have l2 := r2.length
  refine concat_meets ⟨_, e1, rfl⟩ ⟨_, e2, rfl⟩ noFill_list_add seq_list_add PySem.F.slot_list_add PySem.F.entry_list_add (PySem.F.args_list_add_2 _ _) (PyProof.Rows.list_addW l b its.toArray its2.toArray n1 n2 none none s1 s2 (by simp only [List.size_toArray]; omega)) ⟨e1, e2, ?_⟩
  have ea : its.toArray ++ its2.toArray = (its ++ its2).toArray := by simp
  rw [ea]
  refine ⟨.ref s.heap.objs.size, upd H s.heap.objs.size (.lst (xs ++ zs)), I.laid (t' := s.toks) (fun b o e => Heap.get?_push_of_some _ e) (Nat.le_refl _) ?_, rfl, q _ (I.hok.fresh (Nat.le_refl _))⟩
  exact ⟨by rw [List.length_append]; exact hz, its ++ its2, 0, r.append r2, Heap.get?_push_size _ rfl⟩
end
section
variable {K : PySem.W.Frag} {B : Bs} {Γ Δ Γ' : List Sl} {σ τ : St} {F F' H H' : Hp} {s : Sl} {v : V} {te ta tb tc : TE} {tt : TT} {t u : TS} {D : AD} {d e x y z : PyData} {i j : Nat} {vs : List Nat} {ds es : List PyData}
theorem ro_catS (hz : ds.length + es.length ≤ wee) : RO K (rCatS K) (.list ds) (.list es) (ds ++ es) := fun B Γ σ F H v w I hv hw Q q => by
  cases hv with
  | @lst a xs _ h1 _ h2 =>
    cases hw with
    | @lst b ys _ h3 _ h4 =>
      refine ⟨a, b, xs, ys, rfl, rfl, ex_l I.ex h1, ex_l I.ex h3, Nat.le_trans (by rw [h2.len, h4.len]; exact hz) (by decide), fun p hp => q p _ (I.pushL hp (by rw [List.length_append]; exact hz) (h2.append h4))⟩
/-- tuple + tuple -/
theorem rd_catA (hz : ds.length + es.length ≤ wee) : RD K (rCatA K) (.tuple ds) (.tuple es) (.tuple (ds ++ es)) := fun B Γ σ F H v w I hv hw Q q => by
  cases hv with
  | @tup a xs _ h1 z1 h2 =>
    cases hw with
    | @tup b ys _ h3 z2 h4 =>
      refine ⟨a, b, xs, ys, rfl, rfl, ex_t I.ex h1, ex_t I.ex h3, Nat.le_trans (by rw [h2.len, h4.len]; exact hz) (by decide), fun e => ?_, fun _ e => ?_, fun _ _ p hp => ?_⟩
      · subst e
        cases h2
        exact q _ F H (I.push (Dq.tup h3 z2 h4)) (Ex.refl F)
      · subst e
        cases h4
        rw [List.append_nil] at q
        exact q _ F H (I.push (Dq.tup h1 z1 h2)) (Ex.refl F)
      · have eF : Ex F (upd F p (.tup (xs ++ ys))) := Ex.new (I.nF hp)
        exact q _ _ _ ((I.alloc hp).push (Dq.tup (.inl (.inl upd_same)) (by rw [List.length_append]; exact hz) (DqAll.mono eF _ _ (h2.append h4)))) eF
/-- [x] * n, the list just made -/
theorem rep_all {n : Nat} {xs : List V} (h : DqAll K F xs ds) : DqAll K F (List.replicate n xs).flatten (List.replicate n ds).flatten := by
  induction n with
  | zero => exact .nil
  | succ n ih =>
    rw [List.replicate_succ, List.replicate_succ, List.flatten_cons, List.flatten_cons]
    exact h.append ih
theorem eo_rep {n : Int} (ha : EO ta Γ (oL K) ds) (hb : EP tb Γ (Da K (.int n))) (h1 : -(2 ^ 63) ≤ n) (h2 : n < 2 ^ 63) (hz : ds.length * n.toNat ≤ wee) : EO (tOp rRep ta tb) Γ (oL K) (List.replicate n.toNat ds).flatten := fun B σ F H I Q q =>
  ha B σ F H I _ fun Γ1 s1 v F1 H1 ⟨a, p, b⟩ I1 e1 => by
    subst a b
    refine E.under hb (τ := [some v]) (Δ := [.own p (oL K) ds]) rfl I1 fun Γ2 s2 w F2 H2 ⟨a, b⟩ I2 e2 => ?_
    subst a b
    obtain ⟨w', h5, hw⟩ := Ok.head (Ok.pop I2)
    cases h5
    cases hw
    have I5 : Ok B Γ2 σ F2 H2 := Ok.pop (Ok.pop I2)
    obtain ⟨L, I3⟩ := I2
    cases I3.sl with
    | cons u1 u2 =>
      cases u1 with
      | own ho =>
        obtain ⟨_, xs, e3, _, e4⟩ := ho
        have hl : (List.replicate n.toNat ds).flatten.length ≤ wee := by
          rw [List.length_flatten, List.map_replicate, List.sum_replicate_nat, Nat.mul_comm]; exact hz
        refine ⟨p, n, xs, rfl, rfl, e3, h1, h2, Nat.le_trans (by rw [e4.len]; exact hz) (by decide), fun p' hp => ?_⟩
        exact q _ _ _ F2 _ ⟨rfl, p', rfl⟩ (I5.pushL hp hl (rep_all e4)) (e1.trans e2)
/-! ### isinstance -/
def rVl : Rp V := ⟨fun _ v a => v = a, fun {_ _ _ _} _ h => h⟩
def tyN : PyData → String
  | .none => "NoneType"
  | .bool _ => "bool"
  | .int _ => "int"
  | .str _ => "str"
  | .list _ => "list"
  | .tuple _ => "tuple"
  | .dict _ => "dict"
theorem Dq.tyX (h : Dq K F v d) (e : Ex F H) : TyX K H v (.type (tyN d)) := by
  cases h with
  | non => exact .base .non
  | bl b => exact .base (.bl b)
  | int i => exact .base (.int i)
  | str x => exact .base (.str x)
  | lst a _ _ =>
    rcases ex_l e a with (q | ⟨o, q⟩) | ⟨o, its, n, q1, q2, _⟩
    · exact .base (.lst q)
    · exact .base (.frz q)
    · exact .kList q1 q2
  | tup a _ _ =>
    rcases ex_t e a with (q | ⟨o, q⟩) | ⟨o, its, n, q1, q2, _⟩
    · exact .base (.tup q)
    · exact .fTuple q
    · exact .kTuple q1 q2
theorem ep_ty {n : String} : EP (tC (.ty n)) Γ (.val rVl (.ty n)) := ep_val fun F => rfl
theorem ep_isi {T : String} {b : Bool} (ha : EP ta Γ (Da K x)) (hb : EP tb Γ (.val rVl (.ty T))) (hk : kitB (tyN x) T = some b) : EP (tCB (rIsi K) (tCons ta (tCons tb tNil))) Γ (Da K (.bool b)) := fun B σ F H I Q q =>
  (ap_cons ha (ap_cons hb ap_nil)) B σ F H I _ fun Γ1 ss vs F1 H1 ⟨a, c⟩ n I1 e1 => by
    subst a c
    match vs, n with
    | [v1, v2], _ =>
      obtain ⟨v', e, hv⟩ := Ok.head I1
      cases e
      obtain ⟨v2', e, hv2⟩ := Ok.head (Ok.pop I1)
      cases e
      cases hv2
      exact ⟨v1, .ty T, _, _, b, rfl, .ty T, Dq.tyX hv I1.ex, hk, q _ _ _ F1 H1 ⟨rfl, rfl⟩ ((Ok.pop (Ok.pop I1)).push (Dq.bl b)) e1⟩
def isInt : PyData → Bool
  | .int _ => true
  | .bool _ => true
  | _ => false
def isBool : PyData → Bool
  | .bool _ => true
  | _ => false
def isTup : PyData → Bool
  | .tuple _ => true
  | _ => false
def isLst : PyData → Bool
  | .list _ => true
  | _ => false
def isStr : PyData → Bool
  | .str _ => true
  | _ => false
theorem kit_int (x : PyData) : kitB (tyN x) "int" = some (isInt x) := by cases x <;> rfl
theorem kit_bool (x : PyData) : kitB (tyN x) "bool" = some (isBool x) := by cases x <;> rfl
theorem kit_tuple (x : PyData) : kitB (tyN x) "tuple" = some (isTup x) := by cases x <;> rfl
theorem kit_list (x : PyData) : kitB (tyN x) "list" = some (isLst x) := by cases x <;> rfl
theorem kit_str (x : PyData) : kitB (tyN x) "str" = some (isStr x) := by cases x <;> rfl
/-! ### calls by data -/
theorem cd_len0 {r : List V → Hp → VK → Prop} (hr : r = fun xs H Q => ∃ x n, xs = [x] ∧ LenV K x H n ∧ Q (.int n) H := by rfl) : CD K r [.list ds] (.int (ds.length : Nat)) := fun B Γ σ F H vs I hv Q q => by
  subst hr
  cases hv with
  | cons h1 h2 =>
    cases h2
    cases h1 with
    | @lst a xs _ h3 _ h4 => exact ⟨_, _, rfl, .inl ⟨xs, ex_l I.ex h3, rfl⟩, by rw [h4.len]; exact q _ F H (I.push (Dq.int _)) (Ex.refl F)⟩
theorem cd_lenT0 {r : List V → Hp → VK → Prop} (hr : r = fun xs H Q => ∃ x n, xs = [x] ∧ LenV K x H n ∧ Q (.int n) H := by rfl) : CD K r [.tuple ds] (.int (ds.length : Nat)) := fun B Γ σ F H vs I hv Q q => by
  subst hr
  cases hv with
  | cons h1 h2 =>
    cases h2
    cases h1 with
    | @tup a xs _ h3 _ h4 => exact ⟨_, _, rfl, .inr ⟨xs, ex_t I.ex h3, rfl⟩, by rw [h4.len]; exact q _ F H (I.push (Dq.int _)) (Ex.refl F)⟩
theorem cd_all {bs : List Bool} : CD K (rAll K) [.list (bs.map .bool)] (.bool (bs.all id)) := fun B Γ σ F H vs I hv Q q => by
  cases hv with
  | cons h1 h2 =>
    cases h2
    cases h1 with
    | @lst a xs _ h3 _ h4 => exact ⟨a, bs, rfl, by rw [← h4.bools_inv]; exact ex_l I.ex h3, q _ F H (I.push (Dq.bl _)) (Ex.refl F)⟩
theorem cd_any {bs : List Bool} : CD K (rAny K) [.list (bs.map .bool)] (.bool (bs.any id)) := fun B Γ σ F H vs I hv Q q => by
  cases hv with
  | cons h1 h2 =>
    cases h2
    cases h1 with
    | @lst a xs _ h3 _ h4 => exact ⟨a, bs, rfl, by rw [← h4.bools_inv]; exact ex_l I.ex h3, q _ F H (I.push (Dq.bl _)) (Ex.refl F)⟩
theorem cd_sum {ns : List Int} : CD K (rSum K) [.list (ns.map .int)] (.int ns.sum) := fun B Γ σ F H vs I hv Q q => by
  cases hv with
  | cons h1 h2 =>
    cases h2
    cases h1 with
    | @lst a xs _ h3 _ h4 => exact ⟨a, ns, rfl, by rw [← h4.ints_inv]; exact ex_l I.ex h3, q _ F H (I.push (Dq.int _)) (Ex.refl F)⟩
/-- the greatest, the least -/
def maxL (ns : List Int) : Int := ns.tail.foldl max (ns.headD 0)
def minL (ns : List Int) : Int := ns.tail.foldl min (ns.headD 0)
theorem foldl_max (l : List Int) : ∀ a : Int, (l.foldl max a = a ∨ l.foldl max a ∈ l) ∧ a ≤ l.foldl max a ∧ ∀ y ∈ l, y ≤ l.foldl max a := by
  induction l with
  | nil => exact fun a => ⟨.inl rfl, Int.le_refl a, fun _ h => nomatch h⟩
  | cons b r ih =>
    intro a
    obtain ⟨h1, h2, h3⟩ := ih (max a b)
    rw [List.foldl_cons]
    refine ⟨?_, by omega, fun y hy => ?_⟩
    · rcases h1 with h1 | h1
      · rw [h1]
        by_cases c : a ≤ b
        · exact .inr (by rw [show max a b = b by omega]; exact List.mem_cons_self)
        · exact .inl (by omega)
      · exact .inr (List.mem_cons_of_mem _ h1)
    · rcases List.mem_cons.mp hy with e | hy
      · subst e; omega
      · exact h3 y hy
theorem foldl_min (l : List Int) : ∀ a : Int, (l.foldl min a = a ∨ l.foldl min a ∈ l) ∧ l.foldl min a ≤ a ∧ ∀ y ∈ l, l.foldl min a ≤ y := by
  induction l with
  | nil => exact fun a => ⟨.inl rfl, Int.le_refl a, fun _ h => nomatch h⟩
  | cons b r ih =>
    intro a
    obtain ⟨h1, h2, h3⟩ := ih (min a b)
    rw [List.foldl_cons]
    refine ⟨?_, by omega, fun y hy => ?_⟩
    · rcases h1 with h1 | h1
      · rw [h1]
        by_cases c : a ≤ b
        · exact .inl (by omega)
        · exact .inr (by rw [show min a b = b by omega]; exact List.mem_cons_self)
      · exact .inr (List.mem_cons_of_mem _ h1)
    · rcases List.mem_cons.mp hy with e | hy
      · subst e; omega
      · exact h3 y hy
theorem maxL_mem {ns : List Int} (h : ns ≠ []) : maxL ns ∈ ns ∧ ∀ y ∈ ns, y ≤ maxL ns := by
  cases ns with
  | nil => exact absurd rfl h
  | cons a r =>
    obtain ⟨h1, h2, h3⟩ := foldl_max r a
    refine ⟨?_, fun y hy => ?_⟩
    · rcases h1 with h1 | h1
      · show r.foldl max a ∈ a :: r
        rw [h1]; exact List.mem_cons_self
      · exact List.mem_cons_of_mem _ h1
    · rcases List.mem_cons.mp hy with e | hy
      · subst e; exact h2
      · exact h3 y hy
theorem minL_mem {ns : List Int} (h : ns ≠ []) : minL ns ∈ ns ∧ ∀ y ∈ ns, minL ns ≤ y := by
  cases ns with
  | nil => exact absurd rfl h
  | cons a r =>
    obtain ⟨h1, h2, h3⟩ := foldl_min r a
    refine ⟨?_, fun y hy => ?_⟩
    · rcases h1 with h1 | h1
      · show r.foldl min a ∈ a :: r
        rw [h1]; exact List.mem_cons_self
      · exact List.mem_cons_of_mem _ h1
    · rcases List.mem_cons.mp hy with e | hy
      · subst e; exact h2
      · exact h3 y hy
theorem cd_max {ns : List Int} (hn : ns ≠ []) : CD K (rMax K) [.list (ns.map .int)] (.int (maxL ns)) := fun B Γ σ F H vs I hv Q q => by
  cases hv with
  | cons h1 h2 =>
    cases h2
    cases h1 with
    | @lst a xs _ h3 _ h4 =>
      refine ⟨a, ns, rfl, by rw [← h4.ints_inv]; exact ex_l I.ex h3, List.length_pos_iff.mpr hn, fun m hm hle => ?_⟩
      obtain ⟨k1, k2⟩ := maxL_mem hn
      have e : m = maxL ns := Int.le_antisymm (k2 m hm) (hle _ k1)
      rw [e]; exact q _ F H (I.push (Dq.int _)) (Ex.refl F)
theorem cd_min {ns : List Int} (hn : ns ≠ []) : CD K (rMin K) [.list (ns.map .int)] (.int (minL ns)) := fun B Γ σ F H vs I hv Q q => by
  cases hv with
  | cons h1 h2 =>
    cases h2
    cases h1 with
    | @lst a xs _ h3 _ h4 =>
      refine ⟨a, ns, rfl, by rw [← h4.ints_inv]; exact ex_l I.ex h3, List.length_pos_iff.mpr hn, fun m hm hle => ?_⟩
      obtain ⟨k1, k2⟩ := minL_mem hn
      have e : m = minL ns := Int.le_antisymm (hle _ k1) (k2 m hm)
      rw [e]; exact q _ F H (I.push (Dq.int _)) (Ex.refl F)
theorem cd_max2 {a b : Int} {r : List V → Hp → VK → Prop} (hr : r = fun xs H Q => ∃ i j, xs = [.int i, .int j] ∧ Q (.int (if j > i then j else i)) H := by rfl) : CD K r [.int a, .int b] (.int (max a b)) := fun B Γ σ F H vs I hv Q q => by
  subst hr
  cases hv with
  | cons h1 h2 =>
    cases h2 with
    | cons h2 h3 =>
      cases h3
      cases h1
      cases h2
      have e : (if b > a then b else a) = max a b := by split <;> omega
      exact ⟨a, b, rfl, by rw [e]; exact q _ F H (I.push (Dq.int _)) (Ex.refl F)⟩
theorem cd_min2 {a b : Int} {r : List V → Hp → VK → Prop} (hr : r = fun xs H Q => ∃ i j, xs = [.int i, .int j] ∧ Q (.int (if j < i then j else i)) H := by rfl) : CD K r [.int a, .int b] (.int (min a b)) := fun B Γ σ F H vs I hv Q q => by
  subst hr
  cases hv with
  | cons h1 h2 =>
    cases h2 with
    | cons h2 h3 =>
      cases h3
      cases h1
      cases h2
      have e : (if b < a then b else a) = min a b := by split <;> omega
      exact ⟨a, b, rfl, by rw [e]; exact q _ F H (I.push (Dq.int _)) (Ex.refl F)⟩
/-- list(..), tuple(..) -/
theorem co_list0 {r : List V → Hp → VK → Prop} (hr : r = fun xs H Q => ∃ p ys, xs = [.ref p] ∧ (SqL K H p ys ∨ SqT K H p ys) ∧ ∀ l, H l = none → Q (.ref l) (upd H l (.lst ys)) := by rfl) (hx : x = .list ds ∨ x = .tuple ds) : CO K r [x] ds := fun B Γ σ F H vs I hv Q q => by
  subst hr
  cases hv with
  | cons h1 h2 =>
    cases h2
    rcases hx with hx | hx
    · subst hx
      cases h1 with
      | @lst a xs _ h3 hz h4 => exact ⟨a, xs, rfl, .inl (ex_l I.ex h3), fun l hl => q l _ (I.pushL hl hz h4)⟩
    · subst hx
      cases h1 with
      | @tup a xs _ h3 hz h4 => exact ⟨a, xs, rfl, .inr (ex_t I.ex h3), fun l hl => q l _ (I.pushL hl hz h4)⟩
theorem cd_tuple0 {r : List V → Hp → VK → Prop} (hr : r = fun xs H Q => ∃ p ys, xs = [.ref p] ∧ ((SqL K H p ys ∧ ∀ l, H l = none → Q (.ref l) (upd H l (.tup ys))) ∨ (SqT K H p ys ∧ Q (.ref p) H)) := by rfl) (hx : x = .list ds ∨ x = .tuple ds) : CD K r [x] (.tuple ds) := fun B Γ σ F H vs I hv Q q => by
  subst hr
  cases hv with
  | cons h1 h2 =>
    cases h2
    rcases hx with hx | hx
    · subst hx
      cases h1 with
      | @lst a xs _ h3 hz h4 =>
        refine ⟨a, xs, rfl, .inl ⟨ex_l I.ex h3, fun l hl => ?_⟩⟩
        have eF : Ex F (upd F l (.tup xs)) := Ex.new (I.nF hl)
        exact q _ _ _ ((I.alloc hl).push (Dq.tup (.inl (.inl upd_same)) hz (DqAll.mono eF _ _ h4))) eF
    · subst hx
      cases h1 with
      | @tup a xs _ h3 hz h4 => exact ⟨a, xs, rfl, .inr ⟨ex_t I.ex h3, q _ F H (I.push (Dq.tup h3 hz h4)) (Ex.refl F)⟩⟩
/-- in -/
theorem rd_inI {neg : Bool} {n : Int} {ns : List Int} (hx : x = .list (ns.map .int) ∨ x = .tuple (ns.map .int)) : RD K (rIn K neg) (.int n) x (.bool (if neg then !decide (n ∈ ns) else decide (n ∈ ns))) := fun B Γ σ F H v w I hv hw Q q => by
  cases hv
  have e1 : inV (.int n) (ns.map V.int) = decide (n ∈ ns) := by
    unfold inV
    rw [List.any_map]
    have : ((fun y => eqV y (.int n)) ∘ V.int) = fun m : Int => decide (m = n) := by
      funext m
      show eqV (.int m) (.int n) = _
      show (m == n) = decide (m = n)
      rw [Bool.beq_eq_decide_eq]
    rw [this]
    by_cases h : n ∈ ns
    · rw [decide_eq_true h, List.any_eq_true]; exact ⟨n, h, by simp⟩
    · rw [decide_eq_false h, List.any_eq_false]; intro m hm; simp; intro e; exact h (e ▸ hm)
  have e2 : (ns.map V.int).all flatV = true := by
    rw [List.all_eq_true]; intro y hy; obtain ⟨m, _, rfl⟩ := List.mem_map.mp hy; rfl
  rcases hx with hx | hx
  · subst hx
    cases hw with
    | @lst a xs _ h3 _ h4 =>
      rw [h4.ints_inv] at h3
      exact ⟨a, _, rfl, .inl (ex_l I.ex h3), rfl, e2, by rw [e1]; exact q _ F H (I.push (Dq.bl _)) (Ex.refl F)⟩
  · subst hx
    cases hw with
    | @tup a xs _ h3 _ h4 =>
      rw [h4.ints_inv] at h3
      exact ⟨a, _, rfl, .inr (ex_t I.ex h3), rfl, e2, by rw [e1]; exact q _ F H (I.push (Dq.bl _)) (Ex.refl F)⟩
/-! ### slices -/
def OPt (to : TO) (Γ : List Sl) (o : Option Int) : Prop := ∀ (B : Bs) (σ : St) (F H : Hp), Ok B Γ σ F H → ∀ Q : Option Int → Hp → Prop, (∀ F' H', Ok B Γ σ F' H' → Ex F F' → Q o H') → to σ H Q
theorem op_no : OPt tNoPart Γ none := fun B σ F H I Q q => q F H I (Ex.refl F)
theorem op_some {n : Int} (h : EP te Γ (Da K (.int n))) : OPt (tPart te) Γ (some n) := fun B σ F H I Q q => h B σ F H I _ fun Γ1 s1 v F1 H1 ⟨a, b⟩ I1 e1 => by
  subst a b
  obtain ⟨v', e, hv⟩ := Ok.head I1
  cases e
  cases hv
  exact ⟨n, rfl, q F1 H1 (Ok.pop I1) e1⟩
theorem OPt.under {to : TO} {o : Option Int} (h : OPt to Γ o) (hl : τ.length = Δ.length) (I : Ok B (Δ ++ Γ) (τ ++ σ) F H) {Q : Option Int → Hp → Prop} (q : ∀ F' H', Ok B (Δ ++ Γ) (τ ++ σ) F' H' → Ex F F' → Q o H') : to σ H Q := by
  obtain ⟨B', I', c⟩ := TL.under hl I
  exact h B' σ F H I' Q fun F' H' b e => q F' H' (c _ _ _ _ b) e
def cutD (xs : List PyData) (lo hi : Option Int) : List PyData := (xs.drop (HT.sIx xs.length 0 lo)).take (HT.sIx xs.length xs.length hi - HT.sIx xs.length 0 lo)
theorem cutD_all {xs : List V} {lo hi : Option Int} (h : DqAll K F xs ds) : DqAll K F (cutV xs lo hi) (cutD ds lo hi) := by
  unfold cutV cutD
  rw [h.len]
  exact (h.drop _).take _
theorem cutD_len {lo hi : Option Int} : (cutD ds lo hi).length ≤ ds.length := by
  unfold cutD; rw [List.length_take, List.length_drop]; omega
theorem ep_slT {tl th : TO} {lo hi : Option Int} (h : EP te Γ (Da K (.tuple ds))) (h1 : OPt tl Γ lo) (h2 : OPt th Γ hi) : EP (tSl (rSlA K) te tl th) Γ (Da K (.tuple (cutD ds lo hi))) := fun B σ F H I Q q => h B σ F H I _ fun Γ1 s1 v F1 H1 ⟨a, b⟩ I1 e1 => by
  subst a b
  refine h1.under (τ := [some v]) (Δ := [Da K (.tuple ds)]) rfl I1 fun F2 H2 I2 e2 => ?_
  refine h2.under (τ := [some v]) (Δ := [Da K (.tuple ds)]) rfl I2 fun F3 H3 I3 e3 => ?_
  obtain ⟨v', e, hv⟩ := Ok.head I3
  cases e
  have I4 := Ok.pop I3
  have eA := (e1.trans e2).trans e3
  cases hv with
  | @tup p xs _ h3 hz h4 =>
    refine ⟨p, xs, rfl, ex_t I3.ex h3, fun hw => ?_, fun hw p' hp => ?_⟩
    · have ec : cutD ds lo hi = ds := by
        obtain ⟨w1, w2⟩ := hw
        unfold cutD
        rw [← h4.len, w1, w2, List.drop_zero, h4.len, Nat.sub_zero, List.take_length]
      rw [ec] at q
      exact q _ _ _ F3 H3 ⟨rfl, rfl⟩ (I4.push (Dq.tup h3 hz h4)) eA
    · have eF : Ex F3 (upd F3 p' (.tup (cutV xs lo hi))) := Ex.new (I4.nF hp)
      exact q _ _ _ _ _ ⟨rfl, rfl⟩ ((I4.alloc hp).push (Dq.tup (.inl (.inl upd_same)) (Nat.le_trans cutD_len hz) (DqAll.mono eF _ _ (cutD_all h4)))) (eA.trans eF)
theorem eo_slL {tl th : TO} {lo hi : Option Int} (h : EP te Γ (Da K (.list ds))) (h1 : OPt tl Γ lo) (h2 : OPt th Γ hi) : EO (tSl (rSlL K) te tl th) Γ (oL K) (cutD ds lo hi) := fun B σ F H I Q q => h B σ F H I _ fun Γ1 s1 v F1 H1 ⟨a, b⟩ I1 e1 => by
  subst a b
  refine h1.under (τ := [some v]) (Δ := [Da K (.list ds)]) rfl I1 fun F2 H2 I2 e2 => ?_
  refine h2.under (τ := [some v]) (Δ := [Da K (.list ds)]) rfl I2 fun F3 H3 I3 e3 => ?_
  obtain ⟨v', e, hv⟩ := Ok.head I3
  cases e
  have I4 := Ok.pop I3
  cases hv with
  | @lst p xs _ h3 hz h4 => exact ⟨p, xs, rfl, ex_l I3.ex h3, fun p' hp => q _ _ _ F3 _ ⟨rfl, p', rfl⟩ (I4.pushL hp (Nat.le_trans cutD_len hz) (cutD_all h4)) ((e1.trans e2).trans e3)⟩
theorem eo_revL (h : EP te Γ (Da K (.list ds))) : EO (tRevL K te) Γ (oL K) ds.reverse := fun B σ F H I Q q => h B σ F H I _ fun Γ1 s1 v F1 H1 ⟨a, b⟩ I1 e1 => by
  subst a b
  obtain ⟨v', e, hv⟩ := Ok.head I1
  cases e
  cases hv with
  | @lst p xs _ h3 hz h4 => exact ⟨p, xs, rfl, ex_l I1.ex h3, fun p' hp => q _ _ _ F1 _ ⟨rfl, p', rfl⟩ ((Ok.pop I1).pushL hp (by rw [List.length_reverse]; exact hz) h4.reverse) e1⟩
end
end TL
namespace TL
open PySem L2
/-- a def that stands at the module's name x and keeps its promise -/
def Has (P : Program) (w : World) (K : PySem.W.Frag) (mg : Str → Option Value) (base : Heap) (k : Nat) (x : Str) (ps : List Str) (sp : Sp) : Prop :=
  ∃ fd : FuncData, mg x = some (.ref (He.ga K x)) ∧ PySem.W.keepIn K (.ref (He.ga K x)) = true ∧ Binds K fd ps [] ∧ FnOk P w K mg base (L2N.CX P w) k (He.ga K x) fd ps sp
end TL
namespace TL
open PySem L2
open Evl (Ex)
def Sl.plain : Sl → Bool
  | .own _ _ _ => false
  | _ => true
theorem noOwn {Γ : List Sl} {vs : List Nat} (h : (vs.all fun j => match Γ[j]? with
    | some s => s.plain
    | none => true) = true := by rfl) : NoOwn Γ vs := fun j hj α p o a e => by
  have := List.all_eq_true.mp h j hj
  rw [e] at this
  cases this
section
variable {K : PySem.W.Frag} {B : Bs} {Γ Δ Γ' : List Sl} {te ta tb tc tl : TE} {tt tu : TT} {vs : List Nat} {ds es : List PyData} {wi : TI} {g : TG} {α : Type} {xs : List α} {e : α → PyData} {f : α → Bool} {w : α → PyData} {j : Nat}
theorem filt_true {β : Type} (l : List β) : l.filter (fun _ => true) = l := List.filter_eq_self.mpr fun _ _ => rfl
theorem ep_andF (h : EP ta Γ (Da K (.bool false))) : EP (tAndV ta tb) Γ (Da K (.bool false)) := ep_andV (b := true) h fun z => absurd z Bool.false_ne_true
theorem ep_orT (h : EP ta Γ (Da K (.bool true))) : EP (tOrV ta tb) Γ (Da K (.bool true)) := ep_orV (b := true) h fun z => absurd z.symm Bool.false_ne_true
theorem ep_andT {b : Bool} (h : EP ta Γ (Da K (.bool true))) (h2 : EP tb Γ (Da K (.bool b))) : EP (tAndV ta tb) Γ (Da K (.bool b)) := (ep_andV (b := b) h fun _ => h2).is (by rw [Bool.true_and])
theorem ep_orF {b : Bool} (h : EP ta Γ (Da K (.bool false))) (h2 : EP tb Γ (Da K (.bool b))) : EP (tOrV ta tb) Γ (Da K (.bool b)) := (ep_orV (b := b) h fun _ => h2).is (by rw [Bool.false_or])
theorem tp_andF (h : TP tt Γ false) : TP (tAnd tt tu) Γ false := tp_and (b := true) h fun z => absurd z Bool.false_ne_true
theorem tp_orT (h : TP tt Γ true) : TP (tOr tt tu) Γ true := tp_or (b := true) h fun z => absurd z.symm Bool.false_ne_true
theorem tp_andT {b : Bool} (h : TP tt Γ true) (h2 : TP tu Γ b) : TP (tAnd tt tu) Γ b := (tp_and (b := b) h fun _ => h2).is (by rw [Bool.true_and])
theorem tp_orF {b : Bool} (h : TP tt Γ false) (h2 : TP tu Γ b) : TP (tOr tt tu) Γ b := (tp_or (b := b) h fun _ => h2).is (by rw [Bool.false_or])
/-- a comprehension to a name, its test the usual ones; the element's slots are those of Γ with the target set -/
theorem eo_lcN {ws : List PyData} (hi : IP K wi Γ (xs.map e)) (ht : ∀ x ∈ xs, TP tt ((wipeL Γ [j]).set j (Da K (e x))) (f x)) (he : ∀ x ∈ xs, f x = true → EP te ((wipeL Γ [j]).set j (Da K (e x))) (Da K (w x))) (hw : (xs.filter f).map w = ws) (hv : NoOwn Γ [j] := by exact noOwn) : EO (tLc wi (gName j) tt te [j]) Γ (oL K) ws := by
  subst hw
  refine eo_lc hi hv fun x hx => ⟨_, gp_name (List.mem_singleton.mpr rfl), ?_, ht x hx, he x hx⟩
  show ((((Γ.set j .no).set j (Da K (e x))).set j .no)) = Γ.set j .no
  rw [List.set_set, List.set_set]
/-- .. without a test -/
theorem eo_map {ws : List PyData} (hi : IP K wi Γ (xs.map e)) (he : ∀ x ∈ xs, EP te ((wipeL Γ [j]).set j (Da K (e x))) (Da K (w x))) (hw : xs.map w = ws) (hv : NoOwn Γ [j] := by exact noOwn) : EO (tLc wi (gName j) tYes te [j]) Γ (oL K) ws :=
  eo_lcN (f := fun _ => true) hi (fun _ _ => tp_yes) (fun x hx _ => he x hx) (by rw [filt_true]; exact hw) hv
/-- .. over pairs, without a test -/
theorem eo_map2 {ws : List PyData} {i : Nat} {p q : α → PyData} (hi : IP K wi Γ (xs.map fun x => .tuple [p x, q x])) (he : ∀ x ∈ xs, EP te (((wipeL Γ [i, j]).set i (Da K (p x))).set j (Da K (q x))) (Da K (w x))) (hw : xs.map w = ws) (hij : i ≠ j := by decide) (hv : NoOwn Γ [i, j] := by exact noOwn) :
    EO (tLc wi (gTup K 2 (gCons (gName i) (gCons (gName j) gNil))) tYes te [i, j]) Γ (oL K) ws := by
  subst hw
  have h := eo_lc (f := fun _ => true) (w := w) hi hv (tt := tYes) (te := te) (g := gTup K 2 (gCons (gName i) (gCons (gName j) gNil))) fun x hx => ⟨_, gp_tup2 (by simp) (by simp), ?_, tp_yes, fun _ => he x hx⟩
  · rw [filt_true] at h
    exact h
  · show (((((Γ.set j .no).set i .no).set i (Da K (p x))).set j (Da K (q x))).set j .no).set i .no = (Γ.set j .no).set i .no
    rw [List.set_set, List.set_set, List.set_comm _ _ (Ne.symm hij), List.set_set, List.set_comm _ _ hij, List.set_set]
theorem eo_lc2 {ws : List PyData} {i : Nat} {p q : α → PyData} (hi : IP K wi Γ (xs.map fun x => .tuple [p x, q x])) (ht : ∀ x ∈ xs, TP tt (((wipeL Γ [i, j]).set i (Da K (p x))).set j (Da K (q x))) (f x)) (he : ∀ x ∈ xs, f x = true → EP te (((wipeL Γ [i, j]).set i (Da K (p x))).set j (Da K (q x))) (Da K (w x))) (hw : (xs.filter f).map w = ws) (hij : i ≠ j := by decide) (hv : NoOwn Γ [i, j] := by exact noOwn) :
    EO (tLc wi (gTup K 2 (gCons (gName i) (gCons (gName j) gNil))) tt te [i, j]) Γ (oL K) ws := by
  subst hw
  refine eo_lc hi hv fun x hx => ⟨_, gp_tup2 (by simp) (by simp), ?_, ht x hx, he x hx⟩
  show (((((Γ.set j .no).set i .no).set i (Da K (p x))).set j (Da K (q x))).set j .no).set i .no = (Γ.set j .no).set i .no
  rw [List.set_set, List.set_set, List.set_comm _ _ (Ne.symm hij), List.set_set, List.set_comm _ _ hij, List.set_set]
theorem IP.is (h : IP K wi Γ ds) (e : ds = es) : IP K wi Γ es := by subst e; exact h
theorem cutD_from {n : Nat} : cutD ds (some (n : Int)) none = ds.drop n := by
  unfold cutD
  rw [HT.sIx_nat, HT.sIx_none]
  by_cases h : n ≤ ds.length
  · rw [Nat.min_eq_left h, ← List.length_drop, List.take_length]
  · rw [Nat.min_eq_right (by omega), List.drop_length, List.take_nil, List.drop_eq_nil_of_le (by omega)]
theorem cutD_to {n : Nat} : cutD ds none (some (n : Int)) = ds.take n := by
  unfold cutD
  rw [HT.sIx_nat, HT.sIx_none, List.drop_zero, Nat.sub_zero]
  by_cases h : n ≤ ds.length
  · rw [Nat.min_eq_left h]
  · rw [Nat.min_eq_right (by omega), List.take_length, List.take_of_length_le (by omega)]
theorem tp_notF (h : TP tt Γ true) : TP (tNot tt) Γ false := tp_not h
theorem tp_notT (h : TP tt Γ false) : TP (tNot tt) Γ true := tp_not h
theorem ep_notF (h : EP ta Γ (Da K (.bool true))) : EP (tNotV ta) Γ (Da K (.bool false)) := ep_notV h
theorem ep_notT (h : EP ta Γ (Da K (.bool false))) : EP (tNotV ta) Γ (Da K (.bool true)) := ep_notV h
theorem map_bool (l : List α) (f : α → Bool) : l.map (fun x => PyData.bool (f x)) = (l.map f).map .bool := by rw [List.map_map]; rfl
theorem rng_get {a b x : Int} {i : Nat} (h : (rng a b)[i]? = some x) : x = a + i := by
  unfold rng at h
  rw [List.getElem?_map] at h
  obtain ⟨k, h1, h2⟩ := Option.map_eq_some_iff.mp h
  obtain ⟨h3, h4⟩ := List.getElem?_eq_some_iff.mp h1
  rw [List.getElem_range] at h4
  subst h4; exact h2.symm
theorem mem_rng {a b x : Int} : x ∈ rng a b ↔ a ≤ x ∧ x < b := by
  unfold rng
  rw [List.mem_map]
  constructor
  · rintro ⟨i, hi, rfl⟩
    have := List.mem_range.mp hi
    omega
  · rintro ⟨h1, h2⟩
    exact ⟨(x - a).toNat, List.mem_range.mpr (by omega), by omega⟩
/-- zip of tuples -/
theorem ip_zipT {ta : TA} (h : AP ta Γ [Da K (.tuple ds), Da K (.tuple es)]) : IP K (RZ.iZipA K ta) Γ (zipP ds es) := fun B σ F H I R q => h B σ F H I _ fun Γ1 ss ws F1 H1 ⟨a, b⟩ hn I1 e1 => by
  subst a b
  obtain ⟨ha, I2⟩ := Ok.all (xs := [PyData.tuple ds, PyData.tuple es]) (by simpa using hn) I1
  cases ha with
  | cons hv hr =>
    cases hr with
    | cons hv2 hr2 =>
      cases hr2
      cases hv with
      | @tup a xs _ hs hz hc =>
        cases hv2 with
        | @tup b ys _ hs2 hz2 hc2 =>
          refine ⟨a, b, xs, ys, rfl, .inr ⟨Evl.ex_t I2.ex hs, Evl.ex_t I2.ex hs2, q _ F1 H1 I2 e1 (fun i F2 H2 e2 e3 => ⟨fun d hd => ?_, fun hl => ?_⟩) (by rw [zipP_len]; exact Nat.le_trans (Nat.min_le_left _ _) hz)⟩⟩
          · obtain ⟨p1, p2, h1, h2, h3⟩ := zipP_get hd
            obtain ⟨u, hu, du⟩ := hc.get h1
            obtain ⟨w, hw, dw⟩ := hc2.get h2
            refine ⟨⟨xs, ys, u, w, Evl.ex_t (e2.trans e3) hs, Evl.ex_t (e2.trans e3) hs2, hu, hw⟩, fun x H3 hy => ?_⟩
            obtain ⟨A', x', y', e4, hA, eH, hx, hy'⟩ := hy
            subst e4 h3
            have ew := hx xs (Evl.ex_t (e2.trans e3) hs)
            rw [hu] at ew
            cases ew
            have ew := hy' ys (Evl.ex_t (e2.trans e3) hs2)
            rw [hw] at ew
            cases ew
            exact new_pair e3 hA eH (Dq.mono e2 _ _ du) (Dq.mono e2 _ _ dw)
          · rw [zipP_len] at hl
            exact ⟨xs, ys, Evl.ex_t (e2.trans e3) hs, Evl.ex_t (e2.trans e3) hs2, by rw [hc.len, hc2.len]; omega⟩
/-- pairs of two mapped lists -/
theorem zipP_map {β : Type} {p : α → PyData} {q : β → PyData} {xs : List α} {ys : List β} : zipP (xs.map p) (ys.map q) = (xs.zip ys).map fun z => .tuple [p z.1, q z.2] := by
  unfold zipP
  rw [List.zipWith_map, List.zip, List.map_zipWith]
theorem enumP_map {p : α → PyData} {xs : List α} : enumP (xs.map p) = ((List.range xs.length).zip xs).map fun z => .tuple [.int (z.1 : Nat), p z.2] := by
  unfold enumP
  rw [List.length_map, List.zipWith_map_right, List.zip, List.map_zipWith]
end
end TL
/-! TL6: the layer's rules with the written part named once (K), so that a comprehension's parts read alike. -/
namespace TL
open PySem L2
section
variable {X : Cx} {e o : Expr} {es : List Expr} {te ta : TE} {t : TA}
def rLenK (K : PySem.W.Frag) : List V → Hp → VK → Prop := fun xs H Q => ∃ x n, xs = [x] ∧ LenV K x H n ∧ Q (.int n) H
def rListK (K : PySem.W.Frag) : List V → Hp → VK → Prop := fun xs H Q => ∃ p ys, xs = [.ref p] ∧ (SqL K H p ys ∨ SqT K H p ys) ∧ ∀ l, H l = none → Q (.ref l) (upd H l (.lst ys))
def rTupK (K : PySem.W.Frag) : List V → Hp → VK → Prop := fun xs H Q => ∃ p ys, xs = [.ref p] ∧ ((SqL K H p ys ∧ ∀ l, H l = none → Q (.ref l) (upd H l (.tup ys))) ∨ (SqT K H p ys ∧ Q (.ref p) H))
theorem kLen (K : PySem.W.Frag) (h : X.K = K := by rfl) : CallR X (.builtin "len") (rLenK K) := by subst h; exact call_len
theorem kIsi (K : PySem.W.Frag) (h : X.K = K := by rfl) : CallR X (.builtin "isinstance") (rIsi K) := by subst h; exact call_isi
theorem kAll (K : PySem.W.Frag) (hc : X.calm = true := by rfl) (h : X.K = K := by rfl) : CallR X (.builtin "all") (rAll K) := by subst h; exact cr_all hc
theorem kAny (K : PySem.W.Frag) (hc : X.calm = true := by rfl) (h : X.K = K := by rfl) : CallR X (.builtin "any") (rAny K) := by subst h; exact cr_any hc
theorem kSum (K : PySem.W.Frag) (hc : X.calm = true := by rfl) (h : X.K = K := by rfl) : CallR X (.builtin "sum") (rSum K) := by subst h; exact cr_sum hc
theorem kMin (K : PySem.W.Frag) (hc : X.calm = true := by rfl) (h : X.K = K := by rfl) : CallR X (.builtin "min") (rMin K) := by subst h; exact cr_min hc
theorem kMax (K : PySem.W.Frag) (hc : X.calm = true := by rfl) (h : X.K = K := by rfl) : CallR X (.builtin "max") (rMax K) := by subst h; exact cr_max hc
theorem kList (K : PySem.W.Frag) (h : X.K = K := by rfl) : CallR X (.type "list") (rListK K) := by subst h; exact call_list_of
theorem kTuple (K : PySem.W.Frag) (h : X.K = K := by rfl) : CallR X (.type "tuple") (rTupK K) := by subst h; exact call_tuple_of
theorem kIxT (K : PySem.W.Frag) (h : X.K = K := by rfl) : IxR X (rIxT K) := by subst h; exact ix_tup
theorem kIxL (K : PySem.W.Frag) (h : X.K = K := by rfl) : IxR X (rIxL K) := by subst h; exact ix_list
theorem kSlT (K : PySem.W.Frag) (h : X.K = K := by rfl) : SlR X (rSlA K) := by subst h; exact sl_tupA
theorem kSlL (K : PySem.W.Frag) (h : X.K = K := by rfl) : SlR X (rSlL K) := by subst h; exact sl_list
theorem kCatT (K : PySem.W.Frag) (h : X.K = K := by rfl) : OpR X (binaryOp .Add) (rCatA K) := by subst h; exact op_catA
theorem kCatL (K : PySem.W.Frag) (h : X.K = K := by rfl) : OpR X (binaryOp .Add) (rCatS K) := by subst h; exact op_catS
theorem kIn (K : PySem.W.Frag) (h : X.K = K := by rfl) : OpR X (compareOp .In) (rIn K false) := by subst h; exact op_in_seq
theorem kNotIn (K : PySem.W.Frag) (h : X.K = K := by rfl) : OpR X (compareOp .NotIn) (rIn K true) := by subst h; exact op_notIn_seq
theorem kEq (K : PySem.W.Frag) (hu : X.A.units + 64 < cLine) (h : X.K = K := by rfl) : OpR X (compareOp .Eq) (rEqD K) := by subst h; exact op_eqD hu
theorem kNe (K : PySem.W.Frag) (hu : X.A.units + 64 < cLine) (h : X.K = K := by rfl) : OpR X (compareOp .NotEq) (rNeD K) := by subst h; exact op_neD hu
theorem kpi_list {tg : Expr} (K : PySem.W.Frag) (hl : PE X e te) (h : X.K = K := by rfl) : PI X tg e (iList K te) := by subst h; exact pi_list hl
theorem kpi_tup {tg : Expr} (K : PySem.W.Frag) (hl : PE X e te) (h : X.K = K := by rfl) : PI X tg e (iTup K te) := by subst h; exact pi_tup hl
theorem kpi_enum (K : PySem.W.Frag) {p pos tpos : Pos} {elts : List Expr} {kk : Nat} (hg : Gl X "enumerate") (hm : X.mg "enumerate" = none) (ha : PA X [e] t) (hs : starEach [e] X.env = [(false, eval e X.env)] := by rfl) (h : X.K = K := by rfl) :
    PI X (.Tuple elts kk tpos) (.Call (.Name "enumerate" p) [e] [] pos) (iEnum K t) := by subst h; exact pi_enum hg hm ha hs
theorem kpi_zip (K : PySem.W.Frag) {e2 : Expr} {p pos tpos : Pos} {elts : List Expr} {kk : Nat} (hg : Gl X "zip") (hm : X.mg "zip" = none) (ha : PA X [e, e2] t) (hs : starEach [e, e2] X.env = (false, eval e X.env) :: starEach [e2] X.env := by rfl)
    (hpl : (backTo pos (starEach [e2] X.env)).any (·.1) = false := by rfl) (h : X.K = K := by rfl) : PI X (.Tuple elts kk tpos) (.Call (.Name "zip" p) [e, e2] [] pos) (iZip K t) := by subst h; exact pi_zip hg hm ha hs hpl
theorem kpi_zipA (K : PySem.W.Frag) {e2 : Expr} {p pos tpos : Pos} {elts : List Expr} {kk : Nat} (hg : Gl X "zip") (hm : X.mg "zip" = none) (ha : PA X [e, e2] t) (hs : starEach [e, e2] X.env = (false, eval e X.env) :: starEach [e2] X.env := by rfl)
    (hpl : (backTo pos (starEach [e2] X.env)).any (·.1) = false := by rfl) (h : X.K = K := by rfl) : PI X (.Tuple elts kk tpos) (.Call (.Name "zip" p) [e, e2] [] pos) (RZ.iZipA K t) := by subst h; exact RZ.pi_zipA hg hm ha hs hpl
theorem kpg_tup (K : PySem.W.Frag) {k n : Nat} {pos : Pos} {tt : TGs} (hc : X.calm = true) (g : PGs X es tt) (hn : (assignEach es X.env).length = n := by rfl) (hst : (assignEach es X.env).findIdx? (·.1) = none := by rfl) (h : X.K = K := by rfl) :
    PG X (.Tuple es k pos) (gTup K n tt) := by subst h; exact pg_tup hc g hn hst
theorem kRevL (K : PySem.W.Frag) {k : Nat} {p1 p2 p3 pos : Pos} (he : PE X e te) (h : X.K = K := by rfl) : PE X (.Subscript e (.Slice none none (some (.UnaryOp .USub (.Constant (.int 1) k p1) p2)) p3) pos) (tRevL K te) := by subst h; exact pe_revL he
theorem kApp (K : PySem.W.Frag) {apos cpos : Pos} (ho : PE X o te) (ha : PA X (e :: es) t)
    (hbase : attributeBase o "append" X.env (eval o X.env) = eval o X.env := by rfl)
    (hfew : ((backTo cpos (starEach (e :: es) X.env)).all (fun x => !x.1) && (backToKw cpos (keywordEach [] X.env)).all (fun x => x.1.isSome)
      && decide ((e :: es).length + ([] : List Keyword).length + (if ([] : List Keyword).isEmpty then 0 else 1) < 30)) = true := by rfl)
    (hline : (apos.endLine == cpos.line) = true := by rfl) (hs : starEach (e :: es) X.env = (false, eval e X.env) :: starEach es X.env := by rfl) (hplain : (backTo cpos (starEach es X.env)).any (·.1) = false := by rfl) (h : X.K = K := by rfl) :
    PE X (.Call (.Attribute o "append" apos) (e :: es) [] cpos) (tBM K "list" rAppend te t) := by
  subst h
  exact pe_bm PySem.F.plainAttrs_list PySem.F.slot_list_append PySem.F.type_list_append mt_append ho ha hbase hfew hline hs hplain
end
section
variable {K : PySem.W.Frag} {B : Bs} {Γ Δ Γ' : List Sl} {te ta tb tc tl : TE} {tt tu : TT} {vs : List Nat} {ds es : List PyData} {x : PyData}
theorem cd_len {ds : List PyData} : CD K (rLenK K) [.list ds] (.int (ds.length : Nat)) := TL.cd_len0
theorem cd_lenT : CD K (rLenK K) [.tuple ds] (.int (ds.length : Nat)) := TL.cd_lenT0
theorem co_list (hx : x = .list ds ∨ x = .tuple ds) : CO K (rListK K) [x] ds := TL.co_list0 rfl hx
theorem cd_tuple (hx : x = .list ds ∨ x = .tuple ds) : CD K (rTupK K) [x] (.tuple ds) := TL.cd_tuple0 rfl hx
end
end TL
/-! TL7: steps with effects; a deck of drawn numbers handed from def to def. -/
namespace TL
open PySem L2
open Evl (Ex ex_l ex_t)
section
variable {K : PySem.W.Frag} {B : Bs} {Γ Δ Γ' : List Sl} {σ τ : St} {F F' H H' : Hp} {s : Sl} {v : V} {te ta tb tc tl : TE} {tt tu : TT} {t u : TS} {D : AD} {d e x y z : PyData} {i j : Nat} {vs : List Nat} {ds es : List PyData} {k : List Sl → Sl → Prop}
theorem OkF.perm {L L' : List (List Addr)} (h : OkF B Γ σ F H L) {Γ' : List Sl} {σ' : St} (g : SlsOk F H σ' Γ' L') (nd : L'.flatten.Nodup) (m : ∀ q ∈ L'.flatten, q ∈ L.flatten) : OkF B Γ' σ' F H L' :=
  ⟨g, nd, fun q z => h.fz q (m q z), h.ex, h.bF, h.bG, h.bK, h.bD, fun q z => h.bO q (m q z)⟩
theorem part_nodup : ∀ {L : List (List Addr)} {fp : List Addr}, L.flatten.Nodup → fp ∈ L → fp.Nodup
  | a :: r, fp, h, m => by
    rw [List.flatten_cons, List.nodup_append] at h
    rcases List.mem_cons.mp m with e | m
    · rw [e]; exact h.1
    · exact part_nodup h.2.1 m
/-- the two parts change places -/
theorem Ok.rot (h : Ok B (Δ ++ Γ) (τ ++ σ) F H) (hl : τ.length = Δ.length) : Ok B (Γ ++ Δ) (σ ++ τ) F H := by
  obtain ⟨L, h⟩ := h
  obtain ⟨f₁, f₂, e, g1, g2⟩ := split hl h.sl
  subst e
  refine ⟨f₂ ++ f₁, h.perm (g2.append g1) ?_ fun q z => ?_⟩
  · have nd := h.nd
    rw [List.flatten_append, List.nodup_append] at nd ⊢
    exact ⟨nd.2.1, nd.1, fun x hx y hy e => nd.2.2 y hy x hx e.symm⟩
  · rw [List.flatten_append] at z ⊢
    exact List.mem_append.mpr (List.mem_append.mp z).symm
/-- a slot's object taken to the head -/
theorem Ok.lift (h : Ok B Γ σ F H) (e : Γ[i]? = some s) : ∃ x, σ[i]? = some x ∧ Ok B (s :: Γ.set i .no) (x :: σ.set i none) F H := by
  obtain ⟨L, h⟩ := h
  obtain ⟨x, fp, e1, e2, u⟩ := h.sl.get e
  refine ⟨x, e1, fp :: L.set i [], h.perm (.cons u (h.sl.set .no)) ?_ fun q z => ?_⟩
  · rw [List.flatten_cons, List.nodup_append]
    refine ⟨?_, nodup_drop h.nd, fun a ha b hb e => ?_⟩
    · obtain ⟨hi, e3⟩ := List.getElem?_eq_some_iff.mp e2
      exact part_nodup h.nd (List.mem_of_getElem? e2)
    · subst e
      exact apart h.nd e2 ha hb
  · rw [List.flatten_cons] at z
    rcases List.mem_append.mp z with z | z
    · exact mem_at e2 z
    · exact (mem_set z).elim id fun z => nomatch z
theorem atI_nat' {α : Type} {l : List α} {r : Int} (h0 : 0 ≤ r) (h : r.toNat < l.length) : atI l r = some l[r.toNat] := by
  unfold atI ixN
  rw [if_pos h0, if_pos (by omega)]
  show l[r.toNat]? = _
  rw [List.getElem?_eq_getElem h]
/-- two operands, whatever they do -/
theorem e_op {r : R2} (h : E ta Γ fun Γ1 s1 => ∃ x, s1 = Da K x ∧ E tb Γ1 fun Γ2 s2 => ∃ y z, s2 = Da K y ∧ RD K r x y z ∧ k Γ2 (Da K z)) : E (tOp r ta tb) Γ k := fun B σ F H I Q q =>
  h B σ F H I _ fun Γ1 s1 v F1 H1 ⟨x, e, hb⟩ I1 e1 => by
    subst e
    refine E.under hb (τ := [some v]) (Δ := [Da K x]) rfl I1 fun Γ2 s2 w F2 H2 ⟨y, z, e, hr, hk⟩ I2 e2 => ?_
    subst e
    obtain ⟨v', h1, hv⟩ := Ok.head I2
    cases h1
    obtain ⟨w', h2, hw⟩ := Ok.head (Ok.pop I2)
    cases h2
    exact hr B _ _ F2 H2 v w (Ok.pop (Ok.pop I2)) hv hw Q fun u F3 H3 I3 e3 => q _ _ u F3 H3 hk I3 ((e1.trans e2).trans e3)
/-- a test of a truth value, whatever it does -/
theorem t_test {k : List Sl → Bool → Prop} (h : E te Γ fun Γ1 s1 => ∃ b, s1 = Da K (.bool b) ∧ k Γ1 b) : T (tTest te) Γ k := fun B σ F H I Q q => h B σ F H I _ fun Γ1 s1 v F1 H1 ⟨b, e, hk⟩ I1 e1 => by
  subst e
  obtain ⟨v', e, hv⟩ := Ok.head I1
  cases e
  cases hv
  exact ⟨b, rfl, q _ _ F1 H1 hk (Ok.pop I1) e1⟩
theorem t_B {k : List Sl → Bool → Prop} (h : E te Γ fun Γ1 s1 => ∃ b, s1 = Da K (.bool b) ∧ k Γ1 b) : T (tB te) Γ k := fun B σ F H I Q q => h B σ F H I _ fun Γ1 s1 v F1 H1 ⟨b, e, hk⟩ I1 e1 => by
  subst e
  obtain ⟨v', e, hv⟩ := Ok.head I1
  cases e
  cases hv
  exact ⟨b, rfl, q _ _ F1 H1 hk (Ok.pop I1) e1⟩
/-- arguments, whatever they do -/
theorem a_nil {k : List Sl → List Sl → Prop} (h : k Γ []) : A tNil Γ k := fun B σ F H I Q q => q _ _ [] F H h rfl I (Ex.refl F)
theorem a_cons {tr : TA} {k : List Sl → List Sl → Prop} (h : E ta Γ fun Γ1 s1 => A tr Γ1 fun Γ2 ss => k Γ2 (s1 :: ss)) : A (tCons ta tr) Γ k := fun B σ F H I Q q =>
  h B σ F H I _ fun Γ1 s1 v F1 H1 hr I1 e1 => by
    refine A.under hr (τ := [some v]) (Δ := [s1]) rfl I1 fun Γ2 ss w F2 H2 hk n I2 e2 => ?_
    exact q _ (s1 :: ss) (v :: w) F2 H2 hk (by simp [n]) I2 (e1.trans e2)
theorem AP.to {ta : TA} {ss : List Sl} {k : List Sl → List Sl → Prop} (h : AP ta Γ ss) (w : k Γ ss) : A ta Γ k := fun B σ F H I Q q => h B σ F H I Q fun Γ' s' v F' H' ⟨a, b⟩ n c e => by subst a b; exact q _ _ v F' H' w n c e
theorem e_cb {r : List V → Hp → VK → Prop} {t : TA} (h : A t Γ fun Γ1 ss => ∃ xs z, ss = xs.map (Da K) ∧ CD K r xs z ∧ k Γ1 (Da K z)) : E (tCB r t) Γ k := fun B σ F H I Q q =>
  h B σ F H I _ fun Γ1 ss vs F1 H1 ⟨xs, z, a, hr, hk⟩ n I1 e1 => by
    subst a
    obtain ⟨h1, h2⟩ := Ok.all (by simpa using n) I1
    exact hr B _ _ F1 H1 vs h2 h1 Q fun u F3 H3 I3 e3 => q _ _ u F3 H3 hk I3 (e1.trans e3)
theorem e_tup {t : TA} (h : A t Γ fun Γ1 ss => ∃ xs, ss = xs.map (Da K) ∧ xs.length ≤ wee ∧ k Γ1 (Da K (.tuple xs))) : E (tTup t) Γ k := fun B σ F H I Q q =>
  h B σ F H I _ fun Γ1 ss vs F1 H1 ⟨xs, a, hz, hk⟩ n I1 e1 => by
    subst a
    obtain ⟨h1, h2⟩ := Ok.all (by simpa using n) I1
    refine ⟨Nat.le_trans (by rw [h1.len]; exact hz) (by decide), fun p hp => ?_⟩
    have eF : Ex F1 (upd F1 p (.tup vs)) := Ex.new (h2.nF hp)
    exact q _ _ _ (upd F1 p (.tup vs)) _ hk ((h2.alloc hp).push (Dq.tup (.inl (.inl upd_same)) hz (DqAll.mono eF _ _ h1))) (e1.trans eF)
/-- a list made, frozen or not -/
theorem e_cbO {r : List V → Hp → VK → Prop} {t : TA} (h : A t Γ fun Γ1 ss => ∃ xs ds, ss = xs.map (Da K) ∧ CO K r xs ds ∧ ∀ p, k Γ1 (.own p (oL K) ds)) : E (tCB r t) Γ k := fun B σ F H I Q q =>
  h B σ F H I _ fun Γ1 ss vs F1 H1 ⟨xs, ds, a, hr, hk⟩ n I1 e1 => by
    subst a
    obtain ⟨h1, h2⟩ := Ok.all (by simpa using n) I1
    exact hr B _ _ F1 H1 vs h2 h1 Q fun p H3 I3 => q _ _ _ F1 H3 (hk p) I3 e1
/-- what is new is frozen -/
theorem e_frz (h : E te Γ fun Γ1 s1 => (∃ p ds, s1 = .own p (oL K) ds ∧ k Γ1 (Da K (.list ds)))) : E te Γ k := fun B σ F H I Q q => h B σ F H I Q fun Γ' s v F' H' ⟨p, ds, a, hk⟩ c e => by
  subst a
  obtain ⟨F2, e1, e2, c2⟩ := c.freeze
  exact q _ _ v F2 H' hk c2 (e.trans e2)
theorem q_asgGE {g : TG} (h : E te Γ fun Γ1 s => ∃ d vs Γ', s = Da K d ∧ GP K g d vs Γ1 Γ' ∧ S B u Γ' D) : S B (tSeq (tAsg te g) u) Γ D := fun σ F H I D' hn hr hb hc =>
  h B σ F H I _ fun Γ1 s1 v F1 H1 ⟨d, vs, Γ', e, hg, m⟩ I1 e1 => by
    subst e
    obtain ⟨v', ev, hv⟩ := Ok.head I1
    cases ev
    exact hg B σ F1 H1 v (Ok.pop I1) hv _ fun σ' _ I2 => m _ F1 H1 I2 D' (fun a b c d p q r => hn a b c d p q (e1.trans r)) (fun a b c d f g p q r => hr a b c d f g p q (e1.trans r)) (fun a b c d p q r => hb a b c d p q (e1.trans r)) (fun a b c d p q r => hc a b c d p q (e1.trans r))
/-- a, b = x, y -/
theorem q_par {ta : TA} (h : A ta Γ fun Γ1 ss => ∃ x y, ss = [Da K x, Da K y] ∧ S B u ((Γ1.set i (Da K x)).set j (Da K y)) D) : S B (tSeq (tPar i j ta) u) Γ D := fun σ F H I D' hn hr hb hc =>
  h B σ F H I _ fun Γ1 ss vs F1 H1 ⟨x, y, a, m⟩ n I1 e1 => by
    subst a
    match vs, n with
    | [v, w], _ =>
      obtain ⟨v', ev, hv⟩ := Ok.head I1
      cases ev
      obtain ⟨w', ew, hw⟩ := Ok.head (Ok.pop I1)
      cases ew
      exact ⟨v, w, rfl, m _ F1 H1 (((Ok.pop (Ok.pop I1)).setv (.val hv)).setv (.val hw)) D' (fun a b c d p q r => hn a b c d p q (e1.trans r)) (fun a b c d f g p q r => hr a b c d f g p q (e1.trans r)) (fun a b c d p q r => hb a b c d p q (e1.trans r)) (fun a b c d p q r => hc a b c d p q (e1.trans r))⟩
theorem set_self {α : Type _} {l : List α} {i : Nat} {a : α} (e : l[i]? = some a) : l.set i a = l := by
  obtain ⟨h, e⟩ := List.getElem?_eq_some_iff.mp e
  rw [← e]; exact List.set_getElem_self h
theorem e_lcE {α : Type} {xs : List α} {en : α → PyData} {wi : TI} {g : TG} (hi : IP K wi Γ (xs.map en)) (Inv : Nat → List PyData → List Sl → Prop) (h0 : Inv 0 [] Γ)
    (hs : ∀ (i : Nat) (x : α) (acc : List PyData) (Γ1 : List Sl), xs[i]? = some x → acc.length ≤ i → Inv i acc Γ1 → NoOwn Γ1 vs ∧ ∃ Γi, GP K g (en x) vs (wipeL Γ1 vs) Γi ∧ T tt Γi fun Γ2 b =>
      (b = false → ∃ Γ3, wipeL Γ2 vs = wipeL Γ3 vs ∧ (∀ j ∈ vs, Γ3[j]? = Γ1[j]?) ∧ Γ3.length = Γ1.length ∧ Inv (i + 1) acc Γ3) ∧
      (b = true → E te Γ2 fun Γ2' s => ∃ y Γ3, s = Da K y ∧ wipeL Γ2' vs = wipeL Γ3 vs ∧ (∀ j ∈ vs, Γ3[j]? = Γ1[j]?) ∧ Γ3.length = Γ1.length ∧ Inv (i + 1) (acc ++ [y]) Γ3))
    (hd : ∀ acc Γ1, acc.length ≤ xs.length → Inv xs.length acc Γ1 → ∀ p, k Γ1 (.own p (oL K) acc)) : E (tLc wi g tt te vs) Γ k := fun B σ F H I Q q => by
  refine hi B σ F H I _ fun J F1 H1 I1 e1 tn hz D hD => ?_
  rw [List.length_map] at hz
  refine ⟨fun i m H' => m = xs.length - i ∧ i ≤ xs.length ∧ ∃ acc Γ1 F', acc.length ≤ i ∧ Inv i acc Γ1 ∧ Ok B (.own D (oL K) acc :: Γ1) (some (.ref D) :: σ) F' H' ∧ Ex F1 F', ⟨_, rfl, Nat.zero_le _, [], Γ, F1, Nat.zero_le _, h0, I1.pushL hD (Nat.zero_le _) .nil, Ex.refl _⟩, ?_⟩
  rintro i m H' ⟨rfl, hi', acc, Γ1, F', ha, hv, I', e'⟩
  by_cases hlt : i < xs.length
  · have hx : xs[i]? = some xs[i] := List.getElem?_eq_getElem hlt
    obtain ⟨go, yl⟩ := (tn i F' H' e' I'.ex).1 (en xs[i]) (by rw [List.getElem?_map, hx]; rfl)
    refine .inr ⟨go, fun H2 => ∃ acc Γ1 F', acc.length ≤ i + 1 ∧ Inv (i + 1) acc Γ1 ∧ Ok B (.own D (oL K) acc :: Γ1) (some (.ref D) :: σ) F' H2 ∧ Ex F1 F', fun H2 w => ⟨xs.length - (i + 1), by omega, rfl, hlt, w⟩, fun x H3 hy => ?_⟩
    obtain ⟨F3, carry, e3, dx⟩ := yl x H3 hy
    have I3 := carry _ _ _ I'
    obtain ⟨no, Γi, hg, hT⟩ := hs i xs[i] acc Γ1 hx ha hv
    obtain ⟨B', Iw, back⟩ := TL.under (τ := [some (.ref D)]) (Δ := [.own D (oL K) acc]) rfl I3
    have pl : ∀ {F' H' : Hp}, Ex F3 F' → ∀ j ∈ vs, ∀ s, Γ1[j]? = some s → ∃ x, σ[j]? = some x ∧ SlOk F' H' x s [] := fun e => Iw.plain no e
    refine hg B' _ F3 H3 x (Iw.wipe (vs := vs)) dx _ fun σ2 es I4 => ⟨es.trans wipe_wipe, ?_⟩
    have es' : L2.wipe σ2 vs = L2.wipe σ vs := es.trans wipe_wipe
    refine hT B' σ2 F3 H3 I4 _ fun Γ2 b F5 H5 ⟨hF, hT'⟩ I5 e5 => ?_
    cases b with
    | false =>
      show ∃ acc Γ1 F', _
      obtain ⟨Γ3, w1, w2, w3, w4⟩ := hF rfl
      exact ⟨acc, Γ3, F5, by omega, w4, back _ _ _ _ (I5.back es' w1 (by rw [w3]; exact Iw.lens) fun j hj s z => pl e5 j hj s (by rw [← w2 j hj]; exact z)), (e'.trans e3).trans e5⟩
    | true =>
      show te σ2 H5 _
      refine hT' rfl B' σ2 F5 H5 I5 _ fun Γ6 s6 y F6 H6 ⟨d, Γ3, w0, w1, w2, w3, w4⟩ I6 e6 => ?_
      subst w0
      obtain ⟨y', ey, dy⟩ := Ok.head I6
      cases ey
      have I7 := back _ _ _ _ ((Ok.pop I6).back es' w1 (by rw [w3]; exact Iw.lens) fun j hj s z => pl (e5.trans e6) j hj s (by rw [← w2 j hj]; exact z))
      obtain ⟨ac, _, hA, hl, I8⟩ := Ok.appL I7 dy (by omega)
      exact ⟨ac, hA, by rw [hl]; exact Nat.lt_of_le_of_lt (Nat.le_trans ha (Nat.le_trans hi' hz)) (by decide), acc ++ [d], Γ3, F6, by rw [List.length_append]; simp; omega, w4, I8, ((e'.trans e3).trans e5).trans e6⟩
  · have ei : i = xs.length := by omega
    subst ei
    exact .inl ⟨(tn _ F' H' e' I'.ex).2 (by simp), q _ _ _ F' H' (hd acc Γ1 ha hv D) I' (e1.trans e')⟩
end
end TL
/-! Mirror1: what the defs of pieces, places, sizes come to, in plain Lean; what each promises. -/
namespace Q
open PySem TL

def okI (lo hi i : Int) : Bool := decide (lo ≤ i) && decide (i ≤ hi)
def isFrom (v : PyData) (lo hi : Int) : Bool :=
  match v with
  | .int i => okI lo hi i
  | _ => false
def ltD : PyData → Bool
  | .tuple [.int a, .int b] => decide (a < b)
  | _ => false
def ascD (ds : List PyData) : Bool := (zipP ds (ds.drop 1)).all ltD
def goodBeats (c : Int) (v : PyData) : Bool :=
  match v with
  | .tuple ds => ds.all (fun d => isFrom d 0 (c - 1)) && ascD ds
  | _ => false
def isPiece : PyData → Bool
  | .tuple [.int c, b] => okI 1 60 c && goodBeats c b
  | _ => false
def isChoir : PyData → Bool
  | .tuple [.int s, .int b, .int h] => okI 1 30 s && (okI 1 60 b && okI 0 s h)
  | _ => false
def tI (l : List Int) : PyData := .tuple (l.map .int)
def lI (l : List Int) : PyData := .list (l.map .int)
def pcD (c : Int) (al : List Int) : PyData := .tuple [.int c, tI al]
def chD (s b h : Int) : PyData := .tuple [.int s, .int b, .int h]
structure ValidP (c : Int) (al : List Int) : Prop where
  c1 : 1 ≤ c
  c2 : c ≤ 60
  asc : al.Pairwise (· < ·)
  lo : ∀ x ∈ al, 0 ≤ x
  hi : ∀ x ∈ al, x < c
structure ValidC (s b h : Int) : Prop where
  s1 : 1 ≤ s
  s2 : s ≤ 30
  b1 : 1 ≤ b
  b2 : b ≤ 60
  h1 : 0 ≤ h
  h2 : h ≤ s
/-- places in a stretch -/
def inW (st b x : Int) : Bool := decide (st ≤ x) && decide (x ≤ st + b)
def cnt (al : List Int) (st b : Int) : Int := ((al.filter (inW st b)).length : Nat)
def wc (c b : Int) (al : List Int) : List Int := (rng 0 (c - b)).map fun st => cnt al st b
def en (c : Int) (al : List Int) (s b h : Int) : Bool := (wc c b al).all fun m => decide (s ≤ (s - h) * m)

/-! ### the checks of data and the plain ones -/
def ascI (ns : List Int) : Bool := (ns.zip (ns.drop 1)).all fun z => decide (z.1 < z.2)
theorem ascD_ints (ns : List Int) : ascD (ns.map .int) = ascI ns := by
  unfold ascD ascI
  rw [← List.map_drop, zipP_map, List.all_map]
  rfl
theorem all_ints {lo hi : Int} : ∀ {ds : List PyData}, ds.all (fun d => isFrom d lo hi) = true → ∃ ns : List Int, ds = ns.map .int ∧ ∀ n ∈ ns, lo ≤ n ∧ n ≤ hi
  | [], _ => ⟨[], rfl, fun _ h => nomatch h⟩
  | d :: ds, h => by
    rw [List.all_cons, Bool.and_eq_true] at h
    obtain ⟨ns, e, hn⟩ := all_ints h.2
    cases d with
    | int i =>
      have h1 : (decide (lo ≤ i) && decide (i ≤ hi)) = true := h.1
      rw [Bool.and_eq_true, decide_eq_true_eq, decide_eq_true_eq] at h1
      exact ⟨i :: ns, by rw [e]; rfl, fun n hm => (List.mem_cons.mp hm).elim (fun z => z ▸ h1) (hn n)⟩
    | _ => exact absurd h.1 Bool.false_ne_true
theorem ints_all {lo hi : Int} {ns : List Int} (h : ∀ n ∈ ns, lo ≤ n ∧ n ≤ hi) : (ns.map PyData.int).all (fun d => isFrom d lo hi) = true := by
  rw [List.all_map, List.all_eq_true]
  intro n hn
  show (decide (lo ≤ n) && decide (n ≤ hi)) = true
  rw [Bool.and_eq_true, decide_eq_true_eq, decide_eq_true_eq]
  exact h n hn
theorem ascI_iff : ∀ {ns : List Int}, ascI ns = true ↔ ns.Pairwise (· < ·)
  | [] => by simp [ascI]
  | [a] => by simp [ascI]
  | a :: b :: r => by
    have ih := ascI_iff (ns := b :: r)
    have e : ascI (a :: b :: r) = (decide (a < b) && ascI (b :: r)) := rfl
    rw [e, Bool.and_eq_true, ih, decide_eq_true_eq]
    constructor
    · rintro ⟨h1, h2⟩
      refine List.pairwise_cons.mpr ⟨fun x hx => ?_, h2⟩
      rcases List.mem_cons.mp hx with e | hx
      · rw [e]; exact h1
      · exact Int.lt_trans h1 ((List.pairwise_cons.mp h2).1 x hx)
    · intro h
      obtain ⟨h1, h2⟩ := List.pairwise_cons.mp h
      exact ⟨h1 b List.mem_cons_self, h2⟩
theorem goodBeats_tI {c : Int} {al : List Int} (h : al.Pairwise (· < ·)) (h0 : ∀ x ∈ al, 0 ≤ x) (h1 : ∀ x ∈ al, x < c) : goodBeats c (tI al) = true := by
  show ((al.map PyData.int).all (fun d => isFrom d 0 (c - 1)) && ascD (al.map .int)) = true
  rw [ints_all fun n hn => ⟨h0 n hn, by have := h1 n hn; omega⟩, ascD_ints, ascI_iff.mpr h]
  rfl
theorem goodBeats_inv {c : Int} {v : PyData} (h : goodBeats c v = true) : ∃ al : List Int, v = tI al ∧ al.Pairwise (· < ·) ∧ (∀ x ∈ al, 0 ≤ x) ∧ ∀ x ∈ al, x < c := by
  cases v with
  | tuple ds =>
    have h' : (ds.all (fun d => isFrom d 0 (c - 1)) && ascD ds) = true := h
    rw [Bool.and_eq_true] at h'
    obtain ⟨ns, e, hn⟩ := all_ints h'.1
    subst e
    rw [ascD_ints] at h'
    exact ⟨ns, rfl, ascI_iff.mp h'.2, fun x hx => (hn x hx).1, fun x hx => by have := (hn x hx).2; omega⟩
  | _ => exact absurd h Bool.false_ne_true
theorem isFrom_int {lo hi i : Int} : isFrom (.int i) lo hi = true ↔ lo ≤ i ∧ i ≤ hi := by
  show (decide (lo ≤ i) && decide (i ≤ hi)) = true ↔ _
  rw [Bool.and_eq_true, decide_eq_true_eq, decide_eq_true_eq]
theorem isFrom_inv {v : PyData} {lo hi : Int} (h : isFrom v lo hi = true) : ∃ i, v = .int i ∧ lo ≤ i ∧ i ≤ hi := by
  cases v with
  | int i => exact ⟨i, rfl, isFrom_int.mp h⟩
  | _ => exact absurd h Bool.false_ne_true
theorem okI_iff {lo hi i : Int} : okI lo hi i = true ↔ lo ≤ i ∧ i ≤ hi := isFrom_int
theorem isPiece_pc {c : Int} {al : List Int} (h : ValidP c al) : isPiece (pcD c al) = true := by
  show (okI 1 60 c && goodBeats c (tI al)) = true
  rw [okI_iff.mpr ⟨h.c1, h.c2⟩, goodBeats_tI h.asc h.lo h.hi]
  rfl
theorem isPiece_inv {v : PyData} (h : isPiece v = true) : ∃ c al, v = pcD c al ∧ ValidP c al := by
  unfold isPiece at h
  split at h
  · rename_i c b
    rw [Bool.and_eq_true] at h
    obtain ⟨h1, h2⟩ := okI_iff.mp h.1
    obtain ⟨al, e, a1, a2, a3⟩ := goodBeats_inv h.2
    subst e
    exact ⟨c, al, rfl, h1, h2, a1, a2, a3⟩
  · cases h
theorem isChoir_ch {s b h : Int} (v : ValidC s b h) : isChoir (chD s b h) = true := by
  show (okI 1 30 s && (okI 1 60 b && okI 0 s h)) = true
  rw [okI_iff.mpr ⟨v.s1, v.s2⟩, okI_iff.mpr ⟨v.b1, v.b2⟩, okI_iff.mpr ⟨v.h1, v.h2⟩]
  rfl
theorem isChoir_inv {v : PyData} (h : isChoir v = true) : ∃ s b h, v = chD s b h ∧ ValidC s b h := by
  unfold isChoir at h
  split at h
  · rename_i s b u
    rw [Bool.and_eq_true, Bool.and_eq_true, okI_iff, okI_iff, okI_iff] at h
    obtain ⟨⟨h1, h2⟩, ⟨h3, h4⟩, h5, h6⟩ := h
    exact ⟨s, b, u, rfl, h1, h2, h3, h4, h5, h6⟩
  · cases h

/-! ### promises -/
def is_from : Rl := fun ds r => ∃ v lo hi, ds = [v, .int lo, .int hi] ∧ r = .ok (.bool (isFrom v lo hi))
def good_beats : Rl := fun ds r => ∃ c v, ds = [.int c, v] ∧ r = .ok (.bool (goodBeats c v))
def is_piece : Rl := fun ds r => ∃ v, ds = [v] ∧ r = .ok (.bool (isPiece v))
def is_choir : Rl := fun ds r => ∃ v, ds = [v] ∧ r = .ok (.bool (isChoir v))
def need_piece : Rl := fun ds r => ∃ v, ds = [v] ∧ r = if isPiece v = true then .ok .none else .error "InvalidPiece"
def need_choir : Rl := fun ds r => ∃ v u, ds = [v, u] ∧ r = if isPiece v = true then (if isChoir u = true then .ok .none else .error "InvalidChoir") else .error "InvalidPiece"
def window_counts : Rl := fun ds r => ∃ c al b, ValidP c al ∧ 0 ≤ b ∧ b ≤ 60 ∧ ds = [pcD c al, .int b] ∧ r = .ok (lI (wc c b al))
def enough : Rl := fun ds r => ∃ c al s b h, ValidP c al ∧ ValidC s b h ∧ ds = [pcD c al, chD s b h] ∧ r = .ok (.bool (en c al s b h))
/-- errors of a piece and a choir, then what is promised of valid ones -/
def PCerr (ds : List PyData) (r : Except Str PyData) (n : Nat) : Prop := ∃ v u l, ds = v :: u :: l ∧ l.length = n ∧ (isPiece v && isChoir u) = false ∧ r = if isPiece v = true then .error "InvalidChoir" else .error "InvalidPiece"
def can_sing : Rl := fun ds r => (∃ c al s b h, ValidP c al ∧ ValidC s b h ∧ ds = [pcD c al, chD s b h] ∧ r = .ok (.bool (en c al s b h))) ∨ PCerr ds r 0

theorem is_from_len : ∀ ds r, is_from ds r → ds.length = ["value", "low", "high"].length := by rintro ds r ⟨v, lo, hi, rfl, _⟩; rfl
theorem good_beats_len : ∀ ds r, good_beats ds r → ds.length = ["count", "value"].length := by rintro ds r ⟨c, v, rfl, _⟩; rfl
theorem is_piece_len : ∀ ds r, is_piece ds r → ds.length = ["value"].length := by rintro ds r ⟨v, rfl, _⟩; rfl
theorem is_choir_len : ∀ ds r, is_choir ds r → ds.length = ["value"].length := by rintro ds r ⟨v, rfl, _⟩; rfl
theorem need_piece_len : ∀ ds r, need_piece ds r → ds.length = ["piece"].length := by rintro ds r ⟨v, rfl, _⟩; rfl
theorem need_choir_len : ∀ ds r, need_choir ds r → ds.length = ["piece", "choir"].length := by rintro ds r ⟨v, u, rfl, _⟩; rfl
theorem window_counts_len : ∀ ds r, window_counts ds r → ds.length = ["piece", "breath"].length := by rintro ds r ⟨c, al, b, _, _, _, rfl, _⟩; rfl
theorem enough_len : ∀ ds r, enough ds r → ds.length = ["piece", "choir"].length := by rintro ds r ⟨c, al, s, b, h, _, _, rfl, _⟩; rfl
theorem can_sing_len : ∀ ds r, can_sing ds r → ds.length = ["piece", "choir"].length := by
  rintro ds r (⟨c, al, s, b, h, _, _, rfl, _⟩ | ⟨v, u, l, rfl, hl, _⟩)
  · rfl
  · simp [hl]
theorem isTup_no {v : PyData} (h : ¬ ∃ ds, v = .tuple ds) : isTup v = false := by
  cases v with
  | tuple ds => exact absurd ⟨ds, rfl⟩ h
  | _ => rfl
theorem isPiece_no {a b : PyData} (h : isFrom a 1 60 = false) : isPiece (.tuple [a, b]) = false := by
  cases a with
  | int c => show (okI 1 60 c && _) = false; rw [show okI 1 60 c = false from h]; rfl
  | _ => rfl
theorem isPiece_tup {v : PyData} (h : ¬ ∃ ds, v = .tuple ds) : isPiece v = false := by
  unfold isPiece
  split
  · exact absurd ⟨_, rfl⟩ h
  · rfl
theorem isPiece_len2 {ds : List PyData} (h : ¬ ∃ a b, ds = [a, b]) : isPiece (.tuple ds) = false := by
  unfold isPiece
  split
  · rename_i c b e
    cases e
    exact absurd ⟨_, _, rfl⟩ h
  · rfl
theorem two {α : Type} {ds : List α} (h : ds.length = 2) : ∃ a b, ds = [a, b] := match ds, h with
  | [a, b], _ => ⟨a, b, rfl⟩
theorem three {α : Type} {ds : List α} (h : ds.length = 3) : ∃ a b c, ds = [a, b, c] := match ds, h with
  | [a, b, c], _ => ⟨a, b, c, rfl⟩
theorem isChoir_tup {v : PyData} (h : ¬ ∃ ds, v = .tuple ds) : isChoir v = false := by
  unfold isChoir
  split
  · exact absurd ⟨_, rfl⟩ h
  · rfl
theorem isChoir_len3 {ds : List PyData} (h : ¬ ∃ a b c, ds = [a, b, c]) : isChoir (.tuple ds) = false := by
  unfold isChoir
  split
  · rename_i e
    cases e
    exact absurd ⟨_, _, _, rfl⟩ h
  · rfl
theorem isChoir_no {a b c : PyData} (h : isFrom a 1 30 = false ∨ isFrom b 1 60 = false) : isChoir (.tuple [a, b, c]) = false := by
  unfold isChoir
  split
  · rename_i s b u e
    cases e
    rcases h with h | h
    · rw [show okI 1 30 s = false from h]; rfl
    · rw [show okI 1 60 b = false from h]; simp
  · rfl
theorem isChoir_of {s b : Int} {c : PyData} (h1 : 1 ≤ s) (h2 : s ≤ 30) (h3 : 1 ≤ b) (h4 : b ≤ 60) : isChoir (.tuple [.int s, .int b, c]) = isFrom c 0 s := by
  cases c with
  | int u => show (okI 1 30 s && (okI 1 60 b && _)) = _; rw [okI_iff.mpr ⟨h1, h2⟩, okI_iff.mpr ⟨h3, h4⟩]; rfl
  | _ => rfl
theorem need_choir_ok {c : Int} {al : List Int} {s b h : Int} (hp : ValidP c al) (hc : ValidC s b h) : need_choir [pcD c al, chD s b h] (.ok .none) :=
  ⟨_, _, rfl, by rw [isPiece_pc hp, isChoir_ch hc]; rfl⟩
theorem need_choir_no {v u : PyData} (h : (isPiece v && isChoir u) = false) : need_choir [v, u] (if isPiece v = true then .error "InvalidChoir" else .error "InvalidPiece") := ⟨_, _, rfl, by
  cases hv : isPiece v with
  | true => rw [hv] at h; rw [show isChoir u = false from h]; rfl
  | false => rfl⟩
theorem pcerr_ne (v d : PyData) : (if isPiece v = true then (.error "InvalidChoir" : Except Str PyData) else .error "InvalidPiece") ≠ .ok d := by
  cases isPiece v <;> intro h <;> cases h
end Q
/-! Mirror2: what the laws' own helpers come to: the drawn numbers, pieces, choirs. -/
namespace Q
open PySem TL
def law_deck : Rl := fun ds r => ∃ c t : Int, ds = [.int c, .int t] ∧ r = .ok (.list [.int (if 10 ^ 18 ≤ c then c - 10 ^ 18 else 0), .int (c % 2147483579), .int t])
theorem law_deck_len : ∀ ds r, law_deck ds r → ds.length = ["cell", "turn"].length := by rintro ds r ⟨c, t, rfl, _⟩; rfl
def law_pick_pre (ds : List PyData) : Prop := ∃ m : Int, ds = [.int m] ∧ 1 ≤ m ∧ m ≤ 1000000
def law_pick_res (ds : List PyData) (d : PyData) : Prop := ∃ m r : Int, ds = [.int m] ∧ d = .int r ∧ 0 ≤ r ∧ r < m
theorem law_pick_len : ∀ ds, law_pick_pre ds → ds.length + 1 = ["deck", "limit"].length := by rintro ds ⟨m, rfl, _⟩; rfl
def law_one_pre (ds : List PyData) : Prop := ∃ l : List PyData, ds = [.list l] ∧ 1 ≤ l.length ∧ l.length ≤ 1000
def law_one_res (ds : List PyData) (d : PyData) : Prop := ∃ l : List PyData, ds = [.list l] ∧ d ∈ l
theorem law_one_len : ∀ ds, law_one_pre ds → ds.length + 1 = ["deck", "some"].length := by rintro ds ⟨m, rfl, _⟩; rfl
def law_song_pre (ds : List PyData) : Prop := ∃ a b : Int, ds = [.int a, .int b] ∧ 1 ≤ a ∧ a ≤ b ∧ b ≤ 60
def law_song_res (ds : List PyData) (d : PyData) : Prop := ∃ (a b c : Int) (al : List Int), ds = [.int a, .int b] ∧ d = pcD c al ∧ ValidP c al ∧ a ≤ c ∧ c ≤ b
theorem law_song_len : ∀ ds, law_song_pre ds → ds.length + 1 = ["deck", "few", "many"].length := by rintro ds ⟨a, b, rfl, _⟩; rfl
def law_group_pre (ds : List PyData) : Prop := ∃ a b : Int, ds = [.int a, .int b] ∧ 1 ≤ a ∧ a ≤ 30 ∧ 1 ≤ b ∧ b ≤ 60
def law_group_res (ds : List PyData) (d : PyData) : Prop := ∃ a b s r h : Int, ds = [.int a, .int b] ∧ d = chD s r h ∧ ValidC s r h ∧ s ≤ a ∧ r ≤ b
theorem law_group_len : ∀ ds, law_group_pre ds → ds.length + 1 = ["deck", "singers", "breath"].length := by rintro ds ⟨a, b, rfl, _⟩; rfl
end Q
/-! TL8: equality of data; lists that grow; loops that forget; draws among the arguments. -/
namespace TL
open PySem L2
open Evl (Ex ex_l ex_t)
/-! ### equality -/
def sh (n : Nat) (d : PyData) : Prop := d.canLay0 = true ∧ d.depth ≤ n
theorem sh.shaped {n : Nat} {d : PyData} (h : sh n d) (hn : n ≤ 64 := by decide) : SeqAt.shaped d = true := by
  unfold SeqAt.shaped
  rw [h.1, Bool.true_and]
  exact decide_eq_true (Nat.le_trans h.2 hn)
theorem sh_int {n : Nat} {i : Int} : sh n (.int i) := ⟨by simp only [PyData.canLay0], by simp only [PyData.depth]; exact Nat.zero_le _⟩
theorem sh_bool {n : Nat} {i : Bool} : sh n (.bool i) := ⟨by simp only [PyData.canLay0], by simp only [PyData.depth]; exact Nat.zero_le _⟩
theorem sh_none {n : Nat} : sh n .none := ⟨by simp only [PyData.canLay0], by simp only [PyData.depth]; exact Nat.zero_le _⟩
theorem sh_all {n : Nat} : ∀ {ds : List PyData}, (∀ d ∈ ds, sh n d) → PyData.canLayAll0 ds = true ∧ PyData.depthAll ds ≤ n
  | [], _ => ⟨by simp only [PyData.canLayAll0], by simp only [PyData.depthAll]; exact Nat.zero_le _⟩
  | d :: ds, h => by
    obtain ⟨a, b⟩ := sh_all fun x hx => h x (List.mem_cons_of_mem _ hx)
    obtain ⟨c, e⟩ := h d List.mem_cons_self
    refine ⟨by simp only [PyData.canLayAll0]; rw [a, c]; rfl, ?_⟩
    simp only [PyData.depthAll]
    omega
theorem sh_tup {n : Nat} {ds : List PyData} (h : ∀ d ∈ ds, sh n d) : sh (n + 1) (.tuple ds) := by
  obtain ⟨a, b⟩ := sh_all h
  exact ⟨by simp only [PyData.canLay0]; exact a, by simp only [PyData.depth]; omega⟩
theorem sh_lst {n : Nat} {ds : List PyData} (h : ∀ d ∈ ds, sh n d) : sh (n + 1) (.list ds) := by
  obtain ⟨a, b⟩ := sh_all h
  exact ⟨by simp only [PyData.canLay0]; exact a, by simp only [PyData.depth]; omega⟩
theorem sh_map {α : Type} {n : Nat} {l : List α} {e : α → PyData} (h : ∀ a, sh n (e a)) : ∀ d ∈ l.map e, sh n d := fun d hd => by
  obtain ⟨a, _, rfl⟩ := List.mem_map.mp hd
  exact h a
theorem sh.mono {n m : Nat} {d : PyData} (h : sh n d) (hm : n ≤ m) : sh m d := ⟨h.1, Nat.le_trans h.2 hm⟩
theorem sh_tI {l : List Int} : sh 1 (.tuple (l.map .int)) := sh_tup (sh_map fun _ => sh_int)
theorem sh_lI {l : List Int} : sh 1 (.list (l.map .int)) := sh_lst (sh_map fun _ => sh_int)
/-- data of one kind: equal if the things are -/
def EqvOk {α : Type} [DecidableEq α] (e : α → PyData) : Prop := ∀ a b, PyData.eqv (e a) (e b) = decide (a = b)
theorem eqv_int : EqvOk PyData.int := fun a b => by simp only [PyData.eqv]; rw [Bool.beq_eq_decide_eq]
theorem eqvAll_map {α : Type} [DecidableEq α] {e : α → PyData} (h : EqvOk e) : ∀ l m : List α, PyData.eqvAll (l.map e) (m.map e) = decide (l = m)
  | [], [] => by simp [PyData.eqvAll]
  | [], b :: m => by simp [PyData.eqvAll]
  | a :: l, [] => by simp [PyData.eqvAll]
  | a :: l, b :: m => by
    simp only [List.map_cons, PyData.eqvAll]
    rw [h a b, eqvAll_map h l m, ← Bool.decide_and]
    simp
theorem eqv_tup {α : Type} [DecidableEq α] {e : α → PyData} (h : EqvOk e) : EqvOk fun l : List α => PyData.tuple (l.map e) := fun l m => by
  simp only [PyData.eqv]; exact eqvAll_map h l m
theorem eqv_lst {α : Type} [DecidableEq α] {e : α → PyData} (h : EqvOk e) : EqvOk fun l : List α => PyData.list (l.map e) := fun l m => by
  simp only [PyData.eqv]; exact eqvAll_map h l m
theorem eqv_nil (ds : List PyData) : PyData.eqv (.list ds) (.list []) = decide (ds = []) := by
  cases ds <;> simp [PyData.eqv, PyData.eqvAll]
theorem eqv_nilT (ds : List PyData) : PyData.eqv (.tuple ds) (.tuple []) = decide (ds = []) := by
  cases ds <;> simp [PyData.eqv, PyData.eqvAll]
mutual
theorem eqv_self : ∀ {d : PyData}, d.canLay0 = true → PyData.eqv d d = true
  | .none, _ => by simp only [PyData.eqv]
  | .bool b, _ => by simp [PyData.eqv]
  | .int i, _ => by simp [PyData.eqv]
  | .str x, _ => by simp [PyData.eqv]
  | .list ds, h => by
    simp only [PyData.canLay0] at h
    simp only [PyData.eqv]; exact eqvAll_self h
  | .tuple ds, h => by
    simp only [PyData.canLay0] at h
    simp only [PyData.eqv]; exact eqvAll_self h
  | .dict _, h => by simp only [PyData.canLay0] at h; cases h
theorem eqvAll_self : ∀ {ds : List PyData}, PyData.canLayAll0 ds = true → PyData.eqvAll ds ds = true
  | [], _ => by simp only [PyData.eqvAll]
  | d :: ds, h => by
    simp only [PyData.canLayAll0, Bool.and_eq_true] at h
    simp only [PyData.eqvAll]
    rw [eqv_self h.1, eqvAll_self h.2]; rfl
end
section
variable {K : PySem.W.Frag} {B : Bs} {Γ Δ Γ' : List Sl} {σ τ : St} {F F' H H' : Hp} {s : Sl} {v : V} {te ta tb tc tl : TE} {tt tu : TT} {t u : TS} {D : AD} {d e x y z : PyData} {i j : Nat} {vs : List Nat} {ds es : List PyData} {k : List Sl → Sl → Prop} {g : TG} {wi : TI}
theorem rd_eqE {b : Bool} {n m : Nat} (hx : sh n x) (hy : sh m y) (hb : PyData.eqv x y = b) (h1 : n ≤ 64 := by decide) (h2 : m ≤ 64 := by decide) : RD K (rEqD K) x y (.bool b) := by subst hb; exact rd_eqD (hx.shaped h1) (hy.shaped h2)
theorem rd_neE {b : Bool} {n m : Nat} (hx : sh n x) (hy : sh m y) (hb : PyData.eqv x y = b) (h1 : n ≤ 64 := by decide) (h2 : m ≤ 64 := by decide) : RD K (rNeD K) x y (.bool (!b)) := by subst hb; exact rd_neD (hx.shaped h1) (hy.shaped h2)
theorem sh_nilL : sh 1 (.list []) := sh_lst fun _ h => nomatch h
theorem sh_nilT : sh 1 (.tuple []) := sh_tup fun _ h => nomatch h
theorem rd_eqL0 {ns : List Int} : RD K (rEqD K) (.list (ns.map .int)) (.list []) (.bool (decide (ns = []))) := rd_eqE sh_lI sh_nilL (by rw [eqv_nil]; simp)
theorem rd_neL0 {ns : List Int} : RD K (rNeD K) (.list (ns.map .int)) (.list []) (.bool (!decide (ns = []))) := rd_neE sh_lI sh_nilL (by rw [eqv_nil]; simp)
theorem ep_nil0 : EP (tLst tNil) Γ (Da K (.list [])) := EO.frz (eo_lst (xs := []) ap_nil (Nat.zero_le _))
/-- is None, is True -/
def isNoneD : PyData → Bool
  | .none => true
  | _ => false
theorem rd_isN {r : R2} (hr : r = fun x y H Q => y = .non ∧ Q (.bl (decide (x = .non))) H := by rfl) : RD K r x .none (.bool (isNoneD x)) := rd_v fun F H v w _ hv hw => by
  subst hr
  cases hw
  refine ⟨.bl (isNoneD x), Dq.bl _, fun Q q => ⟨rfl, ?_⟩⟩
  cases hv <;> exact q
theorem rd_notN {r : R2} (hr : r = fun x y H Q => y = .non ∧ Q (.bl (!decide (x = .non))) H := by rfl) : RD K r x .none (.bool (!isNoneD x)) := rd_v fun F H v w _ hv hw => by
  subst hr
  cases hw
  refine ⟨.bl (!isNoneD x), Dq.bl _, fun Q q => ⟨rfl, ?_⟩⟩
  cases hv <;> exact q
/-! ### slots -/
/-- a list of one's own stands still from now on -/
theorem s_frz {p : Addr} (e : Γ[i]? = some (.own p (oL K) ds)) (h : S B t (Γ.set i (Da K (.list ds))) D) : S B t Γ D := fun σ F H I D' hn hr hb hc => by
  obtain ⟨x, ex, I2⟩ := I.lift e
  obtain ⟨F', e1, e2, I3⟩ := I2.freeze
  have I4 := Ok.store (i := i) I3
  rw [List.set_set, List.set_set, set_self ex] at I4
  exact h σ F' H I4 D' (fun a b c d p q r => hn a b c d p q (e2.trans r)) (fun a b c d f g p q r => hr a b c d f g p q (e2.trans r)) (fun a b c d p q r => hb a b c d p q (e2.trans r)) (fun a b c d p q r => hc a b c d p q (e2.trans r))
theorem Ok.forgetG (h : Ok B Γ σ F H) : Ok B (Γ.set i .no) σ F H := by
  cases e : σ[i]? with
  | none =>
    have : Γ[i]? = none := by
      rw [List.getElem?_eq_none_iff] at e ⊢
      rw [← h.lens]; exact e
    rw [set_out this]; exact h
  | some x =>
    have h2 := h.forget (i := i) (x := x)
    rwa [set_self e] at h2
theorem s_forget (i : Nat) (h : S B t (Γ.set i .no) D) : S B t Γ D := fun σ F H I => h σ F H I.forgetG
theorem Ok.wipeG : ∀ {ms : List Nat}, Ok B Γ σ F H → Ok B (wipeL Γ ms) σ F H
  | [], h => h
  | m :: ms, h => (Ok.wipeG (ms := ms) h).forgetG
theorem s_wipe (ms : List Nat) (h : S B t (wipeL Γ ms) D) : S B t Γ D := fun σ F H I => h σ F H I.wipeG
/-- what is wanted, with slots forgotten first -/
theorem S.nxW {Nx : List Sl → Prop} (ms : List Nat) (h : S B t Γ { D with nx := fun Γ' => Nx (wipeL Γ' ms) }) : S B t Γ { D with nx := Nx } := fun σ F H I D' hn hr hb hc =>
  h σ F H I D' (fun Γ' σ' F' H' m I' e => hn _ σ' F' H' m I'.wipeG e) hr hb hc
/-- a loop that forgets the slots ms at each turn's end -/
theorem q_forM {α : Type} {xs : List α} {en : α → PyData} (ms : List Nat) (hi : IP K wi Γ (xs.map en)) (Inv : Nat → List Sl → Prop) (h0 : Inv 0 (wipeL Γ ms))
    (hs : ∀ (i : Nat) (x : α) (Γ1 : List Sl), xs[i]? = some x → Inv i Γ1 → ∃ Γ2 vs, GP K g (en x) vs Γ1 Γ2 ∧ S B t Γ2 { D with nx := fun Γ' => Inv (i + 1) (wipeL Γ' ms), ct := fun Γ' => Inv (i + 1) (wipeL Γ' ms), bk := fun Γ' => S B u Γ' D }) (hd : ∀ Γ1, Inv xs.length Γ1 → S B u Γ1 D) : S B (tSeq (tFor wi g t) u) Γ D := by
  refine q_for hi (fun i Γ1 => Inv i (wipeL Γ1 ms)) h0 (fun i x Γ1 hx hv => ?_) fun Γ1 hv => s_wipe ms (hd _ hv)
  obtain ⟨Γ2, vs, hg, hS⟩ := hs i x (wipeL Γ1 ms) hx hv
  exact ⟨Γ2, vs, fun B σ F H v I hq Q q => hg B σ F H v I.wipeG hq Q q, hS⟩
/-! ### x.append(e) on a list of one's own -/
theorem Ok.at_own {α : Type} {o : Ow α} {a : α} {p : Addr} (I : Ok B Γ σ F H) (e : Γ[i]? = some (.own p o a)) : σ[i]? = some (some (.ref p)) ∧ ∃ fp, o.O F H p fp a := by
  obtain ⟨L, h⟩ := I
  obtain ⟨x, fp, e1, e2, u⟩ := h.sl.get e
  cases u with
  | own ho => exact ⟨e1, fp, ho⟩
theorem e_app {p : Addr} (h : E te Γ fun Γ1 s1 => ∃ d ds, s1 = Da K d ∧ Γ1[i]? = some (.own p (oL K) ds) ∧ ds.length + 1 ≤ wee ∧ k (Γ1.set i (.own p (oL K) (ds ++ [d]))) (Da K .none)) (e0 : ∃ ds, Γ[i]? = some (.own p (oL K) ds)) :
    E (tBM K "list" rAppend (tVar i) (tCons te tNil)) Γ k := fun B σ F H I Q q => by
  obtain ⟨ds0, e0⟩ := e0
  obtain ⟨g1, fp, g2, xs0, g3, _⟩ := I.at_own e0
  refine ⟨_, g1, Or.inl ⟨rfl, xs0, SqL.of g3⟩, ?_⟩
  refine h B σ F H I _ fun Γ1 s1 v F1 H1 ⟨d, ds, e1, e2, hz, hk⟩ I1 e3 => ?_
  subst e1
  obtain ⟨v', ev, hv⟩ := Ok.head I1
  cases ev
  have I2 := Ok.pop I1
  obtain ⟨x, ex, I3⟩ := I2.lift e2
  have eg := (I2.at_own e2).1
  rw [ex] at eg
  cases eg
  obtain ⟨acc, _, hA, hl, I4⟩ := Ok.appL I3 hv hz
  refine ⟨p, acc, v, rfl, rfl, hA, ?_, ?_⟩
  · rw [hl]; exact Nat.lt_of_lt_of_le (Nat.lt_of_succ_le hz) (by decide)
  · have I5 := Ok.store (i := i) I4
    rw [List.set_set, List.set_set, set_self ex] at I5
    exact q _ _ _ F1 _ hk (I5.push Dq.non) e3
theorem q_app {p : Addr} (e : Γ[i]? = some (.own p (oL K) ds)) (h : EP te Γ (Da K d)) (hz : ds.length + 1 ≤ wee) (hs : S B u (Γ.set i (.own p (oL K) (ds ++ [d]))) D) : S B (tSeq (tDrop (tBM K "list" rAppend (tVar i) (tCons te tNil))) u) Γ D :=
  q_drop (e_app (K := K) (p := p) (h.to ⟨d, ds, rfl, e, hz, hs⟩) ⟨ds, e⟩)
theorem s_app {p : Addr} (e : Γ[i]? = some (.own p (oL K) ds)) (h : EP te Γ (Da K d)) (hz : ds.length + 1 ≤ wee) (hs : D.nx (Γ.set i (.own p (oL K) (ds ++ [d])))) : S B (tDrop (tBM K "list" rAppend (tVar i) (tCons te tNil))) Γ D :=
  s_drop (e_app (K := K) (p := p) (h.to ⟨d, ds, rfl, e, hz, hs⟩) ⟨ds, e⟩)
/-! ### draws among the arguments -/
end
end TL
/-! TL9: the end: a law whose def keeps its promise holds. -/
namespace TL
open PySem L2
theorem ints_dq {K : PySem.W.Frag} {F : Hp} : ∀ ns : List Int, DqAll K F (ns.map V.int) (ns.map PyData.int)
  | [] => .nil
  | n :: ns => .cons (.int n) (ints_dq ns)
theorem ends_true {K : PySem.W.Frag} {R : Rl} {H : Hp} {a : Addr} {ns : List Int} (hR : R [.list (ns.map .int)] (.ok (.bool true))) (hl : ns.length ≤ wee) (hS : SqL K H a (ns.map V.int)) : PFt [] K R [.ref a] H (fun v _ => v = .bl true) fun _ _ _ => False := by
  refine ⟨_, _, H, hR, ⟨Evl.Ex.refl H, TbOk.nil⟩, .cons (.lst hS (by rw [List.length_map]; exact hl) (ints_dq ns)) .nil, fun d s v F' H' e hs I => ?_, fun x F' H' e _ => by cases e⟩
  cases e
  rcases hs with ⟨ds, p, e, _⟩ | ⟨_, e⟩
  · cases e
  · subst e
    obtain ⟨v', ev, hv⟩ := Ok.head I
    cases ev
    cases hv
    rfl
theorem no_air {P : Program} {w : World} {H : Hp} {s s' : Shared} {e : Value} (h : L2N.CX P w [] H s (fun _ _ _ => False) e s') : False := by
  obtain ⟨_, _, _, _, _, _, _, _, _, _, _, _, h⟩ := h
  exact h
theorem walk_end {l : PySem.W.OpenLaw} {n k : Nat} {q : Program} {loose : List Str} {XP : (Str → Option Value) → Heap → Prop} {YP : World → Heap → Prop} {d : DefRec} {x : Str} {R : Rl} (hn : l.most = some n) (hn2 : n ≤ wee) (hdf : d.params.defaults = []) (hr : Room k callerA)
    (F : ∀ (w : World) (mg : Str → Option Value) (fa : Addr) (h : Heap), YP w h → h.Ns mainGlobals mg → mg d.name = some (.ref fa) →
      ∃ (K : PySem.W.Frag) (fd : FuncData), K.In h ∧ (∀ (s : Shared) (u : Value), BindsTo s fd ⟨[u], []⟩ [(x, u)]) ∧ ∀ base : Heap, K.In base → base.Ns mainGlobals mg → FnOk l.prog w K mg base (L2N.CX l.prog w) k fa fd [x] (PFt [] K R))
    (hR : ∀ ns : List Int, ns.length ≤ n → R [.list (ns.map .int)] (.ok (.bool true))) :
    PySem.W.WalkO q loose XP YP l.row.toRowW d [] (fun f vs => PySem.call f vs) := by
  have hs : n ≤ sizeLine := Nat.le_trans hn2 (by decide)
  refine Att.attach_call hn hdf fun w s₀ s₁ mg mb fa o pm cd doc a vs ns G Y ho hd hcd hmg hobj hints hlen hg => ?_
  obtain ⟨K, fd, KX, hb, hF⟩ := F w mg fa _ Y G.T.g hmg
  exact law_call KX G.T.g G.T.b G.T.builtins G.T.nolimit hg hobj hints (Nat.le_trans hlen hs) hr hF hb (fun H _ hS => ends_true (hR ns hlen) (Nat.le_trans hlen hn2) hS) fun H e s' h => no_air h
end TL
namespace TL
open PySem L2
section
variable {K : PySem.W.Frag}
theorem rd_isB {r : R2} {a b : Bool} (hr : r = fun x y H Q => ∃ a b, x = .bl a ∧ y = .bl b ∧ Q (.bl (decide (a = b))) H := by rfl) : RD K r (.bool a) (.bool b) (.bool (decide (a = b))) := rd_v fun F H v w _ hv hw => by
  subst hr
  cases hv
  cases hw
  exact ⟨_, Dq.bl _, fun Q q => ⟨a, b, rfl, rfl, q⟩⟩
theorem rd_nisB {r : R2} {a b : Bool} (hr : r = fun x y H Q => ∃ a b, x = .bl a ∧ y = .bl b ∧ Q (.bl (!decide (a = b))) H := by rfl) : RD K r (.bool a) (.bool b) (.bool (!decide (a = b))) := rd_v fun F H v w _ hv hw => by
  subst hr
  cases hv
  cases hw
  exact ⟨_, Dq.bl _, fun Q q => ⟨a, b, rfl, rfl, q⟩⟩
end
end TL
/-! TL10: loops over what draws; a new deck; the first and the last of a list of ints, or None. -/
namespace TL
open PySem L2
open Evl (Ex ex_l ex_t)
section
variable {K : PySem.W.Frag} {B : Bs} {Γ Δ Γ' : List Sl} {σ τ : St} {F F' H H' : Hp} {s : Sl} {v : V} {te ta tb tc tl : TE} {tt tu : TT} {t u : TS} {D : AD} {d e x y z : PyData} {i j : Nat} {vs : List Nat} {ds es : List PyData} {k : List Sl → Sl → Prop} {g : TG} {wi : TI}
/-- what is walked, with draws in it -/
def IE (K : PySem.W.Frag) (wi : TI) (Γ : List Sl) (k : List Sl → List PyData → Prop) : Prop := ∀ (B : Bs) (σ : St) (F H : Hp), Ok B Γ σ F H → ∀ R : It → Hp → Prop, (∀ J Γ1 ds F1 H1, k Γ1 ds → Ok B Γ1 σ F1 H1 → Ex F F1 → Turns K J F1 ds → ds.length ≤ wee → R J H1) → wi σ H R
theorem ie_list {q : List Sl → List PyData → Prop} (h : E tl Γ fun Γ1 s => ∃ ds, s = Da K (.list ds) ∧ q Γ1 ds) : IE K (iList K tl) Γ q := fun B σ F H I R hR => by
  refine h B σ F H I _ fun Γ1 s1 v F1 H1 ⟨ds, a, hq⟩ I1 e1 => ?_
  subst a
  obtain ⟨v', ev, hv⟩ := Ok.head I1
  cases ev
  cases hv with
  | @lst a xs _ hs hz ha =>
    refine ⟨a, rfl, ⟨xs, ex_l I1.ex hs⟩, hR _ Γ1 ds F1 H1 hq (Ok.pop I1) e1 (fun i F2 H2 e2 e3 => ?_) hz⟩
    have now := ex_l (e2.trans e3) hs
    refine ⟨fun d hd => ?_, fun hn => ⟨xs, now, by rw [ha.len]; exact hn⟩⟩
    obtain ⟨u, hu, du⟩ := ha.get hd
    refine ⟨⟨xs, u, now, hu⟩, fun x H3 hy => ?_⟩
    rcases hy with ⟨eH, hx⟩
    have ex := hx xs now
    rw [hu] at ex
    cases ex
    cases eH
    exact ⟨F2, fun _ _ _ z => z, Ex.refl _, Dq.mono e2 _ _ du⟩
theorem s_forE (hi : IE K wi Γ fun Γ0 ds => ∃ Iv : Nat → List Sl → Prop, Iv 0 Γ0 ∧
      (∀ (i : Nat) (d : PyData) (Γ1 : List Sl), ds[i]? = some d → Iv i Γ1 → ∃ Γ2 vs, GP K g d vs Γ1 Γ2 ∧ S B t Γ2 { D with nx := Iv (i + 1), ct := Iv (i + 1), bk := D.nx }) ∧ ∀ Γ1, Iv ds.length Γ1 → D.nx Γ1) : S B (tFor wi g t) Γ D := fun σ F H I D' hn hr hb hc => by
  refine hi B σ F H I _ fun J Γ0 ds F1 H1 ⟨Iv, h0, hs, hd⟩ I1 e1 tn _ => ?_
  refine ⟨fun i m σ' H' => m = ds.length - i ∧ i ≤ ds.length ∧ ∃ Γ' F', Iv i Γ' ∧ Ok B Γ' σ' F' H' ∧ Ex F1 F', ⟨_, rfl, Nat.zero_le _, Γ0, F1, h0, I1, Ex.refl _⟩, ?_⟩
  rintro i m σ' H' ⟨rfl, hi', Γ', F', hv, I', e'⟩
  have eF := e1.trans e'
  by_cases hlt : i < ds.length
  · have hx : ds[i]? = some ds[i] := List.getElem?_eq_getElem hlt
    obtain ⟨go, yl⟩ := (tn i F' H' e' I'.ex).1 ds[i] hx
    obtain ⟨Γ2, vs, hg, hb2⟩ := hs i ds[i] Γ' hx hv
    refine .inr ⟨go, fun σ2 H2 => ∃ Γ' F', Iv (i + 1) Γ' ∧ Ok B Γ' σ2 F' H2 ∧ Ex F1 F', fun σ2 H2 q => ⟨ds.length - (i + 1), by omega, rfl, hlt, q⟩, fun x H3 hy => ?_⟩
    obtain ⟨F3, carry, e3, dx⟩ := yl x H3 hy
    refine hg B σ' F3 H3 x (carry _ _ _ I') dx _ fun σ2 _ I2 => ?_
    have eA := e'.trans e3
    have eB := e1.trans eA
    exact hb2 σ2 F3 H3 I2 { D' with nx := _, ct := _, bk := D'.nx } (fun Γ5 σ5 F5 H5 a I5 e5 => ⟨Γ5, F5, a, I5, eA.trans e5⟩) (fun a b c d f g p q r => hr a b c d f g p q (eB.trans r))
      (fun a b c d p q r => hn a b c d p q (eB.trans r)) (fun Γ5 σ5 F5 H5 a I5 e5 => ⟨Γ5, F5, a, I5, eA.trans e5⟩)
  · cases (show i = ds.length by omega)
    exact .inl ⟨(tn _ F' H' e' I'.ex).2 (Nat.le_refl _), hn Γ' σ' F' H' (hd Γ' hv) I' eF⟩
/-- .. with something behind; each turn forgets the slots ms -/
theorem q_forE (ms : List Nat) (hi : IE K wi Γ fun Γ0 ds => ∃ Iv : Nat → List Sl → Prop, Iv 0 (wipeL Γ0 ms) ∧
      (∀ (i : Nat) (d : PyData) (Γ1 : List Sl), ds[i]? = some d → Iv i Γ1 → ∃ Γ2 vs, GP K g d vs Γ1 Γ2 ∧ S B t Γ2 { D with nx := fun Γ' => Iv (i + 1) (wipeL Γ' ms), ct := fun Γ' => Iv (i + 1) (wipeL Γ' ms), bk := fun Γ' => S B u Γ' D }) ∧ ∀ Γ1, Iv ds.length Γ1 → S B u Γ1 D) : S B (tSeq (tFor wi g t) u) Γ D := by
  refine s_seq (fun Γ' => S B u Γ' D) (s_forE (D := { D with nx := fun Γ' => S B u Γ' D }) fun B' σ F H I R hR => hi B' σ F H I R fun J Γ1 ds F1 H1 ⟨Iv, h0, hs, hd⟩ I1 e1 tn hz => hR J Γ1 ds F1 H1 ⟨fun i Γ' => Iv i (wipeL Γ' ms), h0, fun i d Γ1 hx hv => ?_, fun Γ1 hv => s_wipe ms (hd _ hv)⟩ I1 e1 tn hz) fun _ h => h
  obtain ⟨Γ2, vs, hg, hS⟩ := hs i d (wipeL Γ1 ms) hx hv
  exact ⟨Γ2, vs, fun B σ F H v I hq Q q => hg B σ F H v I.wipeG hq Q q, hS⟩
/-- .. as the last statement -/
theorem s_forEM (ms : List Nat) (hi : IE K wi Γ fun Γ0 ds => ∃ Iv : Nat → List Sl → Prop, Iv 0 (wipeL Γ0 ms) ∧
      (∀ (i : Nat) (d : PyData) (Γ1 : List Sl), ds[i]? = some d → Iv i Γ1 → ∃ Γ2 vs, GP K g d vs Γ1 Γ2 ∧ S B t Γ2 { D with nx := fun Γ' => Iv (i + 1) (wipeL Γ' ms), ct := fun Γ' => Iv (i + 1) (wipeL Γ' ms), bk := D.nx }) ∧ ∀ Γ0 Γ1, Γ1 = wipeL Γ0 ms → Iv ds.length Γ1 → D.nx Γ0) : S B (tFor wi g t) Γ D := by
  refine s_forE (D := D) fun B' σ F H I R hR => hi B' σ F H I R fun J Γ1 ds F1 H1 ⟨Iv, h0, hs, hd⟩ I1 e1 tn hz => hR J Γ1 ds F1 H1 ⟨fun i Γ' => Iv i (wipeL Γ' ms), h0, fun i d Γ1 hx hv => ?_, fun Γ1 hv => hd Γ1 _ rfl hv⟩ I1 e1 tn hz
  obtain ⟨Γ2, vs, hg, hS⟩ := hs i d (wipeL Γ1 ms) hx hv
  exact ⟨Γ2, vs, fun B σ F H v I hq Q q => hg B σ F H v I.wipeG hq Q q, hS⟩
/-- the same, the source without draws -/
theorem s_forM {α : Type} {xs : List α} {en : α → PyData} (ms : List Nat) (hi : IP K wi Γ (xs.map en)) (Iv : Nat → List Sl → Prop) (h0 : Iv 0 (wipeL Γ ms))
    (hs : ∀ (i : Nat) (x : α) (Γ1 : List Sl), xs[i]? = some x → Iv i Γ1 → ∃ Γ2 vs, GP K g (en x) vs Γ1 Γ2 ∧ S B t Γ2 { D with nx := fun Γ' => Iv (i + 1) (wipeL Γ' ms), ct := fun Γ' => Iv (i + 1) (wipeL Γ' ms), bk := D.nx }) (hd : ∀ Γ0, Iv xs.length (wipeL Γ0 ms) → D.nx Γ0) : S B (tFor wi g t) Γ D := by
  refine s_for hi (fun i Γ1 => Iv i (wipeL Γ1 ms)) h0 (fun i x Γ1 hx hv => ?_) hd
  obtain ⟨Γ2, vs, hg, hS⟩ := hs i x (wipeL Γ1 ms) hx hv
  exact ⟨Γ2, vs, fun B σ F H v I hq Q q => hg B σ F H v I.wipeG hq Q q, hS⟩
theorem wipeL_get {i : Nat} : ∀ {ms : List Nat}, (wipeL Γ ms)[i]? = if i ∈ ms then (Γ[i]?).map (fun _ => Sl.no) else Γ[i]?
  | [] => by rw [if_neg (fun z => nomatch z)]; rfl
  | m :: ms => by
    show ((wipeL Γ ms).set m .no)[i]? = _
    rw [List.getElem?_set, wipeL_get (ms := ms)]
    by_cases e : m = i
    · subst e
      rw [if_pos rfl, if_pos List.mem_cons_self]
      rw [wipeL_len]
      by_cases h : m < Γ.length
      · rw [if_pos h, List.getElem?_eq_getElem h]; rfl
      · rw [if_neg h, List.getElem?_eq_none (by omega)]; rfl
    · rw [if_neg e]
      by_cases h : i ∈ ms
      · rw [if_pos h, if_pos (List.mem_cons_of_mem _ h)]
      · rw [if_neg h, if_neg (fun z => (List.mem_cons.mp z).elim (fun q => e q.symm) h)]
theorem wipeL_sub {as bs : List Nat} {X : List Sl} (h : ∀ a ∈ as, a ∈ bs) (e : wipeL Γ as = X) : wipeL Γ bs = wipeL X bs := by
  subst e
  apply List.ext_getElem?
  intro i
  rw [wipeL_get, wipeL_get, wipeL_get]
  by_cases hb : i ∈ bs
  · rw [if_pos hb, if_pos hb]
    by_cases ha : i ∈ as
    · rw [if_pos ha]; cases Γ[i]? <;> rfl
    · rw [if_neg ha]
  · rw [if_neg hb, if_neg hb, if_neg (fun z => hb (h i z))]
/-- a list written down, draws in it -/
theorem e_lst {ta : TA} (h : A ta Γ fun Γ1 ss => ∃ xs, ss = xs.map (Da K) ∧ xs.length ≤ wee ∧ ∀ p, k Γ1 (.own p (oL K) xs)) : E (tLst ta) Γ k := fun B σ F H I Q q =>
  h B σ F H I _ fun Γ1 ss vs F1 H1 ⟨xs, a, hz, hk⟩ n I1 e1 => by
    subst a
    obtain ⟨h1, h2⟩ := Ok.all (by simpa using n) I1
    refine ⟨Nat.le_trans (by rw [h1.len]; exact hz) (by decide), fun p hp => ?_⟩
    exact q _ _ _ F1 _ (hk p) (h2.pushL hp hz h1) e1
/-- the first of some ints, or None -/
def headD : List Int → PyData
  | [] => .none
  | a :: _ => .int a
def lastD (l : List Int) : PyData := headD l.reverse
theorem ep_first {L : List Int} (e : Γ[j]? = some (Da K (.list (L.map .int)))) : EP (tIf (tTest (tOp (rNeD K) (tVar j) (tLst tNil))) (tOp (rIxL K) (tVar j) (tC (.int 0))) (tC .non)) Γ (Da K (headD L)) := by
  cases L with
  | nil => exact ep_if (b := false) (tp_test (ep_op (ep_var e) ep_nil0 (rd_neL0 (ns := [])))) (fun z => absurd z (by decide)) fun _ => ep_non
  | cons a r => exact ep_if (b := true) (tp_test (ep_op (ep_var e) ep_nil0 (rd_neL0 (ns := a :: r)))) (fun _ => ep_op (ep_var e) ep_int (rd_ixL (ds := (a :: r).map .int) (atI_nat (j := 0) rfl))) fun z => absurd z (by decide)
theorem ep_last {L : List Int} (e : Γ[j]? = some (Da K (.list (L.map .int)))) : EP (tIf (tTest (tOp (rNeD K) (tVar j) (tLst tNil))) (tOp (rIxL K) (tVar j) (tUn (rU fun i => .int (-i)) (tC (.int 1)))) (tC .non)) Γ (Da K (lastD L)) := by
  rcases List.eq_nil_or_concat L with rfl | ⟨r, a, rfl⟩
  · exact ep_if (b := false) (tp_test (ep_op (ep_var e) ep_nil0 (rd_neL0 (ns := [])))) (fun z => absurd z (by decide)) fun _ => ep_non
  · rw [List.concat_eq_append] at *
    have h1 : lastD (r ++ [a]) = .int a := by unfold lastD; rw [List.reverse_append]; rfl
    rw [h1]
    refine ep_if (b := true) ((tp_test (ep_op (ep_var e) ep_nil0 (rd_neL0 (ns := r ++ [a])))).is (by simp)) (fun _ => ep_op (y := .int (-1)) (ep_var e) (ep_un ep_int (ud_I rfl)) (rd_ixL ?_)) fun z => absurd z (by decide)
    rw [List.map_append]
    exact atI_last _ _
end
end TL
/-! TL11: sorted of a tuple of ints (the library has lists). -/
namespace TLS
open PySem PySem.Spec PyProof.Rows L2
section
variable {P : Program} {w : World} {A : Around} {E : Value → Shared → Prop} {s : Shared}
/-- what the tuple at l holds, in a new list -/
abbrev heapC (h : Heap) (vs : List Value) : Heap := (h.push (seqObj "list" #[] 0)).update h.objs.size (Obj.mapSeq (· ++ vs.toArray))
theorem collect_tup {l : Addr} {vs : List Value} {Q : List Value → Shared → Prop} (hl : s.heap.IsTuple l vs.toArray) (hz : vs.length ≤ sizeLine) (hq : Q vs { s with heap := heapC s.heap vs }) : wpAny (model P w) A (collect (.ref l)) Q E s := by
  obtain ⟨o, ho, hc, n, hd⟩ := id hl
  unfold collect; refine wpAny_bind (wpAny_runValue (codeAny_builtin entry_proto_collect' ?_))
  show wpAny _ _ (do again (.builtin "list.__iadd__" ⟨[← newList [], .ref l], []⟩)) _ _ s; refine wpAny_bind (wpAny_newList (wpAny_pure ⟨Code.quiet_builtin _ (by decide +kernel), codeAny_builtin entry_list_iadd' ?_⟩))
  show wpAny _ _ (Builtin.List.listExtendWith (.ref s.heap.objs.size) (.ref l) (.ref s.heap.objs.size)) _ _ { s with heap := s.heap.push (seqObj "list" #[] 0) }; unfold Builtin.List.listExtendWith
  have hk : (s.heap.push (seqObj "list" #[] 0)).get? l = some o := Heap.get?_push_of_some _ ho
  refine wpAny_bind (wpAny_typeOf (T := "tuple") ⟨o, hk, hc⟩ ?_); have ht : (Value.type "tuple" == Value.type "tuple") = true := by rfl
  rw [if_pos (by rw [ht]; simp)]; refine wpAny_bind (listItems_at hk hd ?_); refine wpAny_bind (listItems_at (xs := #[]) (n := 0) (Heap.get?_push_size _ rfl) rfl ?_)
  rw [if_neg (by simp)]; refine wpAny_bind (listUpdate_at (xs := #[]) (n := 0) (Heap.get?_push_size _ rfl) rfl ?_ (Nat.zero_le _) (by show (#[] ++ vs.toArray).size ≤ sizeLine + 1; simp only [Array.size_append, List.size_toArray, List.length_nil]; omega))
  refine wpAny_pure ?_; show wpAny (model P w) A (do
      let o ← load s.heap.objs.size
      match o.data with
      | .seq xs _ => pure xs.toList
      | _ => unsupported "internal:collect") Q E { s with heap := heapC s.heap vs }
  refine wpAny_bind (wpAny_load (get?_update_seq (Heap.get?_push_size _ rfl) _) ?_); show wpAny _ _ (pure ((#[] : Array Value) ++ vs.toArray).toList) Q E _
  rw [show ((#[] : Array Value) ++ vs.toArray).toList = vs by simp]; exact wpAny_pure hq
theorem sorted_tup {l : Addr} {vs : List Value} {ns : List Int} {Q : Value → Shared → Prop} (hl : s.heap.IsTuple l vs.toArray) (hI : IntsAre vs ns) (h64 : vs.length < 64)
    (hq : ∀ (out : Array Value) (ns' : List Int), IntsAre out.toList ns' → ns'.Perm ns → ns'.Pairwise (· ≤ ·) → Q (.ref (s.heap.objs.size + 1)) { s with heap := sortedAll s.heap vs out }) : wpAny (model P w) A (call (.builtin "sorted") [.ref l]) Q E s := by
  have hz : vs.length ≤ sizeLine := by rw [sizeLine_eq]; omega
  refine Calls.call_function_entry kind_sorted plain_sorted entry_sorted (args_sorted1 _) ?_; unfold Builtin.«sorted»
  refine wpAny_bind (m := checkCount "sorted" 1 1 _) (wpAny_pure ?_); refine wpAny_bind (collect_tup hl hz ?_); refine wpAny_bind (wpAny_newList ?_ hz)
  have hsz : (heapC s.heap vs).objs.size = s.heap.objs.size + 1 := by rw [Heap.size_update, size_push']
  have hoL : ((heapC s.heap vs).push (seqObj "list" vs.toArray 0)).get? (s.heap.objs.size + 1) = some (seqObj "list" vs.toArray 0) := by rw [← hsz]; exact Heap.get?_push_size _ rfl
  show wpAny _ _ _ _ _ { s with heap := (heapC s.heap vs).push (seqObj "list" vs.toArray 0) }; rw [hsz]
  refine wpAny_bind (wpAny_holding (wpAny_call_entry slot_list_sort ⟨_, hoL, rfl⟩ entry_list_sort (list_sort_tree hoL hI h64 fun out ns' a1 a2 a3 => ⟨_, rfl, ?_⟩) (args_list_sort _))); exact wpAny_pure ⟨_, rfl, hq out ns' a1 a2 a3⟩
end
end TLS
namespace TL
open PySem L2
open Evl (Ex ex_l ex_t)
section
variable {X : Cx}
def rSortTup (K : PySem.W.Frag) : List V → Hp → VK → Prop := fun vs H Q => ∃ (a : Addr) (ns : List Int), vs = [V.ref a] ∧ SqT K H a (ns.map V.int) ∧ ns.length < 64 ∧
  ∀ (ns' : List Int) (p : Addr), ns'.Perm ns → ns'.Pairwise (· ≤ ·) → H p = none → Q (.ref p) (upd H p (.lst (ns'.map V.int)))
theorem cr_sortTup : CallR X (.builtin "sorted") (rSortTup X.K) := by
  intro pins s σ H vs us Q I r h
  obtain ⟨a, ns, rfl, hs, h64, q⟩ := h
  obtain ⟨its, rv, hl, _⟩ := I.tuple hs
  have hi := rv.ints
  rw [Vals.ref1 r]; refine TLS.sorted_tup hl hi (by rw [hi.length]; exact h64) fun out ns' h1 h2 h3 => ?_
  obtain ⟨ep, he⟩ := PyProof.Rows.sortedAll_at s.heap its out
  have hlen : (ns'.map V.int).length ≤ sizeLine := by rw [List.length_map, h2.length_eq]; exact small64 h64
  exact ⟨.ref _, upd H (s.heap.objs.size + 1) (.lst (ns'.map V.int)), I.laid (t' := s.toks) (fun _ _ => PyProof.Rows.sortedAll_old) (Nat.le_succ _) ⟨hlen, out.toList, ep, vals_of_ints h1, he⟩, rfl, q ns' _ h2 h3 (I.hok.fresh (Nat.le_succ _))⟩
theorem kSortedT (K : PySem.W.Frag) (h : X.K = K := by rfl) : CallR X (.builtin "sorted") (rSortTup K) := by subst h; exact cr_sortTup
theorem kSortedL (K : PySem.W.Frag) (h : X.K = K := by rfl) : CallR X (.builtin "sorted") (rSortedI K) := by subst h; exact cr_sortedI
end
end TL
/-! TL12: set of a list of ints (the library has tuples), in own words. -/
namespace TLS
open PySem PySem.Spec PyProof.Rows L2
/-- an empty set, as it is made -/
def emptyO (w : World) : Obj := { cls := .type "set", dict := none, data := .set #[] 0 (.fresh 0 0 (!w.params.followText "set-order")) }
/-- behind set.__init__: the set at S holds ns, what stood before stands but S -/
structure Full (w : World) (s1 : Shared) (S : Addr) (ns : List Int) (s2 : Shared) : Prop where
  ex : ∃ (h : Heap) (tk c : Nat), s2 = { s1 with heap := h, toks := tk } ∧ SetR w h S (fun j => decide (j ∈ ns)) c ∧ c ≤ ns.length ∧ ∀ b o, b ≠ S → s1.heap.get? b = some o → h.get? b = some o
section
variable {P : Program} {w : World} {A : Around} {E : Value → Shared → Prop} {s1 : Shared} {S l : Addr} {items : Array Value} {ns : List Int}
theorem init_fill (calm : A.in1.handled = none) (hS : s1.heap.get? S = some (emptyO w)) (hl : s1.heap.IsList l items) (hi : IntsAre items.toList ns) (few : ns.length + 1 < scanBound) {Q : PySem.Fin → Shared → Prop} (q : ∀ s2, Full w s1 S ns s2 → wpAny (model P w) A (ret Value.none) Q E s2) :
    wpAny (model P w) A (Builtin.«set.__init__» ⟨[.ref S, .ref l], []⟩) Q E s1 := by
  have hcls : s1.TypeIs (.ref S) "set" := ⟨_, hS, rfl⟩
  have no1 := F.sub_list_set
  have no2 := F.sub_list_frozenset
  have no3 : (Value.type "list" == Value.type "dict") = false := by decide
  obtain ⟨⟨k, kd, dt, sl⟩, ho, e1, n, e2⟩ := id hl
  simp only at e1 e2
  subst e1 e2
  unfold Builtin.«set.__init__» noKeywords Builtin.Frozenset.updateFrom
  generalize hp : pyIter = PI
  wp_walk
  subst hp
  refine wpAny_pyIter_list hl (wpAny_bind (wpAny_runValue ?_))
  have lt_l : l < s1.heap.objs.size := Heap.lt_size ho
  have lt_S : S < s1.heap.objs.size := Heap.lt_size hS
  have S_l : S ≠ l := fun e => by
    rw [e] at hS
    have h := congrArg Obj.cls (Option.some.inj (ho.symm.trans hS))
    exact absurd (show Value.type "list" = Value.type "set" from h) (by decide)
  have long : items.size = ns.length := by rw [← Array.length_toList]; exact IntsAre.length hi
  have its : ∀ (i : Nat) (v : Value), items[i]? = some v → ∃ k t, ns[i]? = some k ∧ v = .int k t := by
    intro i v hv
    have lt : i < ns.length := by rw [← long]; exact (Array.getElem?_eq_some_iff.mp hv).1
    obtain ⟨t, ev⟩ := IntsAre.int_at hi i v (by rw [Array.getElem?_toList, hv])
    exact ⟨ns[i], t, List.getElem?_eq_getElem lt, by rw [ev, List.getD_eq_getElem?_getD, List.getElem?_eq_getElem lt]; rfl⟩
  have walk := (Walks.list (prog := P) (w := w) calm s1.heap.objs.size l (Nat.ne_of_lt lt_l) items).toS
  refine set_update_ints walk S (fun z => ?_) ns long few its items.size 0 _ (Nat.sub_zero _) (Nat.zero_le _) ⟨⟨_, Heap.get?_push_size _ rfl, rfl, rfl⟩, hl.push _⟩ ⟨0, Nat.le_refl 0, setR_new_at (Heap.get?_push_of_some _ hS)⟩ ?_
  · rcases List.mem_cons.mp z with z | z
    · exact Nat.ne_of_lt lt_S z
    · exact S_l (List.mem_singleton.mp z)
  · rintro ⟨h2, g2, d2, t2, o2⟩ c moved small full
    cases moved.gens
    cases moved.drawn
    cases moved.os
    exact wpAny_pure (q _ ⟨h2, t2, c, rfl, full, long ▸ small, fun b o hb ho => moved.heap b o (fun z => (List.mem_cons.mp z).elim hb fun z => Nat.lt_irrefl _ (List.mem_singleton.mp z ▸ Heap.lt_size ho)) (Heap.get?_push_of_some _ ho)⟩)
end
section
variable {P : Program} {w : World} {A : Around} {E : Value → Shared → Prop} {s : Shared}
/-- set(l), l a list of ints -/
theorem call_set_listI {l : Addr} {items : Array Value} (ns : List Int) {Q : Value → Shared → Prop} (calm : A.handled = none) (hl : s.heap.IsList l items) (hi : IntsAre items.toList ns) (few : ns.length + 1 < scanBound)
    (q : ∀ (h' : Heap) (tk c : Nat), SetR w h' s.heap.objs.size (fun j => decide (j ∈ ns)) c → c ≤ ns.length → (∀ b o, s.heap.get? b = some o → h'.get? b = some o) → Q (.ref s.heap.objs.size) { s with heap := h', toks := tk }) : wpAny (model P w) A (call (.type "set") [.ref l]) Q E s := by
  have ct := F.typeCall_set_1 (.ref l)
  have mk := F.called_set.made
  have sb := F.called_set.sub
  have nt := F.called_set.notType
  have cc := F.called_set.canCreate
  have lk := F.called_set.init.lookup
  have bd := F.called_set.init.bind (.ref s.heap.objs.size)
  obtain ⟨k, ks, mro⟩ := F.called_set.mro
  have hS : (s.heap.push (emptyO w)).get? s.heap.objs.size = some (emptyO w) := Heap.get?_push_size _ rfl
  have ty : Shared.TypeIs { s with heap := s.heap.push (emptyO w) } (.ref s.heap.objs.size) "set" := ⟨_, hS, rfl⟩
  have done : codeAny (model P w) A.in1 (.call (.builtin "set.__init__") ⟨[.ref s.heap.objs.size, .ref l], []⟩) (wants (fun r s2 => r = Value.none ∧ Full w { s with heap := s.heap.push (emptyO w) } s.heap.objs.size ns s2) E) { s with heap := s.heap.push (emptyO w) } := by
    refine codeAny_call_builtin F.called_set.init.plain F.entry_set_init (check_set_init_1 ty ?_)
    exact init_fill (by exact calm) hS (Heap.IsList.push hl _) hi few fun s2 f => wpAny_pure ⟨rfl, f⟩
  refine wpAny_call (codeAny_of_tree ?_)
  show wpAny _ _ (callAny (.type "set") ⟨[.ref l], []⟩) _ _ _
  refine wpAny_pure ⟨Code.quiet_builtin _ (by decide +kernel), codeAny_builtin F.entry_type_call ?_⟩
  rw [Around.under_plain (weight_type_call_type "set" [.ref l] []) rfl]
  repeat any_goals first | assumption | wp_step
  refine codeAny_mono (code_set_led1 (.ref l) (E := E) (Q₁ := fun v s1 => v = .ref s.heap.objs.size ∧ s1 = { s with heap := s.heap.push (emptyO w) }) ⟨rfl, rfl⟩) fun r s1 h => ?_
  match r, h with
  | .error _, h => exact h
  | .ok (.ret _), h =>
    rw [h.1, h.2]
    repeat any_goals first | assumption | wp_step
    refine codeAny_mono done fun r s2 h => ?_
    match r, h with
    | .error _, h => exact h
    | .ok (.ret _), h =>
      obtain ⟨h1, ⟨h', tk, c, e, f1, f2, f3⟩⟩ := h
      rw [h1, e]
      repeat any_goals first | assumption | wp_step
      exact q h' tk c f1 f2 fun b o ho => f3 b o (fun z => Nat.lt_irrefl _ (z ▸ Heap.lt_size ho)) (Heap.get?_push_of_some _ ho)
end
end TLS
/-! TL13: sets and sorted of ints by data. -/
namespace TL
open PySem L2
open Evl (Ex ex_l ex_t)
section
variable {X : Cx}
/-- set(..) of ints, of a list or a tuple -/
def rSetI (K : PySem.W.Frag) (w : World) : List V → Hp → VK → Prop := fun xs H Q => ∃ (l : Addr) (ns : List Int), xs = [.ref l] ∧ (SqL K H l (ns.map V.int) ∨ SqT K H l (ns.map V.int)) ∧ ns.length < 64 ∧
  ∀ (a : Addr) (n : Nat), n ≤ ns.length → H a = none → Q (.ref a) (upd H a (SetO w a (fun j => decide (j ∈ ns)) n))
theorem cr_setI (hc : X.calm = true) : CallR X (.type "set") (rSetI X.K X.w) := by
  intro pins s σ H vs us Q I r h
  obtain ⟨l, ns, rfl, hs, h64, q⟩ := h
  rw [Vals.ref1 r]
  have hb : ns.length + 1 < scanBound := Nat.lt_trans (Nat.succ_lt_succ h64) (by decide)
  have fin : ∀ (h' : Heap) (tk c : Nat), SetR X.w h' s.heap.objs.size (fun j => decide (j ∈ ns)) c → c ≤ ns.length → (∀ b o, s.heap.get? b = some o → h'.get? b = some o) → ∃ v H', Inv X pins σ H' { s with heap := h', toks := tk } ∧ v = V.ref s.heap.objs.size ∧ Q v H' := fun h' tk c R hl k =>
    ⟨_, upd H s.heap.objs.size (SetO X.w s.heap.objs.size (fun j => decide (j ∈ ns)) c), I.laid (t' := tk) k (Nat.le_refl _) (setO_new R), rfl, q _ c hl (I.hok.fresh (Nat.le_refl _))⟩
  rcases hs with hs | hs
  · obtain ⟨its, rv, hl, _⟩ := I.list hs
    refine TLS.call_set_listI ns (I.ok.hd hc) hl.isList (by simpa using rv.ints) hb fun h' tk c R hl k => ?_
    obtain ⟨v, H', I', e, q'⟩ := fin h' tk c R hl k
    subst e
    exact ⟨V.ref s.heap.objs.size, H', I', rfl, q'⟩
  · obtain ⟨its, rv, hl, _⟩ := I.tuple hs
    refine call_set_tupI ns (I.ok.hd hc) hl (by simpa using rv.ints) hb fun h' tk c R hl k => ?_
    obtain ⟨v, H', I', e, q'⟩ := fin h' tk c R hl k
    subst e
    exact ⟨V.ref s.heap.objs.size, H', I', rfl, q'⟩
theorem kSetI (K : PySem.W.Frag) (w : World) (hc : X.calm = true := by rfl) (h : X.K = K := by rfl) (hw : X.w = w := by rfl) : CallR X (.type "set") (rSetI K w) := by subst h hw; exact cr_setI hc
theorem kSortedSet (w : World) (hc : X.calm = true := by rfl) (hw : X.w = w := by rfl) : CallR X (.builtin "sorted") (rSortedSet w) := by subst hw; exact cr_sortedSet hc
end
/-- ints in order, each once -/
def insI (a : Int) : List Int → List Int
  | [] => [a]
  | b :: r => if a < b then a :: b :: r else if a = b then b :: r else b :: insI a r
def setI : List Int → List Int
  | [] => []
  | a :: r => insI a (setI r)
theorem mem_insI {a x : Int} : ∀ {l : List Int}, x ∈ insI a l ↔ x = a ∨ x ∈ l
  | [] => by simp [insI]
  | b :: r => by
    unfold insI
    split
    · simp
    · split
      · rename_i h; subst h; simp
      · rw [List.mem_cons, mem_insI (l := r), List.mem_cons]
        constructor
        · rintro (h | h | h) <;> simp [h]
        · rintro (h | h | h) <;> simp [h]
theorem insI_asc {a : Int} : ∀ {l : List Int}, l.Pairwise (· < ·) → (insI a l).Pairwise (· < ·)
  | [], _ => List.pairwise_singleton _ _
  | b :: r, h => by
    obtain ⟨h1, h2⟩ := List.pairwise_cons.mp h
    unfold insI
    split
    · rename_i hab
      refine List.pairwise_cons.mpr ⟨fun x hx => ?_, h⟩
      rcases List.mem_cons.mp hx with e | hx
      · rw [e]; exact hab
      · exact Int.lt_trans hab (h1 x hx)
    · split
      · exact h
      · rename_i n1 n2
        refine List.pairwise_cons.mpr ⟨fun x hx => ?_, insI_asc h2⟩
        rcases mem_insI.mp hx with e | hx
        · rw [e]; omega
        · exact h1 x hx
theorem mem_setI {x : Int} : ∀ {l : List Int}, x ∈ setI l ↔ x ∈ l
  | [] => Iff.rfl
  | a :: r => by
    show x ∈ insI a (setI r) ↔ _
    rw [mem_insI, mem_setI (l := r), List.mem_cons]
theorem setI_asc : ∀ {l : List Int}, (setI l).Pairwise (· < ·)
  | [] => .nil
  | a :: r => insI_asc setI_asc
/-- two rising lists of the same members are one -/
theorem asc_eq : ∀ {l m : List Int}, l.Pairwise (· < ·) → m.Pairwise (· < ·) → (∀ x, x ∈ l ↔ x ∈ m) → l = m
  | [], [], _, _, _ => rfl
  | [], b :: m, _, _, h => nomatch ((h b).mpr List.mem_cons_self)
  | a :: l, [], _, _, h => nomatch ((h a).mp List.mem_cons_self)
  | a :: l, b :: m, h1, h2, h => by
    obtain ⟨p1, p2⟩ := List.pairwise_cons.mp h1
    obtain ⟨q1, q2⟩ := List.pairwise_cons.mp h2
    have e : a = b := by
      have x1 := (h a).mp List.mem_cons_self
      have x2 := (h b).mpr List.mem_cons_self
      rcases List.mem_cons.mp x1 with e | x1
      · exact e
      · rcases List.mem_cons.mp x2 with e | x2
        · exact e.symm
        · have := p1 b x2; have := q1 a x1; omega
    subst e
    rw [asc_eq p2 q2 fun x => ?_]
    constructor
    · intro hx
      rcases List.mem_cons.mp ((h x).mp (List.mem_cons_of_mem _ hx)) with e | hx'
      · have := p1 x hx; omega
      · exact hx'
    · intro hx
      rcases List.mem_cons.mp ((h x).mpr (List.mem_cons_of_mem _ hx)) with e | hx'
      · have := q1 x hx; omega
      · exact hx'
/-- ints in order -/
def insS (a : Int) : List Int → List Int
  | [] => [a]
  | b :: r => if a ≤ b then a :: b :: r else b :: insS a r
def sortI : List Int → List Int
  | [] => []
  | a :: r => insS a (sortI r)
theorem insS_perm {a : Int} : ∀ {l : List Int}, (insS a l).Perm (a :: l)
  | [] => .refl _
  | b :: r => by
    unfold insS
    split
    · exact .refl _
    · exact (insS_perm.cons b).trans (.swap a b r)
theorem sortI_perm : ∀ {l : List Int}, (sortI l).Perm l
  | [] => .refl _
  | a :: r => insS_perm.trans (sortI_perm.cons a)
theorem insS_asc {a : Int} : ∀ {l : List Int}, l.Pairwise (· ≤ ·) → (insS a l).Pairwise (· ≤ ·)
  | [], _ => List.pairwise_singleton _ _
  | b :: r, h => by
    obtain ⟨h1, h2⟩ := List.pairwise_cons.mp h
    unfold insS
    split
    · rename_i hab
      refine List.pairwise_cons.mpr ⟨fun x hx => ?_, h⟩
      rcases List.mem_cons.mp hx with e | hx
      · rw [e]; exact hab
      · exact Int.le_trans hab (h1 x hx)
    · rename_i hab
      refine List.pairwise_cons.mpr ⟨fun x hx => ?_, insS_asc h2⟩
      rcases List.mem_cons.mp (insS_perm.mem_iff.mp hx) with e | hx
      · rw [e]; omega
      · exact h1 x hx
theorem sortI_asc : ∀ {l : List Int}, (sortI l).Pairwise (· ≤ ·)
  | [] => .nil
  | a :: r => insS_asc sortI_asc
theorem le_eq : ∀ {l m : List Int}, l.Pairwise (· ≤ ·) → m.Pairwise (· ≤ ·) → l.Perm m → l = m
  | [], m, _, _, h => (List.nil_perm.mp h).symm ▸ rfl
  | a :: l, [], _, _, h => nomatch (h.mem_iff.mp (List.mem_cons_self (a := a) (l := l)))
  | a :: l, b :: m, h1, h2, h => by
    obtain ⟨p1, p2⟩ := List.pairwise_cons.mp h1
    obtain ⟨q1, q2⟩ := List.pairwise_cons.mp h2
    have e : a = b := by
      have x1 : a ∈ b :: m := h.mem_iff.mp List.mem_cons_self
      have x2 : b ∈ a :: l := h.mem_iff.mpr List.mem_cons_self
      rcases List.mem_cons.mp x1 with e | x1
      · exact e
      · rcases List.mem_cons.mp x2 with e | x2
        · exact e.symm
        · have := p1 b x2; have := q1 a x1; omega
    subst e
    rw [le_eq p2 q2 h.cons_inv]
section
variable {K : PySem.W.Frag} {w : World} {B : Bs} {Γ : List Sl} {ta : TA} {te : TE} {ns : List Int} {x : PyData}
theorem co_sortT (h : ns.length < 64) : CO K (rSortTup K) [.tuple (ns.map .int)] ((sortI ns).map .int) := fun B Γ σ F H vs I hv Q q => by
  cases hv with
  | cons h1 h2 =>
    cases h2
    cases h1 with
    | @tup a xs _ h3 hz h4 =>
      refine ⟨a, ns, rfl, by rw [← h4.ints_inv]; exact ex_t I.ex h3, h, fun ns' p pm as hp => ?_⟩
      have e : ns' = sortI ns := le_eq as sortI_asc (pm.trans sortI_perm.symm)
      subst e
      exact q p _ (I.pushL hp (by rw [List.length_map, sortI_perm.length_eq]; exact Nat.le_of_lt (Nat.lt_trans h (by decide))) (ints_dq _))
theorem co_sortL (h : ns.length ≤ wee) : CO K (rSortedI K) [.list (ns.map .int)] ((sortI ns).map .int) := fun B Γ σ F H vs I hv Q q => by
  cases hv with
  | cons h1 h2 =>
    cases h2
    cases h1 with
    | @lst a xs _ h3 hz h4 =>
      refine ⟨a, ns, rfl, by rw [← h4.ints_inv]; exact ex_l I.ex h3, fun ns' p pm as hp => ?_⟩
      have e : ns' = sortI ns := le_eq as sortI_asc (pm.trans sortI_perm.symm)
      subst e
      exact q p _ (I.pushL hp (by rw [List.length_map, sortI_perm.length_eq]; exact h) (ints_dq _))
end
end TL
namespace TL
open PySem L2
open Evl (Ex ex_l ex_t)
section
variable {K : PySem.W.Frag} {w : World} {B : Bs} {Γ : List Sl} {ta : TA} {te : TE} {ns : List Int} {x : PyData}
/-- sorted(set(..)) of ints -/
theorem eo_sset (h : EP te Γ (Da K x)) (hx : x = .list (ns.map .int) ∨ x = .tuple (ns.map .int)) (hn : ns.length < 64) : EO (tCB (rSortedSet w) (tCons (tCB (rSetI K w) (tCons te tNil)) tNil)) Γ (oL K) ((setI ns).map .int) := fun B σ F H I Q q => by
  refine h B σ F H I _ fun Γ1 s1 v F1 H1 ⟨a, b⟩ I1 e1 => ?_
  subst a b
  obtain ⟨v', ev, hv⟩ := Ok.head I1
  cases ev
  have go : ∀ {l : Addr}, v = .ref l → (SqL K H1 l (ns.map V.int) ∨ SqT K H1 l (ns.map V.int)) → rSetI K w [v] H1 fun x H2 => rSortedSet w [x] H2 Q := fun {l} ev hs => by
    subst ev
    refine ⟨l, ns, rfl, hs, hn, fun p n hl hp => ⟨p, _, n, rfl, upd_same, Nat.lt_of_le_of_lt hl hn, fun ns' p2 as hm hl' hp2 => ?_⟩⟩
    have e : ns' = setI ns := asc_eq as setI_asc fun y => by rw [hm, mem_setI]; simp
    subst e
    have I2 := (Ok.pop I1).alloc (o := SetO w p (fun j => decide (j ∈ ns)) n) hp
    exact q _ _ _ _ _ ⟨rfl, p2, rfl⟩ (I2.pushL hp2 (by rw [List.length_map, hl']; exact Nat.le_of_lt (Nat.lt_trans (Nat.lt_of_le_of_lt hl hn) (by decide))) (ints_dq _)) (e1.trans (Ex.new ((Ok.pop I1).nF hp)))
  rcases hx with rfl | rfl
  · cases hv with
    | @lst a xs _ h3 hz h4 => exact go rfl (.inl (by rw [← h4.ints_inv]; exact ex_l I1.ex h3))
  · cases hv with
    | @tup a xs _ h3 hz h4 => exact go rfl (.inr (by rw [← h4.ints_inv]; exact ex_t I1.ex h3))
end
end TL
/-! TL14: three names at once. -/
namespace TL
open PySem L2
open Evl (Ex ex_l ex_t)
section
variable {K : PySem.W.Frag} {B : Bs} {Γ : List Sl} {s : Sl} {ta : TE} {tr : TA} {u : TS} {D : AD} {i j l : Nat} {k : List Sl → List Sl → Prop}
theorem q_par3 {ta : TA} (h : A ta Γ fun Γ1 ss => ∃ a b c, ss = [a, b, c] ∧ S B u (((Γ1.set i a).set j b).set l c) D) : S B (tSeq (tPar3 i j l ta) u) Γ D := fun σ F H I D' hn hr hb hc =>
  h B σ F H I _ fun Γ1 ss vs F1 H1 ⟨a, b, c, e, m⟩ n I1 e1 => by
    subst e
    match vs, n with
    | [x, y, z], _ =>
      have I2 : Ok B (b :: c :: Γ1.set i a) (some y :: some z :: σ.set i (some x)) F1 H1 := Ok.store (i := i + 2) (show Ok B (a :: b :: c :: Γ1) (some x :: some y :: some z :: σ) F1 H1 from I1)
      have I3 : Ok B (c :: (Γ1.set i a).set j b) (some z :: (σ.set i (some x)).set j (some y)) F1 H1 := Ok.store (i := j + 1) I2
      exact ⟨x, y, z, rfl, m _ F1 H1 (Ok.store (i := l) I3) D' (fun a b c d p q r => hn a b c d p q (e1.trans r)) (fun a b c d f g p q r => hr a b c d f g p q (e1.trans r)) (fun a b c d p q r => hb a b c d p q (e1.trans r)) (fun a b c d p q r => hc a b c d p q (e1.trans r))⟩
theorem a_consP (h : EP ta Γ s) (hk : A tr Γ fun Γ2 ss => k Γ2 (s :: ss)) : A (tCons ta tr) Γ k := a_cons (h.to hk)
theorem a_consO {α : Type} {o : Ow α} {a : α} (h : EO ta Γ o a) (hk : ∀ p, A tr Γ fun Γ2 ss => k Γ2 (.own p o a :: ss)) : A (tCons ta tr) Γ k := a_cons (h.imp fun Γ' s ⟨e, p, e2⟩ => by subst e e2; exact hk p)
end
end TL
/-! TL15: an object of one's own, read as if it stood still; two names at once, whatever their things. -/
namespace TL
open PySem L2
open Evl (Ex ex_l ex_t)
section
variable {K : PySem.W.Frag} {B : Bs} {Γ Γd : List Sl} {σ : St} {F H H' : Hp} {s : Sl} {te : TE} {tt : TT} {tr : TA} {u : TS} {D : AD} {i j : Nat} {d : PyData} {ds : List PyData} {b : Bool}
/-- what was read only: all but the tables of code objects is as it was -/
def Kp (T : List (Addr × Str)) (F H H' : Hp) : Prop := (∀ q o, H q = some o → (∀ ps, o ≠ .tbl ps) → H' q = some o) ∧ (∀ q o, H q = some o → ∃ o', H' q = some o') ∧ Ex F H' ∧ LamX.Tabs T H'
theorem Ok.keep (h : Ok B Γ σ F H) (hk : Kp B.T F H H') : Ok B Γ σ F H' := by
  obtain ⟨L, h⟩ := h
  refine ⟨L, h.sl.frame (Ex.refl F) (fun q z => ?_), h.nd, h.fz, hk.2.2.1, h.bF, h.bG, fun q o e n r => hk.1 q o (h.bK q o e n r) r, ⟨fun q o e => ?_, hk.2.2.2, h.bD.2.2⟩, h.bO⟩
  · obtain ⟨o, e⟩ := h.sl.there q z
    rw [e, hk.1 q o e (h.sl.regs q z o e).1]
  · obtain ⟨o', e'⟩ := h.bD.1 q o e
    exact hk.2.1 q o' e'
theorem Ok.kp {F2 F1 : Hp} {T : List (Addr × Str)} {Γ1 : List Sl} {σ1 : St} (h : Ok ⟨F2, H, [], T⟩ Γ1 σ1 F1 H') (e : Ex F F2) : Kp T F H H' := by
  obtain ⟨L, h⟩ := h
  exact ⟨fun q o a b => h.bK q o a List.not_mem_nil b, h.bD.1, e.trans (h.bF.trans h.ex), h.bD.2.1⟩
def Frz (Γ Γd : List Sl) : Prop := ∀ (B : Bs) (σ : St) (F H : Hp), Ok B Γ σ F H → ∃ F2, Ok ⟨F2, H, [], B.T⟩ Γd σ F2 H ∧ Ex F F2
theorem plain_fps {L : List (List Addr)} (h : SlsOk F H σ Γ L) (hp : Γ.all Sl.plain = true) : L.flatten = [] := by
  induction h with
  | nil => rfl
  | cons a b ih =>
    rw [List.all_cons, Bool.and_eq_true] at hp
    rw [List.flatten_cons, ih hp.2, List.append_nil]
    cases a with
    | no => rfl
    | val _ => rfl
    | own _ => cases (show false = true from hp.1)
theorem frz_done (hp : Γ.all Sl.plain = true := by rfl) : Frz Γ Γ := fun B σ F H ⟨L, h⟩ => ⟨F, ⟨L, by
  have e := plain_fps h.sl hp
  have b := h.base
  rw [e] at b
  exact b⟩, Ex.refl F⟩
theorem frz_list {p : Addr} (e : Γ[i]? = some (.own p (oL K) ds)) (h : Frz (Γ.set i (Da K (.list ds))) Γd) : Frz Γ Γd := fun B σ F H I => by
  obtain ⟨x, ex, I2⟩ := I.lift e
  obtain ⟨F', e1, e2, I3⟩ := I2.freeze
  have I4 := Ok.store (i := i) I3
  rw [List.set_set, List.set_set, set_self ex] at I4
  obtain ⟨F3, I5, e5⟩ := h B σ F' H I4
  exact ⟨F3, I5, e2.trans e5⟩
theorem frz_no (i : Nat) (h : Frz (Γ.set i .no) Γd) : Frz Γ Γd := fun B σ F H I => h B σ F H I.forgetG
/-- a datum without cells -/
def atomD : PyData → Bool
  | .none => true
  | .bool _ => true
  | .int _ => true
  | .str _ => true
  | _ => false
theorem Dq.atom {F1 : Hp} {v : V} (h : Dq K F1 v d) (ha : atomD d = true) : Dq K F v d := by
  cases h with
  | non => exact .non
  | bl b => exact .bl b
  | int n => exact .int n
  | str x => exact .str x
  | _ => cases ha
theorem ep_borrow (hf : Frz Γ Γd) (h : EP te Γd (Da K d)) (ha : atomD d = true) : EP te Γ (Da K d) := fun B σ F H I Q q => by
  obtain ⟨F2, I2, eF⟩ := hf B σ F H I
  refine h ⟨F2, H, [], B.T⟩ σ F2 H I2 _ fun Γ1 s1 v F1 H1 ⟨a, b⟩ I3 e1 => ?_
  subst a b
  obtain ⟨v', ev, hv⟩ := Ok.head I3
  cases ev
  have hk : Kp B.T F H H1 := I3.kp eF
  exact q _ _ v F H1 ⟨rfl, rfl⟩ ((I.keep hk).push (hv.atom ha)) (Ex.refl F)
theorem tp_borrow (hf : Frz Γ Γd) (h : TP tt Γd b) : TP tt Γ b := fun B σ F H I Q q => by
  obtain ⟨F2, I2, eF⟩ := hf B σ F H I
  refine h ⟨F2, H, [], B.T⟩ σ F2 H I2 _ fun Γ1 b1 F1 H1 ⟨a, c⟩ I3 e1 => ?_
  subst a c
  have hk : Kp B.T F H H1 := I3.kp eF
  exact q _ _ F H1 ⟨rfl, rfl⟩ (I.keep hk) (Ex.refl F)
theorem q_par2 {ta : TA} (h : A ta Γ fun Γ1 ss => ∃ a b, ss = [a, b] ∧ S B u ((Γ1.set i a).set j b) D) : S B (tSeq (tPar i j ta) u) Γ D := fun σ F H I D' hn hr hb hc =>
  h B σ F H I _ fun Γ1 ss vs F1 H1 ⟨a, b, e, m⟩ n I1 e1 => by
    subst e
    match vs, n with
    | [x, y], _ =>
      have I2 : Ok B (b :: Γ1.set i a) (some y :: σ.set i (some x)) F1 H1 := Ok.store (i := i + 1) (show Ok B (a :: b :: Γ1) (some x :: some y :: σ) F1 H1 from I1)
      exact ⟨x, y, rfl, m _ F1 H1 (Ok.store (i := j) I2) D' (fun a b c d p q r => hn a b c d p q (e1.trans r)) (fun a b c d f g p q r => hr a b c d f g p q (e1.trans r)) (fun a b c d p q r => hb a b c d p q (e1.trans r)) (fun a b c d p q r => hc a b c d p q (e1.trans r))⟩
theorem s_src {g : TG} {t : TS} {X : TE} (P : List PyData → Prop) (h : ∃ ds, P ds ∧ EP X Γ (Da K (.list ds))) (k : ∀ ds wi, P ds → IP K wi Γ ds → S B (tFor wi g t) Γ D) : S B (tFor (iList K X) g t) Γ D := let ⟨ds, hp, h⟩ := h; k ds _ hp (ip_list h)
theorem rd_neB {a b : Bool} : RD K (rNeD K) (.bool a) (.bool b) (.bool (!decide (a = b))) := rd_neE (n := 0) (m := 0) sh_bool sh_bool (by simp only [PyData.eqv]; cases a <;> cases b <;> rfl)
theorem rd_eqB {a b : Bool} : RD K (rEqD K) (.bool a) (.bool b) (.bool (decide (a = b))) := rd_eqE (n := 0) (m := 0) sh_bool sh_bool (by simp only [PyData.eqv]; cases a <;> cases b <;> rfl)
end
end TL
/-! TL16: tuple * int, once or more often. -/
namespace TLS
open PySem PySem.Spec PyProof.Rows L2
theorem tuple_mul1 (l : Addr) (items : Array Value) (n : Nat) (dd : Option Addr) (sl : Array (Option Value)) (x : Int) (u : Tok) (c0 : (decide (x < -(2 ^ 63)) || decide (x ≥ 2 ^ 63)) = false) (c1 : (items.isEmpty || x == 1) = true) :
    Meets (Builtin.«tuple.__mul__» ⟨[.ref l, .int x u], []⟩) (fun _ R s => s.heap.get? l = some { cls := .type "tuple", dict := dd, data := .seq items n, slots := sl } ∧ R (.ok (.ret (Value.ref l))) s) :=
  .of_wp fun prog w A R s h => by
    obtain ⟨hp, g, d, tk, os⟩ := s; obtain ⟨hl, h⟩ := h; have f1 := AutoSeq1.idx_int
    wp_walk using wpAny_loadPart' hl
    repeat (first
      | (refine wpAny_ite_false (decide_eq_false (by rw [c0]; exact Bool.false_ne_true)) ?_; wp_walk using wpAny_loadPart' hl)
      | (refine wpAny_ite_true (decide_eq_true c1) ?_; wp_walk using wpAny_loadPart' hl))
    exact ⟨_, rfl, h⟩
end TLS
namespace TL
open PySem L2
open Evl (Ex ex_l ex_t)
def rRepA (K : PySem.W.Frag) : R2 := fun x y H Q => ∃ l k xs, x = .ref l ∧ y = .int k ∧ SqT K H l xs ∧ xs ≠ [] ∧ 1 ≤ k ∧ k ≤ 1000 ∧ xs.length ≤ 1000 ∧ (k = 1 → Q (.ref l) H) ∧ (2 ≤ k → ∀ p, H p = none → Q (.ref p) (upd H p (.tup (List.replicate k.toNat xs).flatten)))
section
variable {X : Cx}
theorem op_repA : OpR X (binaryOp .Mult) (rRepA X.K) := by
  intro pins s σ H x y v u Q I rx ry h
  obtain ⟨l, k, xs, e1, e2, hT, hne, h1, h2, hz, q1, q2⟩ := h
  by_cases hk : k = 1
  · subst hk e1 e2
    cases rx
    obtain ⟨t, rfl⟩ := ry
    obtain ⟨its, r, ⟨⟨cls, dd, data, sl⟩, ho, hc, n, hd⟩, hs⟩ := I.tuple hT
    simp only at hc hd
    subst hc hd
    refine wpAny_binaryOp_repeat_ref (T := "tuple") (U := "int") (by decide) ⟨_, ho, rfl⟩ (fun s' => typeIs_int s' 1 t) noFill_tuple_mul F.fills_int_mul F.slot_int_rmul repeat_tuple F.slot_int_index.lookup
      (call_meets F.slot_int_rmul (typeIs_int s 1 t) F.entry_int_rmul (F.args_int_rmul_2 _ _) (int_rmul_tuple 1 t l its.toArray n dd sl) ⟨ho, rfl, ⟨_, ho, rfl⟩, call_meets F.slot_tuple_mul ⟨_, ho, rfl⟩ F.entry_tuple_mul (F.args_tuple_mul_2 _ _) (TLS.tuple_mul1 l its.toArray n dd sl 1 t rfl (by simp)) ⟨ho, ?_⟩⟩)
    exact ⟨.ref l, H, I, rfl, q1 rfl⟩
  · exact op_repT pins s σ H x y v u Q I rx ry ⟨l, k, xs, e1, e2, hT, hne, by omega, h2, hz, q2 (by omega)⟩
theorem kRepT (K : PySem.W.Frag) (h : X.K = K := by rfl) : OpR X (binaryOp .Mult) (rRepA K) := by subst h; exact op_repA
end
section
variable {K : PySem.W.Frag} {B : Bs} {Γ : List Sl} {ds : List PyData} {k : Int}
theorem rd_repT (hn : ds ≠ []) (h1 : 1 ≤ k) (h2 : k ≤ 1000) (hz : ds.length ≤ 1000) (hw : k.toNat * ds.length ≤ wee) : RD K (rRepA K) (.tuple ds) (.int k) (.tuple (List.replicate k.toNat ds).flatten) := fun B Γ σ F H v w I hv hw' Q q => by
  cases hw'
  cases hv with
  | @tup a xs _ h3 z3 h4 =>
    refine ⟨a, k, xs, rfl, rfl, ex_t I.ex h3, fun e => hn ?_, h1, h2, by rw [h4.len]; exact hz, fun e => ?_, fun _ p hp => ?_⟩
    · subst e
      cases h4
      rfl
    · subst e
      have e1 : (List.replicate (1 : Int).toNat ds).flatten = ds := by simp
      rw [e1] at q
      exact q _ F H (I.push (Dq.tup h3 z3 h4)) (Ex.refl F)
    · have eF : Ex F (upd F p (.tup (List.replicate k.toNat xs).flatten)) := Ex.new (I.nF hp)
      exact q _ _ _ ((I.alloc hp).push (Dq.tup (.inl (.inl upd_same)) (by rw [PyProof.Rows.lm_len_rep_flat]; exact hw) (DqAll.mono eF _ _ (rep_all h4)))) eF
end
end TL
/-! TL17: a comprehension with two fors. -/
namespace TL
open PySem L2
open Evl (Ex ex_l ex_t)
section
variable {K : PySem.W.Frag} {B : Bs} {Γ : List Sl} {te : TE} {tt tt1 : TT} {vs vs1 : List Nat} {g g1 : TG} {wi wi1 : TI} {α β : Type} {xs : List α} {e : α → PyData} {ys : α → List β} {e1 : β → PyData} {f : α → β → Bool} {w : α → β → PyData}
theorem flat_len {l : List α} : (l.flatMap fun x => ((ys x).filter (f x)).map (w x)).length ≤ (l.map fun x => (ys x).length).sum := by
  induction l with
  | nil => exact Nat.le_refl _
  | cons a r ih =>
    rw [List.flatMap_cons, List.length_append, List.map_cons, List.sum_cons, List.length_map]
    exact Nat.add_le_add (List.length_filter_le _ _) ih
theorem take_sum {l : List α} {h : α → Nat} : ∀ {i : Nat} {x : α}, l[i]? = some x → ((l.take i).map h).sum + h x ≤ (l.map h).sum := by
  induction l with
  | nil => intro i x z; simp at z
  | cons a r ih =>
    intro i x z
    cases i with
    | zero =>
      simp only [List.getElem?_cons_zero, Option.some.injEq] at z
      subst z
      simp
    | succ i =>
      have := ih (i := i) (x := x) (by simpa using z)
      simp only [List.take_succ_cons, List.map_cons, List.sum_cons]
      omega
theorem eo_lcc (hi : IP K wi Γ (xs.map e)) (hv : NoOwn Γ vs) (hz : (xs.map fun x => (ys x).length).sum ≤ wee)
    (ht : ∀ x ∈ xs, ∃ Γi, GP K g (e x) vs (wipeL Γ vs) Γi ∧ wipeL Γi vs = wipeL Γ vs ∧ TP tt Γi true ∧ NoOwn Γi vs1 ∧ IP K wi1 Γi ((ys x).map e1) ∧
      ∀ y ∈ ys x, ∃ Γj, GP K g1 (e1 y) vs1 (wipeL Γi vs1) Γj ∧ wipeL Γj vs1 = wipeL Γi vs1 ∧ TP tt1 Γj (f x y) ∧ (f x y = true → EP te Γj (Da K (w x y)))) :
    EO (tLc2 wi g tt wi1 g1 tt1 te vs vs1) Γ (oL K) (xs.flatMap fun x => ((ys x).filter (f x)).map (w x)) := fun B σ F H I Q q => by
  refine hi B σ F H I _ fun J F1 H1 I1 e1' tn _ D hD => ?_
  refine ⟨fun i m H' => m = xs.length - i ∧ i ≤ xs.length ∧ ∃ F', Ok B (.own D (oL K) ((xs.take i).flatMap fun x => ((ys x).filter (f x)).map (w x)) :: Γ) (some (.ref D) :: σ) F' H' ∧ Ex F1 F', ⟨_, rfl, Nat.zero_le _, F1, I1.pushL hD (Nat.zero_le _) .nil, Ex.refl _⟩, ?_⟩
  rintro i m H' ⟨rfl, hi', F', I', e'⟩
  by_cases hlt : i < xs.length
  · have hx : xs[i]? = some xs[i] := List.getElem?_eq_getElem hlt
    generalize hX : xs[i] = x at hx
    have hmem : x ∈ xs := List.mem_of_getElem? hx
    obtain ⟨go, yl⟩ := (tn i F' H' e' I'.ex).1 (e x) (by rw [List.getElem?_map, hx]; rfl)
    have next : ((xs.take (i + 1)).flatMap fun x => ((ys x).filter (f x)).map (w x)) = ((xs.take i).flatMap fun x => ((ys x).filter (f x)).map (w x)) ++ ((ys x).filter (f x)).map (w x) := by
      rw [take_next hx, List.flatMap_append, List.flatMap_cons, List.flatMap_nil, List.append_nil]
    refine .inr ⟨go, fun H2 => ∃ F2, Ok B (.own D (oL K) ((xs.take (i + 1)).flatMap fun x => ((ys x).filter (f x)).map (w x)) :: Γ) (some (.ref D) :: σ) F2 H2 ∧ Ex F1 F2, fun H2 ⟨F2, a, b⟩ => ⟨xs.length - (i + 1), by omega, rfl, hlt, F2, a, b⟩, fun v H3 hy => ?_⟩
    obtain ⟨F3, carry, e3, dx⟩ := yl v H3 hy
    have I3 := carry _ _ _ I'
    obtain ⟨Γi, hg, eg, tT, nv, hi1, hin⟩ := ht x hmem
    generalize hA : ((xs.take i).flatMap fun x => ((ys x).filter (f x)).map (w x)) = A0 at I3 next
    have lA : A0.length + (ys x).length ≤ wee := by
      have a1 : A0.length ≤ ((xs.take i).map fun x => (ys x).length).sum := by rw [← hA]; exact flat_len
      have a2 := take_sum (h := fun x => (ys x).length) hx
      omega
    obtain ⟨B', Iw, back⟩ := TL.under (τ := [some (.ref D)]) (Δ := [.own D (oL K) A0]) rfl I3
    have pl : ∀ {F' H' : Hp}, Ex F3 F' → ∀ j ∈ vs, ∀ s, Γ[j]? = some s → ∃ x, σ[j]? = some x ∧ SlOk F' H' x s [] := fun e => Iw.plain hv e
    have lens := I.lens
    refine hg B' _ F3 H3 v (Iw.wipe (vs := vs)) dx _ fun σ2 es I4 => ⟨es.trans wipe_wipe, ?_⟩
    have es' : L2.wipe σ2 vs = L2.wipe σ vs := es.trans wipe_wipe
    refine tT B' σ2 F3 H3 I4 _ fun Γ5 b F5 H5 ⟨a1, a2⟩ I5 e5 => ?_
    subst a1 a2
    show wi1 σ2 H5 _
    refine hi1 B' σ2 F5 H5 I5 _ fun J1 F6 H6 I6 e6 tn1 _ => ?_
    have S6 := back _ _ _ _ I6
    -- the inner turns, told over Γ5 (the outer name in it)
    refine ⟨fun j k H' => k = (ys x).length - j ∧ j ≤ (ys x).length ∧ ∃ F', Ok B (.own D (oL K) (A0 ++ (((ys x).take j).filter (f x)).map (w x)) :: Γ5) (some (.ref D) :: σ2) F' H' ∧ Ex F6 F', ⟨_, rfl, Nat.zero_le _, F6, by rw [List.take_zero, List.filter_nil, List.map_nil, List.append_nil]; exact S6, Ex.refl _⟩, ?_⟩
    rintro j k Hj ⟨rfl, hj', Fj, Ij, ej⟩
    have eA : Ex F3 Fj := (e5.trans e6).trans ej
    by_cases hjl : j < (ys x).length
    · have hy1 : (ys x)[j]? = some (ys x)[j] := List.getElem?_eq_getElem hjl
      generalize hY : (ys x)[j] = y at hy1
      have hmy : y ∈ ys x := List.mem_of_getElem? hy1
      obtain ⟨go1, yl1⟩ := (tn1 j Fj Hj ej Ij.ex).1 (e1 y) (by rw [List.getElem?_map, hy1]; rfl)
      refine .inr ⟨go1, fun H2 => ∃ F2, Ok B (.own D (oL K) (A0 ++ (((ys x).take (j + 1)).filter (f x)).map (w x)) :: Γ5) (some (.ref D) :: σ2) F2 H2 ∧ Ex F6 F2, fun H2 ⟨F2, a, b⟩ => ⟨(ys x).length - (j + 1), by omega, rfl, hjl, F2, a, b⟩, fun v1 H7 hy7 => ?_⟩
      obtain ⟨F7, carry1, e7, dx1⟩ := yl1 v1 H7 hy7
      have I7 := carry1 _ _ _ Ij
      obtain ⟨Γj, hgj, egj, tTj, eTj⟩ := hin y hmy
      obtain ⟨B2, Iv, back2⟩ := TL.under (τ := [some (.ref D)]) (Δ := [.own D (oL K) (A0 ++ (((ys x).take j).filter (f x)).map (w x))]) rfl I7
      have pl2 : ∀ {F' H' : Hp}, Ex F7 F' → ∀ j ∈ vs1, ∀ s, Γ5[j]? = some s → ∃ x, σ2[j]? = some x ∧ SlOk F' H' x s [] := fun e => Iv.plain nv e
      have lens2 := Iv.lens
      refine hgj B2 _ F7 H7 v1 (Iv.wipe (vs := vs1)) dx1 _ fun σ3 es3 I8 => ⟨es3.trans wipe_wipe, ?_⟩
      have es3' : L2.wipe σ3 vs1 = L2.wipe σ2 vs1 := es3.trans wipe_wipe
      refine tTj B2 σ3 F7 H7 I8 _ fun Γ9 b F9 H9 ⟨a1, a2⟩ I9 e9 => ?_
      subst a1 a2
      cases hb : f x y with
      | false =>
        show ∃ F2, _ ∧ _
        refine ⟨F9, ?_, (ej.trans e7).trans e9⟩
        rw [take_next hy1, List.filter_append, List.filter_cons, hb]
        simp only [Bool.false_eq_true, if_false, List.filter_nil, List.append_nil]
        exact back2 _ _ _ _ (I9.back es3' egj lens2 (pl2 e9))
      | true =>
        show te σ3 H9 _
        refine (eTj hb) B2 σ3 F9 H9 I9 _ fun Γ10 s10 z F10 H10 ⟨a1, a2⟩ I10 e10 => ?_
        subst a1 a2
        obtain ⟨z', ez, dz⟩ := Ok.head I10
        cases ez
        have I11 := back2 _ _ _ _ ((Ok.pop I10).back es3' egj lens2 (pl2 (e9.trans e10)))
        have lz : (A0 ++ (((ys x).take j).filter (f x)).map (w x)).length ≤ A0.length + j := by
          rw [List.length_append, List.length_map]
          exact Nat.add_le_add_left (Nat.le_trans (List.length_filter_le _ _) (by rw [List.length_take]; omega)) _
        obtain ⟨acc, _, hAc, hlc, I12⟩ := Ok.appL I11 dz (by omega)
        refine ⟨acc, hAc, by rw [hlc]; exact Nat.lt_of_le_of_lt (show _ ≤ wee by omega) (by decide), F10, ?_, ((ej.trans e7).trans e9).trans e10⟩
        rw [take_next hy1, List.filter_append, List.filter_cons, hb]
        simp only [if_true, List.filter_nil, List.map_append, List.map_cons, List.map_nil]
        rw [← List.append_assoc]
        exact I12
    · have ej2 : j = (ys x).length := by omega
      subst ej2
      refine .inl ⟨(tn1 _ Fj Hj ej Ij.ex).2 (by simp), ?_⟩
      rw [List.take_length] at Ij
      obtain ⟨B3, Iu, back3⟩ := TL.under (τ := [some (.ref D)]) (Δ := [.own D (oL K) (A0 ++ ((ys x).filter (f x)).map (w x))]) rfl Ij
      refine ⟨Fj, ?_, (e'.trans e3).trans eA⟩
      rw [next]
      exact back3 _ _ _ _ (Iu.back es' eg lens (pl eA))
  · have ei : i = xs.length := by omega
    subst ei
    refine .inl ⟨(tn _ F' H' e' I'.ex).2 (by simp), ?_⟩
    rw [List.take_length] at I'
    exact q _ _ _ F' H' ⟨rfl, D, rfl⟩ I' (e1'.trans e')
end
end TL
/-! TL18: found = found + .., found a list of one's own. -/
namespace TL
open PySem L2
open Evl (Ex ex_l ex_t)
section
variable {K : PySem.W.Frag} {Γ : List Sl} {tb : TE} {i : Nat} {ds es : List PyData}
theorem eo_catOwn {p : Addr} (e : Γ[i]? = some (.own p (oL K) ds)) (hb : EP tb Γ (Da K (.list es))) (hz : ds.length + es.length ≤ wee) : EO (tOp (rCatS K) (tVar i) tb) Γ (oL K) (ds ++ es) := fun B σ F H I Q q => by
  obtain ⟨g1, _⟩ := I.at_own e
  refine ⟨_, g1, ?_⟩
  refine hb B σ F H I _ fun Γ1 s1 v F1 H1 ⟨a, b⟩ I1 e1 => ?_
  subst a b
  obtain ⟨v', ev, hv⟩ := Ok.head I1
  cases ev
  have I2 := Ok.pop I1
  obtain ⟨_, fp, _, xs, h1, _, h2⟩ := I2.at_own e
  cases hv with
  | @lst b zs _ h3 _ h4 =>
    exact ⟨p, b, xs, zs, rfl, rfl, SqL.of h1, ex_l I2.ex h3, Nat.le_trans (by rw [h2.len, h4.len]; exact hz) (by decide), fun p2 hp => q _ _ _ F1 _ ⟨rfl, p2, rfl⟩ (I2.pushL hp (by rw [List.length_append]; exact hz) (h2.append h4)) e1⟩
/-- a name's object handed on -/
theorem e_own {α : Type} {o : Ow α} {a : α} {p : Addr} {k : List Sl → Sl → Prop} (e : Γ[i]? = some (.own p o a)) (h : k (Γ.set i .no) (.own p o a)) : E (tVar i) Γ k := fun B σ F H I Q q => by
  obtain ⟨g1, _⟩ := I.at_own e
  obtain ⟨x, ex, I2⟩ := I.lift e
  rw [g1] at ex
  cases ex
  have I3 := Ok.forget (i := i + 1) (x := some (.ref p)) I2
  have e1 : (some (V.ref p) :: σ.set i none).set (i + 1) (some (.ref p)) = some (.ref p) :: σ := by
    rw [List.set_cons_succ, List.set_set, set_self g1]
  have e2 : (Sl.own p o a :: Γ.set i .no).set (i + 1) .no = .own p o a :: Γ.set i .no := by
    rw [List.set_cons_succ, List.set_set]
  rw [e1, e2] at I3
  exact ⟨_, g1, q _ _ _ F H h I3 (Ex.refl F)⟩
end
end TL
/-! TL19: lists of lists of one's own. -/
namespace TL
open PySem L2
open Evl (Ex ex_l ex_t)
section
variable {K : PySem.W.Frag} {B : Bs} {Γ Γd Δ : List Sl} {σ τ : St} {F F' H H' : Hp} {te tj : TE} {i : Nat} {d : PyData} {k : List Sl → Sl → Prop}
/-- what some slots own, done anew and owned by one -/
theorem Ok.redo {s' : Sl} {x' : Option V} (h : Ok B (Δ ++ Γ) (τ ++ σ) F H) (hl : τ.length = Δ.length)
    (k : ∀ fpd, SlsOk F H τ Δ fpd → fpd.flatten.Nodup → ∃ fp', fp'.Perm fpd.flatten ∧ SlOk F H' x' s' fp' ∧ (∀ r, r ∉ fpd.flatten → H' r = H r) ∧ ∀ r ∈ fpd.flatten, ∃ o, H' r = some o) : Ok B (s' :: Γ) (x' :: σ) F H' := by
  obtain ⟨L, h⟩ := h
  obtain ⟨f1, f2, eL, g1, g2⟩ := split hl h.sl
  subst eL
  have nd := h.nd
  rw [List.flatten_append, List.nodup_append] at nd
  obtain ⟨n1, n2, n3⟩ := nd
  obtain ⟨fp', pm, u, same, there⟩ := k f1 g1 n1
  have in1 : ∀ q ∈ f1.flatten, q ∈ (f1 ++ f2).flatten := fun q z => by rw [List.flatten_append]; exact List.mem_append_left _ z
  have in2 : ∀ q ∈ f2.flatten, q ∈ (f1 ++ f2).flatten := fun q z => by rw [List.flatten_append]; exact List.mem_append_right _ z
  have all : ∀ q ∈ (fp' :: f2).flatten, q ∈ (f1 ++ f2).flatten := fun q z => by
    rw [List.flatten_cons] at z
    rcases List.mem_append.mp z with z | z
    · exact in1 q (pm.mem_iff.mp z)
    · exact in2 q z
  refine ⟨fp' :: f2, .cons u (g2.frame (Ex.refl F) fun q z => same q fun y => n3 q y q z rfl), ?_, fun q z => h.fz q (all q z), fun q o e => ?_, h.bF, h.bG, fun q o e na r => ?_, ⟨fun q o e => ?_, ⟨tabs_keep h.bD.2.1 fun q o e r => (same q fun z => r (g1.regs q z o e)).trans e, h.bD.2.2⟩⟩, fun q z => h.bO q (all q z)⟩
  · rw [List.flatten_cons, List.nodup_append]
    exact ⟨pm.nodup_iff.mpr n1, n2, fun x hx y hy e => n3 x (pm.mem_iff.mp hx) y hy e⟩
  · have : q ∉ f1.flatten := fun z => by have := h.fz q (in1 q z); rw [this] at e; cases e
    rw [same q this]; exact h.ex q o e
  · have : q ∉ f1.flatten := fun z => by
      rcases h.bO q (in1 q z) with y | y
      · exact na y
      · rw [y] at e; cases e
    rw [same q this]; exact h.bK q o e na r
  · by_cases z : q ∈ f1.flatten
    · exact there q z
    · rw [same q z]; exact h.bD.1 q o e
/-- a list of lists, all of one's own -/
def oLL (K : PySem.W.Frag) : Ow (List (List PyData)) where
  O := fun F H p fp dss => ∃ ps : List Addr, fp = p :: ps ∧ H p = some (.lst (ps.map V.ref)) ∧ ps.length = dss.length ∧ dss.length ≤ wee ∧ ∀ (j : Nat) (q : Addr) (ds : List PyData), ps[j]? = some q → dss[j]? = some ds → ∃ xs, H q = some (.lst xs) ∧ ds.length ≤ wee ∧ DqAll K F xs ds
  frame := fun {F F' H H' p fp a} e k ⟨ps, h1, h2, h3, h4, h5⟩ => by
    subst h1
    refine ⟨ps, rfl, by rw [k p List.mem_cons_self]; exact h2, h3, h4, fun j q ds hj hd => ?_⟩
    obtain ⟨xs, x1, x2, x3⟩ := h5 j q ds hj hd
    exact ⟨xs, by rw [k q (List.mem_cons_of_mem _ (List.mem_of_getElem? hj))]; exact x1, x2, DqAll.mono e _ _ x3⟩
  there := fun {F H p fp a} ⟨ps, h1, h2, h3, h4, h5⟩ q hq => by
    subst h1
    rcases List.mem_cons.mp hq with e | hq
    · subst e; exact ⟨_, h2⟩
    · obtain ⟨j, hj⟩ := List.mem_iff_getElem?.mp hq
      have hl : j < a.length := by rw [← h3]; exact (List.getElem?_eq_some_iff.mp hj).1
      obtain ⟨xs, x1, _⟩ := h5 j q a[j] hj (List.getElem?_eq_getElem hl)
      exact ⟨_, x1⟩
  regs := fun {F H p fp a} ⟨ps, h1, h2, h3, h4, h5⟩ q hq o ho => by
    subst h1
    rcases List.mem_cons.mp hq with e | hq
    · subst e; rw [h2] at ho; cases ho; exact reg_lst
    · obtain ⟨j, hj⟩ := List.mem_iff_getElem?.mp hq
      have hl : j < a.length := by rw [← h3]; exact (List.getElem?_eq_some_iff.mp hj).1
      obtain ⟨xs, x1, _⟩ := h5 j q a[j] hj (List.getElem?_eq_getElem hl)
      rw [x1] at ho; cases ho; exact reg_lst
/-- one more list -/
theorem Ok.addLL {p q : Addr} {ds : List PyData} {dss : List (List PyData)} {x y : Option V} (h : Ok B (.own q (oL K) ds :: .own p (oLL K) dss :: Γ) (y :: x :: σ) F H) (hz : dss.length + 1 ≤ wee) :
    ∃ acc, H p = some (.lst acc) ∧ acc.length = dss.length ∧ Ok B (.own p (oLL K) (dss ++ [ds]) :: Γ) (x :: σ) F (upd H p (.lst (acc ++ [.ref q]))) := by
  have key : ∀ fpd, SlsOk F H [y, x] [.own q (oL K) ds, .own p (oLL K) dss] fpd → ∃ ps, H p = some (.lst (List.map V.ref ps)) ∧ ps.length = dss.length := fun fpd g => by
    cases g with
    | cons a b =>
      cases b with
      | cons c d =>
        cases c with
        | own ho => obtain ⟨ps, _, h2, h3, _⟩ := ho; exact ⟨ps, h2, h3⟩
  obtain ⟨acc0, ha0, hl0⟩ : ∃ ps, H p = some (.lst (List.map V.ref ps)) ∧ ps.length = dss.length := by
    obtain ⟨L, g⟩ := h
    obtain ⟨f1, f2, eL, g1, g2⟩ := split (σ₁ := [y, x]) (Γ₁ := [.own q (oL K) ds, .own p (oLL K) dss]) rfl g.sl
    exact key f1 g1
  refine ⟨acc0.map V.ref, ha0, by rw [List.length_map]; exact hl0, Ok.redo (Δ := [.own q (oL K) ds, .own p (oLL K) dss]) (τ := [y, x]) h rfl fun fpd g nd => ?_⟩
  cases g with
  | cons a b =>
    cases b with
    | cons c d =>
      cases d
      cases a with
      | own h1 =>
        cases c with
        | own h2 =>
          obtain ⟨e1, xs, x1, x2, x3⟩ := h1
          obtain ⟨ps, e2, y1, y2, y3, y4⟩ := h2
          subst e1 e2
          have eps : ps = acc0 := by
            rw [y1] at ha0
            have : ps.map V.ref = acc0.map V.ref := by injection ha0 with z; injection z
            exact (List.map_inj_right (fun x y z => by cases z; rfl)).mp this
          subst eps
          have nd' : (q :: p :: ps).Nodup := by simpa using nd
          have nqp : q ≠ p := fun e => (List.nodup_cons.mp nd').1 (by rw [e]; exact List.mem_cons_self)
          have npp : p ∉ ps := (List.nodup_cons.mp (List.nodup_cons.mp nd').2).1
          refine ⟨p :: (ps ++ [q]), ?_, .own ⟨ps ++ [q], rfl, by rw [upd_same, List.map_append]; rfl, by rw [List.length_append, List.length_append, y2]; rfl, by rw [List.length_append]; exact hz, fun j r es hj he => ?_⟩, fun r hr => ?_, fun r hr => ?_⟩
          · show (p :: (ps ++ [q])).Perm ([[q], p :: ps].flatten)
            have : [[q], p :: ps].flatten = q :: p :: ps := by simp
            rw [this]
            exact ((List.perm_append_comm (l₁ := ps) (l₂ := [q])).cons p).trans (.swap q p ps)
          · by_cases hlt : j < ps.length
            · rw [List.getElem?_append_left hlt] at hj
              rw [List.getElem?_append_left (by omega)] at he
              obtain ⟨zs, z1, z2, z3⟩ := y4 j r es hj he
              have : r ≠ p := fun e => npp (by rw [← e]; exact List.mem_of_getElem? hj)
              exact ⟨zs, by rw [upd_ne this]; exact z1, z2, z3⟩
            · have ej : j = ps.length := by
                have := (List.getElem?_eq_some_iff.mp hj).1
                rw [List.length_append] at this
                simp at this
                omega
              subst ej
              rw [List.getElem?_concat_length] at hj
              rw [y2, List.getElem?_concat_length] at he
              cases hj
              cases he
              exact ⟨xs, by rw [upd_ne nqp]; exact x1, x2, x3⟩
          · have : r ≠ p := fun e => hr (by rw [e]; simp)
            rw [upd_ne this]
          · by_cases e : r = p
            · rw [e]; exact ⟨_, upd_same⟩
            · rw [upd_ne e]
              have hr' : r ∈ q :: p :: ps := by simpa using hr
              rcases List.mem_cons.mp hr' with z | z
              · rw [z]; exact ⟨_, x1⟩
              · rcases List.mem_cons.mp z with z | z
                · exact absurd z e
                · obtain ⟨j, hj⟩ := List.mem_iff_getElem?.mp z
                  have hl : j < dss.length := by rw [← y2]; exact (List.getElem?_eq_some_iff.mp hj).1
                  obtain ⟨zs, z1, _⟩ := y4 j r dss[j] hj (List.getElem?_eq_getElem hl)
                  exact ⟨_, z1⟩
theorem oLL_at {F H : Hp} {p : Addr} {fp : List Addr} {dss : List (List PyData)} {vs0 : List V} (h : (oLL K).O F H p fp dss) (hv : H p = some (.lst vs0)) : ∃ ps : List Addr, vs0 = ps.map V.ref ∧ fp = p :: ps ∧ ps.length = dss.length ∧ dss.length ≤ wee ∧ ∀ (j : Nat) (q : Addr) (ds : List PyData), ps[j]? = some q → dss[j]? = some ds → ∃ xs, H q = some (.lst xs) ∧ ds.length ≤ wee ∧ DqAll K F xs ds := by
  obtain ⟨ps, e2, y1, y2, y3, y4⟩ := h
  rw [y1] at hv
  have : ps.map V.ref = vs0 := by injection hv with z; injection z
  exact ⟨ps, this.symm, e2, y2, y3, y4⟩
/-- a thing more in the list at j -/
theorem Ok.appLL {p q : Addr} {dss : List (List PyData)} {x : Option V} {v : V} {vs0 : List V} {j : Nat} (h : Ok B (.own p (oLL K) dss :: Γ) (x :: σ) F H) (hv0 : H p = some (.lst vs0)) (hq : vs0[j]? = some (.ref q)) (hj : j < dss.length) (hv : Dq K F v d) (hz : (dss[j]).length + 1 ≤ wee) :
    ∃ xs, H q = some (.lst xs) ∧ xs.length = (dss[j]).length ∧ Ok B (.own p (oLL K) (dss.set j (dss[j] ++ [d])) :: Γ) (x :: σ) F (upd H q (.lst (xs ++ [v]))) := by
  have pre : ∃ xs, H q = some (.lst xs) ∧ xs.length = (dss[j]).length := by
    obtain ⟨L, g⟩ := h
    cases g.sl with
    | cons a b =>
      cases a with
      | own ho =>
        obtain ⟨ps, e0, _, _, _, y4⟩ := oLL_at ho hv0
        subst e0
        have hq' : ps[j]? = some q := by
          rw [List.getElem?_map] at hq
          cases e : ps[j]? with
          | none => rw [e] at hq; cases hq
          | some r => rw [e] at hq; cases hq; rfl
        obtain ⟨xs, x1, _, x3⟩ := y4 j q dss[j] hq' (List.getElem?_eq_getElem hj)
        exact ⟨xs, x1, x3.len⟩
  obtain ⟨xs, hx, hxl⟩ := pre
  refine ⟨xs, hx, hxl, Ok.redo (Δ := [.own p (oLL K) dss]) (τ := [x]) h rfl fun fpd g nd => ?_⟩
  cases g with
  | cons a b =>
    cases b
    cases a with
    | @own _ _ _ _ fp ho =>
      obtain ⟨ps, e0, e2, y2, y3, y4⟩ := oLL_at ho hv0
      subst e0 e2
      have nd' : (p :: ps).Nodup := by simpa using nd
      have hq' : ps[j]? = some q := by
        rw [List.getElem?_map] at hq
        cases e : ps[j]? with
        | none => rw [e] at hq; cases hq
        | some r => rw [e] at hq; cases hq; rfl
      have nqp : p ≠ q := fun e => (List.nodup_cons.mp nd').1 (by rw [e]; exact List.mem_of_getElem? hq')
      refine ⟨p :: ps, by simp, .own ⟨ps, rfl, by rw [upd_ne nqp]; exact hv0, by rw [List.length_set]; exact y2, by rw [List.length_set]; exact y3, fun m r es hm he => ?_⟩, fun r hr => ?_, fun r hr => ?_⟩
      · by_cases e : m = j
        · subst e
          rw [hq'] at hm
          cases hm
          rw [List.getElem?_set_self hj] at he
          cases he
          obtain ⟨zs, z1, z2, z3⟩ := y4 m q dss[m] hq' (List.getElem?_eq_getElem hj)
          rw [hx] at z1
          cases z1
          exact ⟨xs ++ [v], upd_same, by rw [List.length_append]; exact hz, z3.append (.cons hv .nil)⟩
        · rw [List.getElem?_set_ne (Ne.symm e)] at he
          obtain ⟨zs, z1, z2, z3⟩ := y4 m r es hm he
          have : r ≠ q := fun e2 => by
            subst e2
            have nd2 := (List.nodup_cons.mp nd').2
            obtain ⟨a1, a2⟩ := List.getElem?_eq_some_iff.mp hm
            obtain ⟨b1, b2⟩ := List.getElem?_eq_some_iff.mp hq'
            rcases Nat.lt_or_gt_of_ne e with lt | lt
            · exact List.pairwise_iff_getElem.mp nd2 m j a1 b1 lt (a2.trans b2.symm)
            · exact List.pairwise_iff_getElem.mp nd2 j m b1 a1 lt (b2.trans a2.symm)
          exact ⟨zs, by rw [upd_ne this]; exact z1, z2, z3⟩
      · have : r ≠ q := fun e => hr (by rw [e]; simp; exact .inr (List.mem_of_getElem? hq'))
        rw [upd_ne this]
      · by_cases e : r = q
        · rw [e]; exact ⟨_, upd_same⟩
        · rw [upd_ne e]
          have hr' : r ∈ p :: ps := by simpa using hr
          rcases List.mem_cons.mp hr' with z | z
          · rw [z]; exact ⟨_, hv0⟩
          · obtain ⟨m, hm⟩ := List.mem_iff_getElem?.mp z
            have hl : m < dss.length := by rw [← y2]; exact (List.getElem?_eq_some_iff.mp hm).1
            obtain ⟨zs, z1, _⟩ := y4 m r dss[m] hm (List.getElem?_eq_getElem hl)
            exact ⟨_, z1⟩
theorem dq_lists {F : Hp} : ∀ {ps : List Addr} {dss : List (List PyData)}, ps.length = dss.length → (∀ (j : Nat) (q : Addr) (ds : List PyData), ps[j]? = some q → dss[j]? = some ds → ∃ xs, F q = some (.lst xs) ∧ ds.length ≤ wee ∧ DqAll K F xs ds) → DqAll K F (ps.map V.ref) (dss.map .list)
  | [], [], _, _ => .nil
  | [], _ :: _, h, _ => by cases h
  | _ :: _, [], h, _ => by cases h
  | q :: ps, ds :: dss, h, k => by
    obtain ⟨xs, x1, x2, x3⟩ := k 0 q ds rfl rfl
    exact .cons (.lst (.inl (.inl x1)) x2 x3) (dq_lists (Nat.succ.inj h) fun j r es a b => k (j + 1) r es a b)
/-- it stands still from now on -/
theorem Ok.freezeLL {p : Addr} {dss : List (List PyData)} {x : Option V} (h : Ok B (.own p (oLL K) dss :: Γ) (x :: σ) F H) : ∃ F', x = some (.ref p) ∧ Ex F F' ∧ Ok B (Da K (.list (dss.map .list)) :: Γ) (x :: σ) F' H := by
  obtain ⟨L, h⟩ := h
  cases h.sl with
  | @cons x s fp σ Γ fps u w =>
    cases u with
    | own ho =>
      have inl : ∀ q ∈ fp, q ∈ (fp :: fps).flatten := fun q z => by rw [List.flatten_cons]; exact List.mem_append_left _ z
      have inr : ∀ q ∈ fps.flatten, q ∈ (fp :: fps).flatten := fun q z => by rw [List.flatten_cons]; exact List.mem_append_right _ z
      have nd := h.nd
      rw [List.flatten_cons, List.nodup_append] at nd
      obtain ⟨F2, cell, other⟩ : ∃ F2 : Hp, (∀ q ∈ fp, F2 q = H q) ∧ ∀ q, q ∉ fp → F2 q = F q := ⟨fun r => if r ∈ fp then H r else F r, fun q z => if_pos z, fun q z => if_neg z⟩
      have eF : Ex F F2 := fun q o e => by
        have : q ∉ fp := fun z => by have := h.fz q (inl q z); rw [this] at e; cases e
        rw [other q this]; exact e
      have ho2 : (oLL K).O F H p fp dss := ho
      obtain ⟨ps, e0, y1, y2, y3, y4⟩ := ho
      refine ⟨_, rfl, eF, [] :: fps, .cons (.val ?_) (w.frame eF fun q _ => rfl), nd.2.1, fun q z => ?_, fun q o z => ?_, h.bF.trans eF, fun q o z => ?_, h.bK, ⟨h.bD.1, h.bD.2.grow fun q => if z : q ∈ fp then .inr (by obtain ⟨o, e⟩ := (oLL K).there ho2 q z; exact ⟨o, e, (oLL K).regs ho2 q z o e⟩) else .inl (other q z)⟩, fun q z => h.bO q (inr q z)⟩
      · refine Dq.lst (xs := ps.map V.ref) (.inl (.inl ?_)) (by rw [List.length_map]; exact y3) (dq_lists y2 fun j q ds hj hd => ?_)
        · rw [cell p (by rw [e0]; exact List.mem_cons_self)]; exact y1
        · obtain ⟨xs, x1, x2, x3⟩ := y4 j q ds hj hd
          exact ⟨xs, by rw [cell q (by rw [e0]; exact List.mem_cons_of_mem _ (List.mem_of_getElem? hj))]; exact x1, x2, DqAll.mono eF _ _ x3⟩
      · have : q ∉ fp := fun y => nd.2.2 q y q z rfl
        rw [other q this]; exact h.fz q (inr q z)
      · by_cases y : q ∈ fp
        · rw [cell q y] at z; exact z
        · rw [other q y] at z; exact h.ex q o z
      · by_cases y : q ∈ fp
        · rcases h.bO q (inl q y) with a | a
          · exact .inr (.inr a)
          · exact .inr (.inl a)
        · rw [other q y] at z; exact h.bG q o z
end
end TL
/-! TL20: rows = [[] for ..]; rows[i].append(x); the rows frozen. -/
namespace TL
open PySem L2
open Evl (Ex ex_l ex_t)
section
variable {K : PySem.W.Frag} {B : Bs} {Γ Γd : List Sl} {σ : St} {F H : Hp} {te tj : TE} {ta : TA} {wi : TI} {t : TS} {D : AD} {i j : Nat} {d : PyData} {k : List Sl → Sl → Prop}
theorem eo_nils {α : Type} {xs : List α} {e : α → PyData} (hi : IP K wi Γ (xs.map e)) (hv : NoOwn Γ [j] := by exact noOwn) : EO (tLc wi (gName j) tYes (tLst tNil) [j]) Γ (oLL K) (List.replicate xs.length []) := fun B σ F H I Q q => by
  refine hi B σ F H I _ fun J F1 H1 I1 e1 tn hz D hD => ?_
  rw [List.length_map] at hz
  refine ⟨fun i m H' => m = xs.length - i ∧ i ≤ xs.length ∧ ∃ F', Ok B (.own D (oLL K) (List.replicate i []) :: Γ) (some (.ref D) :: σ) F' H' ∧ Ex F1 F', ⟨_, rfl, Nat.zero_le _, F1, ?_, Ex.refl _⟩, ?_⟩
  · obtain ⟨L, h⟩ := I1
    exact ⟨_, h.pushO hD ⟨[], rfl, upd_same, rfl, Nat.zero_le _, fun j q ds hj => by simp at hj⟩⟩
  rintro i m H' ⟨rfl, hi', F', I', e'⟩
  by_cases hlt : i < xs.length
  · have hx : xs[i]? = some xs[i] := List.getElem?_eq_getElem hlt
    obtain ⟨go, yl⟩ := (tn i F' H' e' I'.ex).1 (e xs[i]) (by rw [List.getElem?_map, hx]; rfl)
    refine .inr ⟨go, fun H2 => ∃ F2, Ok B (.own D (oLL K) (List.replicate (i + 1) []) :: Γ) (some (.ref D) :: σ) F2 H2 ∧ Ex F1 F2, fun H2 ⟨F2, a, b⟩ => ⟨xs.length - (i + 1), by omega, rfl, hlt, F2, a, b⟩, fun x H3 hy => ?_⟩
    obtain ⟨F3, carry, e3, dx⟩ := yl x H3 hy
    have I3 := carry _ _ _ I'
    obtain ⟨B', Iw, back⟩ := TL.under (τ := [some (.ref D)]) (Δ := [.own D (oLL K) (List.replicate i [])]) rfl I3
    have lens := Iw.lens
    refine (gp_name (K := K) (j := j) (vs := [j]) (d := e xs[i]) (List.mem_singleton.mpr rfl)) B' _ F3 H3 x (Iw.wipe (vs := [j])) dx _ fun σ2 es I4 => ⟨es.trans wipe_wipe, ?_⟩
    have es' : L2.wipe σ2 [j] = L2.wipe σ [j] := es.trans wipe_wipe
    refine tp_yes B' σ2 F3 H3 I4 _ fun Γ5 b F5 H5 ⟨a1, a2⟩ I5 e5 => ?_
    subst a1 a2
    rw [if_pos rfl]
    have I6 := back _ _ _ _ (I5.back (Γ' := Γ) es' (by show (((Γ.set j .no).set j (Da K (e xs[i]))).set j .no) = Γ.set j .no; rw [List.set_set, List.set_set]) lens (Iw.plain hv e5))
    refine ⟨Nat.zero_le _, fun q hq => ?_⟩
    have I7 := Ok.pushL (K := K) (ds := []) (xs := []) I6 hq (Nat.zero_le _) .nil
    obtain ⟨acc, hA, hl, I8⟩ := Ok.addLL I7 (by rw [List.length_replicate]; omega)
    refine ⟨acc, hA, by rw [hl, List.length_replicate]; exact Nat.lt_of_lt_of_le hlt (Nat.le_trans hz (by decide)), F5, ?_, (e'.trans e3).trans e5⟩
    rw [List.replicate_succ']
    exact I8
  · have ei : i = xs.length := by omega
    subst ei
    exact .inl ⟨(tn _ F' H' e' I'.ex).2 (by simp), q _ _ _ F' H' ⟨rfl, D, rfl⟩ I' (e1.trans e')⟩
/-- rows[n].append(x), x a datum without cells -/
theorem e_appLL {p : Addr} {dss : List (List PyData)} {n : Int} (e : Γ[i]? = some (.own p (oLL K) dss)) (hf : Frz Γ Γd) (hj : EP tj Γd (Da K (.int n))) (hd : EP te Γd (Da K d)) (ha : atomD d = true) (h0 : 0 ≤ n) (hn : n.toNat < dss.length) (hz : (dss[n.toNat]).length + 1 ≤ wee)
    (hk : k (Γ.set i (.own p (oLL K) (dss.set n.toNat (dss[n.toNat] ++ [d])))) (Da K .none)) : E (tBM K "list" rAppend (tOp (rIxL K) (tVar i) tj) (tCons te tNil)) Γ k := fun B σ F H I Q q => by
  obtain ⟨g1, fp, ps0, y0, y1, y2, y3, y4⟩ := I.at_own e
  obtain ⟨F2, I2, eF⟩ := hf B σ F H I
  refine ⟨_, g1, ?_⟩
  refine hj ⟨F2, H, [], B.T⟩ σ F2 H I2 _ fun Γ1 s1 v1 F3 H3 ⟨a, b⟩ I3 e3 => ?_
  subst a b
  obtain ⟨v', ev, hv1⟩ := Ok.head I3
  cases ev
  cases hv1
  have I4 := Ok.pop I3
  have k1 : Kp B.T F H H3 := I3.kp eF
  have hps : n.toNat < ps0.length := by rw [y2]; exact hn
  obtain ⟨xs0, x1, _⟩ := y4 n.toNat ps0[n.toNat] dss[n.toNat] (List.getElem?_eq_getElem hps) (List.getElem?_eq_getElem hn)
  refine ⟨p, ps0.map V.ref, n, .ref ps0[n.toNat], rfl, rfl, SqL.of (k1.1 p _ y1 reg_lst.1), ?_, Or.inl ⟨rfl, xs0, SqL.of (k1.1 _ _ x1 reg_lst.1)⟩, ?_⟩
  · rw [atI_nat' h0 (by rw [List.length_map]; exact hps), List.getElem_map]
  refine hd ⟨F2, H, [], B.T⟩ σ F3 H3 I4 _ fun Γ5 s5 v5 F6 H6 ⟨a, b⟩ I6 e6 => ?_
  subst a b
  obtain ⟨v', ev, hv5⟩ := Ok.head I6
  cases ev
  have k2 : Kp B.T F H H6 := I6.kp eF
  have I7 := I.keep k2
  obtain ⟨x, ex, I8⟩ := I7.lift e
  rw [g1] at ex
  cases ex
  obtain ⟨xs, hx, hxl, I9⟩ := Ok.appLL (j := n.toNat) (q := ps0[n.toNat]) I8 (k2.1 p _ y1 reg_lst.1) (by rw [List.getElem?_map, List.getElem?_eq_getElem hps]; rfl) hn (hv5.atom ha) hz
  refine ⟨ps0[n.toNat], xs, v5, rfl, rfl, hx, ?_, ?_⟩
  · rw [hxl]; exact Nat.lt_of_lt_of_le (Nat.lt_of_succ_le hz) (by decide)
  · have I10 := Ok.store (i := i) I9
    rw [List.set_set, List.set_set, set_self g1] at I10
    exact q _ _ _ F _ hk (I10.push Dq.non) (Ex.refl F)
theorem s_frzLL {p : Addr} {dss : List (List PyData)} (e : Γ[i]? = some (.own p (oLL K) dss)) (h : S B t (Γ.set i (Da K (.list (dss.map .list)))) D) : S B t Γ D := fun σ F H I D' hn hr hb hc => by
  obtain ⟨x, ex, I2⟩ := I.lift e
  obtain ⟨F', e1, e2, I3⟩ := I2.freezeLL
  have I4 := Ok.store (i := i) I3
  rw [List.set_set, List.set_set, set_self ex] at I4
  exact h σ F' H I4 D' (fun a b c d p q r => hn a b c d p q (e2.trans r)) (fun a b c d f g p q r => hr a b c d f g p q (e2.trans r)) (fun a b c d p q r => hb a b c d p q (e2.trans r)) (fun a b c d p q r => hc a b c d p q (e2.trans r))
end
end TL
/-! TL21: list(range(n)), tuple(range(n)). -/
namespace TL
open PySem L2
open Evl (Ex ex_l ex_t)
section
variable {K : PySem.W.Frag} {Γ : List Sl} {ta tb : TE} {n m : Int}
theorem rgV_rng {a b : Int} : rgV a b = (rng a b).map V.int := by
  unfold rgV rng
  rw [List.map_map]
  rfl
/-- the ends of a range -/
def RG (t : St → Hp → (Int → Int → Hp → Prop) → Prop) (Γ : List Sl) (a b : Int) : Prop := ∀ (B : Bs) (σ : St) (F H : Hp), Ok B Γ σ F H → ∀ Q : Int → Int → Hp → Prop, (∀ F' H', Ok B Γ σ F' H' → Ex F F' → Q a b H') → t σ H Q
theorem rg_1 (h : EP ta Γ (Da K (.int n))) : RG (tRg1 ta) Γ 0 n := fun B σ F H I Q q => h B σ F H I _ fun Γ1 s1 v F1 H1 ⟨a, b⟩ I1 e1 => by
  subst a b
  obtain ⟨v', ev, hv⟩ := Ok.head I1
  cases ev
  cases hv
  exact ⟨n, rfl, q F1 H1 (Ok.pop I1) e1⟩
theorem eo_listRg {t : St → Hp → (Int → Int → Hp → Prop) → Prop} (h : RG t Γ m n) (h1 : -(2 ^ 62) ≤ m ∧ m < 2 ^ 62 ∧ -(2 ^ 62) ≤ n ∧ n < 2 ^ 62) (h2 : n - m ≤ 4096) : EO (tLstRg t) Γ (oL K) ((rng m n).map .int) := fun B σ F H I Q q => h B σ F H I _ fun F1 H1 I1 e1 => by
  refine ⟨⟨h1.1, h1.2.1, h1.2.2.1, h1.2.2.2, Nat.le_trans (show (n - m).toNat ≤ 4096 by omega) (by decide)⟩, fun p hp => ?_⟩
  rw [rgV_rng]
  exact q _ _ _ F1 _ ⟨rfl, p, rfl⟩ (I1.pushL hp (by rw [List.length_map, rng_len]; show _ ≤ 4096; omega) (ints_dq _)) e1
theorem ep_tupRg {t : St → Hp → (Int → Int → Hp → Prop) → Prop} (h : RG t Γ m n) (h1 : -(2 ^ 62) ≤ m ∧ m < 2 ^ 62 ∧ -(2 ^ 62) ≤ n ∧ n < 2 ^ 62) (h2 : n - m ≤ 4096) : EP (tTupRg t) Γ (Da K (.tuple ((rng m n).map .int))) := fun B σ F H I Q q => h B σ F H I _ fun F1 H1 I1 e1 => by
  refine ⟨⟨h1.1, h1.2.1, h1.2.2.1, h1.2.2.2, Nat.le_trans (show (n - m).toNat ≤ 4096 by omega) (by decide)⟩, fun p hp => ?_⟩
  rw [rgV_rng]
  have eF : Ex F1 (upd F1 p (.tup ((rng m n).map V.int))) := Ex.new (I1.nF hp)
  exact q _ _ _ _ _ ⟨rfl, rfl⟩ ((I1.alloc hp).push (Dq.tup (.inl (.inl upd_same)) (by rw [List.length_map, rng_len]; show _ ≤ 4096; omega) (ints_dq _))) (e1.trans eF)
end
end TL
/-! TL22: xs.pop() on a list of one's own. -/
namespace TL
open PySem L2
open Evl (Ex ex_l ex_t)
section
variable {X : Cx} {o : Expr} {te : TE}
theorem kPop (K : PySem.W.Frag) {apos cpos : Pos} (ho : PE X o te) (hbase : attributeBase o "pop" X.env (eval o X.env) = eval o X.env := by rfl) (hline : (apos.endLine == cpos.line) = true := by rfl) (h : X.K = K := by rfl) :
    PE X (.Call (.Attribute o "pop" apos) [] [] cpos) (tBM0 K "list" rPop te) := by
  subst h
  exact pe_bm0 PySem.F.plainAttrs_list PySem.F.slot_list_pop PySem.F.type_list_pop mt_pop ho hbase hline
end
section
variable {K : PySem.W.Frag} {B : Bs} {Γ : List Sl} {σ : St} {F H : Hp} {i : Nat} {d : PyData} {es : List PyData} {k : List Sl → Sl → Prop}
theorem DqAll.last {vs : List V} (h : DqAll K F vs (es ++ [d])) : ∃ us v, vs = us ++ [v] ∧ DqAll K F us es ∧ Dq K F v d := by
  induction es generalizing vs with
  | nil =>
    cases h with
    | cons a b => cases b; exact ⟨[], _, rfl, .nil, a⟩
  | cons e es ih =>
    cases h with
    | cons a b =>
      obtain ⟨us, v, e1, h1, h2⟩ := ih b
      subst e1
      exact ⟨_ :: us, v, rfl, .cons a h1, h2⟩
theorem Ok.popL {p : Addr} {x : Option V} (h : Ok B (.own p (oL K) (es ++ [d]) :: Γ) (x :: σ) F H) : ∃ us v, H p = some (.lst (us ++ [v])) ∧ Dq K F v d ∧ Ok B (.own p (oL K) es :: Γ) (x :: σ) F (upd H p (.lst us)) := by
  have pre : ∃ us v, H p = some (.lst (us ++ [v])) ∧ DqAll K F us es ∧ Dq K F v d ∧ es.length ≤ wee := by
    obtain ⟨L, g⟩ := h
    cases g.sl with
    | cons a b =>
      cases a with
      | own ho =>
        obtain ⟨_, xs, e2, e3, e4⟩ := ho
        obtain ⟨us, v, e, h1, h2⟩ := DqAll.last e4
        subst e
        rw [List.length_append] at e3
        exact ⟨us, v, e2, h1, h2, Nat.le_trans (Nat.le_add_right _ _) e3⟩
  obtain ⟨us, v, hH, hu, hv, hz⟩ := pre
  refine ⟨us, v, hH, hv, Ok.redo (Δ := [.own p (oL K) (es ++ [d])]) (τ := [x]) h rfl fun fpd g nd => ?_⟩
  cases g with
  | cons a b =>
    cases b
    cases a with
    | @own _ _ _ _ fp ho =>
      obtain ⟨e1, _⟩ := ho
      subst e1
      refine ⟨[p], by simp, .own ⟨rfl, us, upd_same, hz, hu⟩, fun r hr => upd_ne fun e => hr (by rw [e]; simp), fun r hr => ?_⟩
      have e : r = p := by simpa using hr
      rw [e]; exact ⟨_, upd_same⟩
theorem e_pop {p : Addr} (e : Γ[i]? = some (.own p (oL K) (es ++ [d]))) (h : k (Γ.set i (.own p (oL K) es)) (Da K d)) : E (tBM0 K "list" rPop (tVar i)) Γ k := fun B σ F H I Q q => by
  obtain ⟨g1, fp, _, xs0, g3, _⟩ := I.at_own e
  obtain ⟨x, ex, I3⟩ := I.lift e
  rw [g1] at ex
  cases ex
  obtain ⟨us, v, hH, hv, I4⟩ := Ok.popL I3
  refine ⟨_, g1, Or.inl ⟨rfl, xs0, SqL.of g3⟩, p, us ++ [v], v, rfl, rfl, hH, ?_, ?_⟩
  · rw [List.length_append]; simp
  · rw [List.dropLast_concat]
    have I5 := Ok.store (i := i) I4
    rw [List.set_set, List.set_set, set_self g1] at I5
    exact q _ _ v F _ h (I5.push hv) (Ex.refl F)
end
end TL
/-! TL23: calls whose arguments do something. -/
namespace TL
open PySem L2
open Evl (Ex ex_l ex_t)
section
variable {K : PySem.W.Frag} {Γ : List Sl} {k : List Sl → Sl → Prop}
theorem e_callA {R : Rl} {E' : XK} {t : TA} (ha : A t Γ fun Γ1 ss => ∃ ds d, ss = ds.map (Da K) ∧ R ds (.ok d) ∧ k Γ1 (Da K d)) : E (tCall (PF K R) [] E' t) Γ k := fun B σ F H I Q q =>
  ha B σ F H I _ fun Γ1 ss vs F1 H1 ⟨ds, d, a, hR, hk⟩ n I1 e1 => by
    subst a
    obtain ⟨h1, h2⟩ := Ok.all (by simpa using n) I1
    show PF K R (vs ++ []) H1 Q E'
    rw [List.append_nil]
    refine ⟨B.T, ds, _, F1, hR, Ok.exT h2, h1, fun d' s v F' H' e hs I' => ?_, fun x F' H' e _ => by cases e⟩
    cases e
    have I3 := h2.after I'
    have eF : Ex F1 F' := by
      obtain ⟨L, z⟩ := I'
      exact z.bF
    rcases hs with ⟨es, p, hd, hs⟩ | ⟨_, hs⟩
    · subst hd hs
      obtain ⟨F2, ex, e2, I4⟩ := Ok.freeze I3
      exact q _ _ v F2 H' hk I4 ((e1.trans eF).trans e2)
    · subst hs
      exact q _ _ v F' H' hk I3 (e1.trans eF)
theorem s_augI {B : Bs} {D : AD} {te : TE} {i : Nat} {a b : Int} {f : Int → Int → Int} (e : Γ[i]? = some (Da K (.int a))) (h : EP te Γ (Da K (.int b))) (hk : D.nx (Γ.set i (Da K (.int (f a b))))) : S B (tAug i te (ipI f)) Γ D := fun σ F H I D' hn hr hb hc => by
  obtain ⟨v, ev, hv⟩ := I.at_ e
  cases hv
  refine ⟨_, ev, ?_⟩
  refine h B σ F H I _ fun Γ1 s1 v1 F1 H1 ⟨p, q⟩ I1 e1 => ?_
  subst p q
  obtain ⟨v', ev', hv'⟩ := Ok.head I1
  cases ev'
  cases hv'
  refine ⟨a, b, rfl, rfl, ?_⟩
  exact hn _ _ F1 H1 hk ((Ok.pop I1).push (Dq.int (f a b))).store e1
end
end TL
/-! TL24: enumerate of a tuple (the library has lists): its making, its turns. -/
namespace TLS
open PySem PySem.Spec PyProof.Rows L2
open AutoSeq1 (wpAny_loadPart')
abbrev enumO (it : Addr) : Obj := { cls := .type "enumerate", data := .fields #[.none, .bool false, .ref it, rawInt 0, .none, .none] }
abbrev tupIt (l : Addr) : Obj := { cls := .type "tuple_iterator", data := .fields #[.ref l, .int 0 0] }
theorem enum_newT (l : Addr) (items : Array Value) (n : Nat) (dct : Option Addr) (sl : Array (Option Value)) :
    Meets (Builtin.«enumerate.__new__» ⟨[.type "enumerate", .ref l], []⟩) (fun _ R s => s.heap.get? l = some { cls := .type "tuple", dict := dct, data := .seq items n, slots := sl } ∧
      R (.ok (.ret (.ref (s.heap.push (tupIt l)).objs.size))) { s with heap := (s.heap.push (tupIt l)).push (enumO s.heap.objs.size) }) :=
  .of_wp fun prog w A R s h => by
    obtain ⟨hp, g, d, tk, os⟩ := s; obtain ⟨hl, h⟩ := h; have hsub := sub_enumerate
    have hL : Heap.IsTuple (Shared.heap ⟨hp, g, d, tk, os⟩) l items := ⟨_, hl, rfl, n, rfl⟩
    wp_walk using wpAny_loadPart' hl
    refine wpAny_stack_any fun st => wpAny_pure ?_; split
    · rename_i c _ _ _ _ _
      cases (c == Value.type "enumerate")
      · wp_walk using wpAny_loadPart' hl, wpAny_pyIter_tuple hL
        exact ⟨_, rfl, h⟩
      · wp_walk using wpAny_loadPart' hl, wpAny_pyIter_tuple hL
        exact ⟨_, rfl, h⟩
    · wp_walk using wpAny_loadPart' hl, wpAny_pyIter_tuple hL
      exact ⟨_, rfl, h⟩
section
variable {prog : Program} {w : World} {A : Around} {E : Value → Shared → Prop} {s : Shared}
theorem call_enumT {l : Addr} {items : Array Value} {Q : Value → Shared → Prop} (hL : s.heap.IsTuple l items)
    (h : ∀ h', IsEnum h' (s.heap.objs.size + 1) s.heap.objs.size 0 .none → h'.IsTupleIter s.heap.objs.size l 0 → h'.objs.size = s.heap.objs.size + 2 → (∀ b o, s.heap.get? b = some o → h'.get? b = some o) → Q (.ref (s.heap.objs.size + 1)) { s with heap := h' }) :
    wpAny (model prog w) A (call (.type "enumerate") [.ref l]) Q E s := by
  obtain ⟨⟨c, dct, dt, sl⟩, hl, hc, n, hd⟩ := hL
  replace hc : c = .type "tuple" := hc
  replace hd : dt = .seq items n := hd
  subst hc hd
  refine callType_new F.called_enumerate (by decide) (F.typeCall_enumerate_1 _) (F.newCall_enumerate_1 _) (fun obj => F.args_object_init_2 obj _) F.entry_enumerate_new (enum_newT l items n dct sl) ⟨hl, ?_⟩
  have hz : (s.heap.push (tupIt l)).objs.size = s.heap.objs.size + 1 := Heap.size_push ..
  show _ ∧ _; rw [hz]
  have he : IsEnum ((s.heap.push (tupIt l)).push (enumO s.heap.objs.size)) (s.heap.objs.size + 1) s.heap.objs.size 0 .none := by
    have := Heap.get?_push_size (s.heap.push (tupIt l)) (o := enumO s.heap.objs.size) rfl
    rw [hz] at this; exact this
  exact ⟨⟨_, he, rfl⟩, h _ he ⟨_, Heap.get?_push_of_some _ (Heap.get?_push_size _ rfl), rfl, rfl⟩ (by rw [Heap.size_push, hz]) fun b o x => Heap.get?_push_of_some _ (Heap.get?_push_of_some _ x)⟩
theorem enumT_end {e it l : Addr} {i : Nat} {items : Array Value} {old : Value} {Q : Option Value → Shared → Prop} (hh : A.handled = none) (he : IsEnum s.heap e it i old) (hit : s.heap.IsTupleIter it l i) (hl : s.heap.IsTuple l items) (hx : items[i]? = none)
    (hQ : ∀ h', Heap.ExtBut it s.heap h' → Q none { s with heap := h' }) : wpAny (model prog w) A (pyNext (.ref e)) Q E s := by
  have hT : s.TypeIs (.ref e) "enumerate" := ⟨_, he, rfl⟩
  unfold pyNext; refine wpAny_bind (wpAny_attempt (wpAny_callSpecial?_slot (name := Str.ofString "__next__") hT F.slot_enumerate_next (wpAny_call_entry F.slot_enumerate_next hT F.entry_enumerate_next ?_ (F.args_enumerate_next_1 _))))
  show wpAny _ _ (field (.ref e) 2 >>= _) _ _ _; refine wpAny_bind (wpAny_field he rfl (x := .ref it) rfl ?_)
  refine wpAny_bind (wpAny_nextOf_tuple_end hh hit hl hx fun h' x he' hx' => ?_)
  obtain ⟨o, ho, hc⟩ := hx'
  exact wpAny_bind (wpAny_isInstance (T := "StopIteration") (b := true) ⟨o, ho, hc⟩ isSubtype_stop (wpAny_pure (hQ _ he')))
/-- the pair at a handed out by the enumerate at e: only e is written -/
theorem enum_hand {e it a : Addr} {n : Int} {old x : Value} {Q : Fin → Shared → Prop} (he : IsEnum s.heap e it n old) (h : ∀ g, IsEnumOut g e it n x a → Heap.SameBut e s.heap g → Q (.done (.ret (.ref a))) { s with heap := g }) :
    wpAny (model prog w) A (do
      if ← Builtin.SmallTypes.ownedTupleIsFree (.ref e) then
        rule "enumerate.__next__.owned-tuple-again"
        let o ← field (.ref e) 5
        setField (.ref e) 5 x
        Builtin.SmallTypes.ownedTupleHandOut (.ref e) (.ref a)
        letGo [o] [.ref a]
      ret (.ref a)) Q E s := by
  apply wpAny_bind
  unfold Builtin.SmallTypes.ownedTupleIsFree
  apply wpAny_bind
  apply wpAny_field he rfl (x := .none) rfl
  apply wpAny_pure
  rw [if_pos rfl]
  apply wpAny_bind
  apply wpAny_rule
  apply wpAny_bind
  apply wpAny_field he rfl (x := old) rfl
  apply wpAny_bind
  refine wpAny_setField_rec he (by simp) fun g1 e1 b1 => ?_
  have e1 : IsEnum g1 e it n x := e1
  apply wpAny_bind
  unfold Builtin.SmallTypes.ownedTupleHandOut
  apply wpAny_bind
  refine wpAny_setField_rec (s := { s with heap := g1 }) e1 (by simp) fun g2 e2 b2 => ?_
  have e2 : IsEnumOut g2 e it n x a := e2
  refine wpAny_setField_rec (s := { s with heap := g2 }) e2 (by simp) fun g3 e3 b3 => ?_
  apply wpAny_bind
  apply wpAny_letGo
  exact wpAny_pure (h g3 e3 ((b1.trans b2).trans b3))
theorem enumT_item {e it l : Addr} {i : Nat} {items : Array Value} {x old : Value} {Q : Option Value → Shared → Prop} (he : IsEnum s.heap e it i old) (hit : s.heap.IsTupleIter it l i) (hl : s.heap.IsTuple l items) (hx : items[i]? = some x) (hne : e ≠ it)
    (hQ : ∀ h', IsEnumOut h' e it ((i : Int) + 1) x s.heap.objs.size → h'.IsTupleIter it l (i + 1) → h'.get? s.heap.objs.size = some { cls := .type "tuple", data := .seq #[.int i s.toks, x] } → h'.objs.size = s.heap.objs.size + 1 →
      (∀ b o, b ≠ e → b ≠ it → s.heap.get? b = some o → h'.get? b = some o) → Q (some (.ref s.heap.objs.size)) { s with heap := h', toks := s.toks + 1 }) : wpAny (model prog w) A (pyNext (.ref e)) Q E s := by
  have tyE : s.TypeIs (.ref e) "enumerate" := ⟨_, he, rfl⟩
  have low := Heap.lt_size he
  unfold pyNext
  apply wpAny_bind
  apply wpAny_attempt
  apply wpAny_callSpecial?_slot (name := Str.ofString "__next__") tyE F.slot_enumerate_next
  refine wpAny_call_entry F.slot_enumerate_next tyE F.entry_enumerate_next ?_ (F.args_enumerate_next_1 _)
  show wpAny _ _ (field (.ref e) 2 >>= _) _ _ _
  apply wpAny_bind
  apply wpAny_field he rfl (x := .ref it) rfl
  apply wpAny_bind
  refine wpAny_nextOf_tuple_item hit hl hx fun g0 c0 b0 => ?_
  have e0 : IsEnum g0 e it i old := (b0.2 e hne).trans he
  refine wpAny_bind (wpAny_field (s := { s with heap := g0 }) e0 rfl (x := rawInt i) rfl ?_)
  show wpAny _ _ (field (.ref e) 4 >>= _) _ _ _
  refine wpAny_bind (wpAny_field (s := { s with heap := g0 }) e0 rfl (x := .none) rfl ?_)
  show wpAny _ _ (mkInt i >>= _) _ _ _
  refine wpAny_bind (wpAny_mkInt (wpAny_bind (wpAny_setField_rec (s := { s with heap := g0, toks := s.toks + 1 }) e0 (by simp) fun g1 r1 b1 => ?_)))
  have e1 : IsEnum g1 e it ((i : Int) + 1) old := r1
  refine wpAny_bind (wpAny_setField_rec (s := { s with heap := g1, toks := s.toks + 1 }) e1 (by simp) fun g2 r2 b2 => ?_)
  have e2 : IsEnum g2 e it ((i : Int) + 1) old := r2
  have b12 : Heap.SameBut e g0 g2 := Heap.SameBut.trans b1 b2
  have z2 : g2.objs.size = s.heap.objs.size := b12.1.trans b0.1
  refine wpAny_bind (wpAny_newTuple ?_)
  have e3 : IsEnum (g2.push { cls := .type "tuple", data := .seq #[.int i s.toks, x] }) e it ((i : Int) + 1) old := Heap.get?_push_of_some _ e2
  refine enum_hand (a := g2.objs.size) e3 fun g7 r7 b7 => ⟨_, rfl, wpAny_pure ?_⟩
  have up : ∀ {b o}, b ≠ e → g0.get? b = some o → g7.get? b = some o := fun n y => b7.extBut _ _ n (Heap.get?_push_of_some _ (b12.extBut _ _ n y))
  have z7 : g7.objs.size = s.heap.objs.size + 1 := by rw [b7.1, Heap.size_push, z2]
  rw [z2] at r7 ⊢
  refine hQ g7 r7 (c0.at fun o y => up (Ne.symm hne) y) ?_ z7 fun b o n m y => up n (b0.extBut _ _ m y)
  have new := Heap.get?_push_size g2 (o := { cls := .type "tuple", data := .seq #[.int i s.toks, x] }) rfl
  rw [z2] at new
  exact b7.extBut _ _ (Nat.ne_of_gt low) new
end
end TLS
/-! TL25: for i, x in enumerate(a tuple). -/
namespace TLS
open PySem PySem.Spec PyProof.Rows L2
def IteT (K : PySem.W.Frag) (a : Addr) : It :=
  ⟨fun i H => ∃ (xs : List V) (x : V), SqT K H a xs ∧ xs[i]? = some x, fun i H v H' => ∃ T x, v = .ref T ∧ H T = none ∧ H' = upd H T (.tup [.int (i : Nat), x]) ∧ ∀ xs, SqT K H a xs → xs[i]? = some x, fun i H => ∃ xs : List V, SqT K H a xs ∧ xs.length ≤ i⟩
/-- what the enumerate at e, over the iterator at it, is at its i-th turn -/
abbrev EnAt (a e it : Addr) (i : Nat) (h : Heap) : Prop := (∃ old, IsEnum h e it ((i : Nat) : Int) old) ∧ h.IsTupleIter it a i ∧ e ≠ it
section
variable {X : Cx} {elts : List Expr} {kk : Nat} {tpos : Pos} {a e it : Addr} {i : Nat} {pins : List (Addr × Obj)} {s : Shared} {σ : L2.St} {H : Hp} {E : Value → Shared → Prop}
theorem EnAt.there {h : Heap} (st : EnAt a e it i h) : ∀ b ∈ [e, it], ∃ o, h.get? b = some o ∧ ∀ v, o.data ≠ .cell v := by
  obtain ⟨⟨old, c1⟩, ⟨o, c2, _, c3⟩, _⟩ := st
  intro b hb
  simp only [List.mem_cons, List.not_mem_nil, or_false] at hb
  rcases hb with rfl | rfl
  · exact ⟨_, c1, fun v y => nomatch y⟩
  · exact ⟨o, c2, fun v y => by rw [c3] at y; cases y⟩
theorem en_item (I : Inv X pins σ H s) (hf : ∀ b ∈ [e, it], FpOk X pins H b) (st : EnAt a e it i s.heap) (hg : (IteT X.K a).go i H) :
    wpAny (model X.prog X.w) X.A (pyNext (.ref e)) (fun r s1 => ∃ u, r = some u ∧ wpAny (model X.prog X.w) X.A (letOwnedTupleGo (.Tuple elts kk tpos) (.ref e) u) (fun _ s2 => ∃ x H', Inv X pins σ H' s2 ∧ RelV x u ∧ (IteT X.K a).yld i H x H' ∧ EnAt a e it (i + 1) s2.heap ∧ ∀ b ∈ [e, it], H' b = none) E s1) E s := by
  have low : ∀ b ∈ [e, it], b < s.heap.objs.size := fun b hb => let ⟨_, y, _⟩ := st.there b hb; Heap.lt_size y
  obtain ⟨⟨old, c1⟩, c2, c3⟩ := st
  obtain ⟨xs, x, q1, q2⟩ := hg
  obtain ⟨us, ru, pu, _⟩ := I.tuple q1
  obtain ⟨u, hu, r1⟩ := ru.get q2
  refine enumT_item c1 c2 pu (x := u) (by simpa using hu) c3 fun g d1 d2 d3 _ d4 => ⟨_, rfl, wpAny_letOwnedTupleGo_enum (s := { s with heap := g, toks := s.toks + 1 }) d1 fun g2 d5 sb => ?_⟩
  have here : g2.get? s.heap.objs.size = some { cls := .type "tuple", data := .seq #[.int i s.toks, u] } := (sb.2 _ (Nat.ne_of_gt (low e (by simp)))).trans d3
  have made : ObjOk X.prog X.w (upd H s.heap.objs.size (.tup [.int (i : Nat), x])) g2 s.heap.objs.size (.tup [.int (i : Nat), x]) := ⟨(by show 2 ≤ sizeLine; decide), [.int i s.toks, u], .cons ⟨_, rfl⟩ (.cons r1 .nil), _, here, rfl, _, rfl⟩
  have stay : ∀ c o, c ∉ [e, it] → s.heap.get? c = some o → g2.get? c = some o := fun c o n y => by
    have m : c ≠ e ∧ c ≠ it := by simpa using n
    exact (sb.2 c m.1).trans (d4 c o m.1 m.2 y)
  refine ⟨.ref s.heap.objs.size, _, I.turnedNew (t' := s.toks + 1) stay hf (Nat.le_refl _) made, rfl, ⟨_, x, rfl, I.hok.fresh (Nat.le_refl _), rfl, fun ys hy => (I.tuple_inj hy q1).symm ▸ q2⟩, ⟨⟨u, ?_⟩, d2.at fun o y => (sb.2 it (Ne.symm c3)).trans y, c3⟩, fun b hb => (upd_ne (Nat.ne_of_lt (low b hb))).trans (hf b hb).1⟩
  have ei : ((i + 1 : Nat) : Int) = (i : Int) + 1 := by omega
  rw [ei]
  exact d5
theorem en_done (hc : X.calm = true) (I : Inv X pins σ H s) (hf : ∀ b ∈ [e, it], FpOk X pins H b) (st : EnAt a e it i s.heap) (hg : (IteT X.K a).stop i H) : wpAny (model X.prog X.w) X.A (pyNext (.ref e)) (fun r s1 => r = none ∧ Inv X pins σ H s1) E s := by
  obtain ⟨⟨old, c1⟩, c2, c3⟩ := st
  obtain ⟨xs, q1, q2⟩ := hg
  obtain ⟨us, ru, pu, _⟩ := I.tuple q1
  have el := ru.length
  have fp := hf it (by simp)
  refine enumT_end (I.ok.hd hc) c1 c2 pu (by simp; omega) fun g kp => ⟨rfl, I.turned (t' := s.toks) (fun b o n y => kp b o n y) fp.1 fp.2.1 fp.2.2.2.1 fp.2.2.2.2.1 fp.2.2.2.2.2⟩
end
theorem turn_enumT {P : Program} {w : World} {K : PySem.W.Frag} {elts : List Expr} {kk : Nat} {tpos : Pos} (a e it : Addr) : Turn P w K (.Tuple elts kk tpos) (IteT K a) [e, it] e (EnAt a e it) where
  mem := List.mem_cons_self
  obj := fun i h st => st.there
  keep := fun i h h' ⟨⟨old, c1⟩, c2, c3⟩ k => ⟨⟨old, k e (by simp) _ c1⟩, c2.at fun o y => k it (by simp) o y, c3⟩
  item := by rintro X rfl rfl rfl _ i pins s σ H E I hf st hg; exact en_item I hf st hg
  done := by rintro X rfl rfl rfl hc i pins s σ H E I hf st hg; exact en_done hc I hf st hg
  self := fun A i s Q E ⟨⟨_, c1⟩, _⟩ h => wpAny_pyIter_enum c1 h
def iEnumT (K : PySem.W.Frag) (ta : TA) : TI := fun σ H R => ta σ H fun vs H1 => ∃ a xs, vs = [.ref a] ∧ SqT K H1 a xs ∧ R (IteT K a) H1
theorem pi_enumT {X : Cx} {e : Expr} {ta : TA} {p pos tpos : Pos} {elts : List Expr} {kk : Nat} (hg : Gl X "enumerate") (hm : X.mg "enumerate" = none) (ha : PA X [e] ta) (hs : starEach [e] X.env = [(false, eval e X.env)] := by rfl) : PI X (.Tuple elts kk tpos) (.Call (.Name "enumerate" p) [e] [] pos) (iEnumT X.K ta) := by
  constructor
  intro pins s σ H R I h
  refine Call_ (ld_blt I hg hm boot_enumerate ?_)
  refine callWith_type1 (thn (ha.run pos pins s σ H _ I h) fun us s1 hus => ?_) hs rfl
  obtain ⟨_, H1, I1, r, a, xs, rfl, q1, q2⟩ := hus
  match us, r with
  | [_], .cons ra .nil =>
    cases ra
    obtain ⟨_, _, pa, _⟩ := I1.tuple q1
    refine call_enumT pa fun g c1 c2 _ kp => wpAny_pyIter_enum c1 ?_
    refine ⟨_, [s1.heap.objs.size + 1, s1.heap.objs.size], _, _, H1, rfl, I1.kept (t' := s1.toks) kp, turn_enumT a (s1.heap.objs.size + 1) s1.heap.objs.size, ⟨⟨.none, c1⟩, c2, Nat.succ_ne_self _⟩, fun c hc => ?_, q2⟩
    have le : s1.heap.objs.size ≤ c := by
      simp only [List.mem_cons, List.not_mem_nil, or_false] at hc
      rcases hc with y | y <;> (rw [y]; first | exact Nat.le_refl _ | exact Nat.le_add_right _ _)
    exact I1.fpOk le (I1.hok.fresh le)
end TLS
/-! TL26: enumerate of a tuple, by data. -/
namespace TL
open PySem L2
open Evl (Ex ex_l ex_t)
section
variable {K : PySem.W.Frag} {B : Bs} {Γ : List Sl} {ds : List PyData}
theorem ip_enumT {ta : TA} (h : AP ta Γ [Da K (.tuple ds)]) : IP K (TLS.iEnumT K ta) Γ (enumP ds) := fun B σ F H I R q => h B σ F H I _ fun Γ1 ss ws F1 H1 ⟨a, b⟩ hn I1 e1 => by
  subst a b
  obtain ⟨ha, I2⟩ := Ok.all (xs := [PyData.tuple ds]) (by simpa using hn) I1
  cases ha with
  | cons hv hr =>
    cases hr
    cases hv with
    | @tup a xs _ hs hz hc =>
      refine ⟨a, xs, rfl, ex_t I2.ex hs, q _ F1 H1 I2 e1 (fun i F2 H2 e2 e3 => ⟨fun d hd => ?_, fun hl => ?_⟩) (by rw [enumP_len]; exact hz)⟩
      · obtain ⟨e', h1, h2⟩ := enumP_get hd
        obtain ⟨u, hu, du⟩ := hc.get h1
        refine ⟨⟨xs, u, ex_t (e2.trans e3) hs, hu⟩, fun x H3 hy => ?_⟩
        obtain ⟨A', w, e4, hA, eH, hx⟩ := hy
        subst e4 h2
        have ew := hx xs (ex_t (e2.trans e3) hs)
        rw [hu] at ew
        cases ew
        exact new_pair e3 hA eH (Dq.int _) (Dq.mono e2 _ _ du)
      · exact ⟨xs, ex_t (e2.trans e3) hs, by rw [hc.len]; rw [enumP_len] at hl; exact hl⟩
end
section
variable {X : Cx} {e : Expr} {t : TA}
theorem kpi_enumT (K : PySem.W.Frag) {p pos tpos : Pos} {elts : List Expr} {kk : Nat} (hg : Gl X "enumerate") (hm : X.mg "enumerate" = none) (ha : PA X [e] t) (hs : starEach [e] X.env = [(false, eval e X.env)] := by rfl) (h : X.K = K := by rfl) :
    PI X (.Tuple elts kk tpos) (.Call (.Name "enumerate" p) [e] [] pos) (TLS.iEnumT K t) := by subst h; exact TLS.pi_enumT hg hm ha hs
end
end TL
/-! AL0: objects of one's own of further kinds: dicts from ints to ints, from tuples of ints to ints. -/
namespace AL
open PySem L2 TL
open Evl (Ex ex_l ex_t)
def ntp (o : HO) : Prop := (∀ xs, o ≠ .tup xs) ∧ ∀ u xs, o ≠ .frz u (.tup xs)
theorem ntp_lst {xs : List V} : ntp (.lst xs) := ⟨fun _ h => (nomatch h), fun _ _ h => (nomatch h)⟩
theorem ntp_dK {xs : List (Key × V)} : ntp (.dK xs) := ⟨fun _ h => (nomatch h), fun _ _ h => (nomatch h)⟩
theorem ntp_dT {xs : List (List Key × V)} : ntp (.dT xs) := ⟨fun _ h => (nomatch h), fun _ _ h => (nomatch h)⟩
def eKI (z : Int × Int) : Key × V := (Sum.inl z.1, V.int z.2)
def eKD (z : Int × Int) : PyData × PyData := (.int z.1, .int z.2)
def eTI (z : List Int × Int) : List Key × V := (z.1.map Sum.inl, V.int z.2)
def eTD (z : List Int × Int) : PyData × PyData := (.tuple (z.1.map .int), .int z.2)
/-- one cell at p that holds what it should, whatever else stands -/
def ow1 (P : HO → PyData → Prop) (hP : ∀ o d, P o d → Reg o) : Ow PyData where
  O := fun _ H p fp d => fp = [p] ∧ ∃ o, H p = some o ∧ P o d
  frame := fun {F F' H H' p fp a} e k ⟨h1, o, h2, h3⟩ => ⟨h1, o, by rw [k p (by rw [h1]; exact List.mem_singleton.mpr rfl)]; exact h2, h3⟩
  there := fun {F H p fp a} ⟨h1, o, h2, _⟩ q hq => by
    rw [h1] at hq
    have e : q = p := by simpa using hq
    rw [e]; exact ⟨_, h2⟩
  regs := fun {F H p fp a} ⟨h1, o, h2, h3⟩ q hq o' ho => by
    rw [h1] at hq
    have e : q = p := by simpa using hq
    rw [e, h2] at ho
    cases ho
    exact hP _ _ h3
def PI_ (o : HO) (d : PyData) : Prop := ∃ l : List (Int × Int), o = .dK (l.map eKI) ∧ d = .dict (l.map eKD) ∧ l.length ≤ wee
def PT_ (o : HO) (d : PyData) : Prop := ∃ l : List (List Int × Int), o = .dT (l.map eTI) ∧ d = .dict (l.map eTD) ∧ l.length ≤ wee
theorem reg_dK {xs : List (Key × V)} : Reg (.dK xs) := ⟨fun _ h => (nomatch h), fun _ h => (nomatch h)⟩
theorem reg_dT {xs : List (List Key × V)} : Reg (.dT xs) := ⟨fun _ h => (nomatch h), fun _ h => (nomatch h)⟩
def owK (K : PySem.W.Frag) : Nat → Ow PyData
  | 0 => ow1 PI_ fun o d ⟨l, e, _⟩ => by subst e; exact reg_dK
  | 1 => ow1 PT_ fun o d ⟨l, e, _⟩ => by subst e; exact reg_dT
  | _ => ow1 (fun _ _ => False) fun _ _ z => z.elim
theorem owK_ntp {K : PySem.W.Frag} {n : Nat} {F H : Hp} {p : Addr} {fp : List Addr} {d : PyData} (h : (owK K n).O F H p fp d) : ∀ q ∈ fp, ∃ o, H q = some o ∧ ntp o := by
  intro q hq
  match n, h with
  | 0, ⟨h1, o, h2, l, h3, _⟩ =>
    subst h1 h3
    have e : q = p := by simpa using hq
    subst e
    exact ⟨_, h2, ntp_dK⟩
  | 1, ⟨h1, o, h2, l, h3, _⟩ =>
    subst h1 h3
    have e : q = p := by simpa using hq
    subst e
    exact ⟨_, h2, ntp_dT⟩
  | _ + 2, ⟨_, _, _, z⟩ => exact z.elim
end AL
/-! AL1: programs as functions of their slots: what the slots hold, expressions, arguments, tests; each tied to its reading. -/
namespace AL
open PySem L2 TL
open Evl (Ex ex_l ex_t)

/-- how a run ends: a result, an error of the class so called, or nothing is said -/
inductive R (α : Type) where
  | ok (a : α)
  | err (x : Str)
  | bad
def R.bind {α β : Type} (x : R α) (f : α → R β) : R β :=
  match x with
  | .ok a => f a
  | .err c => .err c
  | .bad => .bad
@[simp] theorem R.ok_bind {α β : Type} (a : α) (f : α → R β) : (R.ok a).bind f = f a := rfl
@[simp] theorem R.err_bind {α β : Type} (c : Str) (f : α → R β) : (R.err c : R α).bind f = .err c := rfl
@[simp] theorem R.bad_bind {α β : Type} (f : α → R β) : (R.bad : R α).bind f = .bad := rfl
def R.of {α : Type} : Option α → R α
  | some a => .ok a
  | none => .bad
/-- what a slot holds -/
inductive SD where
  | no
  | da (d : PyData)
  | ls (t : Nat) (ds : List PyData)
  | ll (dss : List (List PyData))
  | ow (t n : Nat) (d : PyData)
abbrev En := List SD
def RelS (K : PySem.W.Frag) (pn : Nat → Addr) : SD → Sl → Prop
  | .no, s => s = .no
  | .da d, s => s = Da K d
  | .ls t ds, s => ∃ p, s = .own p (oL K) ds ∧ (t ≠ 0 → p = pn t)
  | .ll d, s => ∃ p, s = .own p (oLL K) d
  | .ow t n d, s => ∃ p, s = .own p (owK K n) d ∧ (t ≠ 0 → p = pn t)
inductive Rel (K : PySem.W.Frag) (pn : Nat → Addr) : En → List Sl → Prop
  | nil : Rel K pn [] []
  | cons {x : SD} {s : Sl} {g : En} {Γ : List Sl} : RelS K pn x s → Rel K pn g Γ → Rel K pn (x :: g) (s :: Γ)
section
variable {K : PySem.W.Frag} {pn : Nat → Addr} {g g' : En} {Γ Γ' Δ : List Sl} {x : SD} {s : Sl} {i : Nat} {B : Bs} {σ τ : St} {F H F' H' : Hp}
theorem Rel.len (h : Rel K pn g Γ) : g.length = Γ.length := by
  induction h with
  | nil => rfl
  | cons a b ih => rw [List.length_cons, List.length_cons, ih]
theorem Rel.get (h : Rel K pn g Γ) (e : g[i]? = some x) : ∃ s, Γ[i]? = some s ∧ RelS K pn x s := by
  induction h generalizing i with
  | nil => simp at e
  | @cons y s g Γ a b ih =>
    cases i with
    | zero =>
      simp only [List.getElem?_cons_zero, Option.some.injEq] at e
      subst e
      exact ⟨s, rfl, a⟩
    | succ i =>
      simp only [List.getElem?_cons_succ] at e ⊢
      exact ih e
theorem Rel.set (h : Rel K pn g Γ) (e : RelS K pn x s) : Rel K pn (g.set i x) (Γ.set i s) := by
  induction h generalizing i with
  | nil => exact .nil
  | cons a b ih =>
    cases i with
    | zero => exact .cons e b
    | succ i => exact .cons a ih
theorem Rel.append {g2 : En} (h : Rel K pn g Γ) (h2 : Rel K pn g2 Δ) : Rel K pn (g ++ g2) (Γ ++ Δ) := by
  induction h with
  | nil => exact h2
  | cons a b ih => exact .cons a ih
theorem Rel.das (ds : List PyData) : Rel K pn (ds.map .da) (ds.map (Da K)) := by
  induction ds with
  | nil => exact .nil
  | cons d r ih => exact .cons rfl ih
theorem Rel.nos (n : Nat) : Rel K pn (List.replicate n .no) (List.replicate n .no) := by
  induction n with
  | zero => exact .nil
  | succ n ih => exact .cons rfl ih
theorem Ok.drop (h : Ok B Γ σ F H) : Ok B [] [] F H := by
  obtain ⟨L, I4⟩ := h
  exact ⟨[], .nil, List.nodup_nil, (fun _ z => nomatch z), I4.ex, I4.bF, I4.bG, I4.bK, I4.bD, fun _ z => nomatch z⟩
end
/-- the second slot dropped -/
theorem Ok.drop2 {B : Bs} {Γ : List Sl} {σ : St} {F H : Hp} {s s2 : Sl} {x x2 : Option V} (h : Ok B (s :: s2 :: Γ) (x :: x2 :: σ) F H) : Ok B (s :: Γ) (x :: σ) F H := by
  obtain ⟨L, h⟩ := h
  cases h.sl with
  | @cons _ _ fp _ _ fps a b =>
    cases b with
    | @cons _ _ fp2 _ _ fps2 c d =>
      have nd := h.nd
      rw [List.flatten_cons, List.flatten_cons, List.nodup_append] at nd
      obtain ⟨n1, n2, n3⟩ := nd
      rw [List.nodup_append] at n2
      refine ⟨fp :: fps2, OkF.perm h (.cons a d) ?_ fun q hq => ?_⟩
      · rw [List.flatten_cons, List.nodup_append]
        exact ⟨n1, n2.2.1, fun x hx y hy => n3 x hx y (List.mem_append_right _ hy)⟩
      · rw [List.flatten_cons] at hq
        rw [List.flatten_cons, List.flatten_cons]
        rcases List.mem_append.mp hq with z | z
        · exact List.mem_append_left _ z
        · exact List.mem_append_right _ (List.mem_append_right _ z)
/-- what a def is left by, the tables of code objects -/
structure Ec where
  e : XK
  T : List (Addr × Str)
/-- an error of the class c may leave -/
def Eo (K : PySem.W.Frag) (Er : Ec) (B : Bs) (c : Str) : Prop := ∀ F' H', Ok B [] [] F' H' → Er.e (clsV K c) none H'
/-- what must be known of a run x before it is walked -/
structure Rn {α : Type} (K : PySem.W.Frag) (Er : Ec) (B : Bs) (x : R α) : Prop where
  nb : x ≠ .bad
  er : ∀ c, x = .err c → Eo K Er B c
  tt : B.T = Er.T
/-- B' may stand for B -/
def Sub (B' B : Bs) : Prop := B'.T = B.T ∧ ∀ F H, Ok B' [] [] F H → Ok B [] [] F H
theorem Rn.bind {α β : Type} {K : PySem.W.Frag} {Er : Ec} {B : Bs} {x : R α} {f : α → R β} (h : Rn K Er B (x.bind f)) : Rn K Er B x ∧ ∀ a, x = .ok a → Rn K Er B (f a) := by
  cases x with
  | ok a => exact ⟨⟨(fun z => nomatch z), fun c z => (nomatch z), h.tt⟩, fun b e => by cases e; exact h⟩
  | err c => exact ⟨⟨(fun z => nomatch z), fun c' z => by cases z; exact h.er c rfl, h.tt⟩, fun b e => nomatch e⟩
  | bad => exact absurd rfl h.nb
theorem Rn.bad {α : Type} {K : PySem.W.Frag} {Er : Ec} {B : Bs} {P : Prop} (h : Rn K Er B (R.bad : R α)) : P := absurd rfl h.nb
theorem Rn.base {α : Type} {K : PySem.W.Frag} {Er : Ec} {B B' : Bs} {x : R α} (h : Rn K Er B x) (k : Sub B' B) : Rn K Er B' x :=
  ⟨h.nb, fun c e F' H' I => h.er c e F' H' (k.2 _ _ I), k.1.trans h.tt⟩
theorem Rn.of {α : Type} {K : PySem.W.Frag} {Er : Ec} {B : Bs} {x : Option α} (h : Rn K Er B (R.of x)) : ∃ a, x = some a := by
  cases x with
  | some a => exact ⟨a, rfl⟩
  | none => exact absurd rfl h.nb

/-! ### ties -/
abbrev Mv := En → R (En × SD)
abbrev Md := En → R (En × PyData)
abbrev Ma := En → R (En × List PyData)
abbrev Mt := En → R (En × Bool)
def Vs (K : PySem.W.Frag) (Er : Ec) (te : TE) (e : Mv) : Prop := ∀ (pn : Nat → Addr) (g : En) (Γ : List Sl) (B : Bs) (σ : St) (F H : Hp), Rel K pn g Γ → Ok B Γ σ F H → Rn K Er B (e g) → ∀ Q : VK,
  (∀ g' x Γ' s v F' H', e g = .ok (g', x) → Rel K pn g' Γ' → RelS K pn x s → Ok B (s :: Γ') (some v :: σ) F' H' → Ex F F' → Q v H') → te σ H Q
def Ds (K : PySem.W.Frag) (Er : Ec) (te : TE) (e : Md) : Prop := ∀ (pn : Nat → Addr) (g : En) (Γ : List Sl) (B : Bs) (σ : St) (F H : Hp), Rel K pn g Γ → Ok B Γ σ F H → Rn K Er B (e g) → ∀ Q : VK,
  (∀ g' x Γ' v F' H', e g = .ok (g', x) → Rel K pn g' Γ' → Ok B (Da K x :: Γ') (some v :: σ) F' H' → Ex F F' → Q v H') → te σ H Q
def As (K : PySem.W.Frag) (Er : Ec) (ta : TA) (e : Ma) : Prop := ∀ (pn : Nat → Addr) (g : En) (Γ : List Sl) (B : Bs) (σ : St) (F H : Hp), Rel K pn g Γ → Ok B Γ σ F H → Rn K Er B (e g) → ∀ Q : List V → Hp → Prop,
  (∀ g' xs Γ' vs F' H', e g = .ok (g', xs) → Rel K pn g' Γ' → vs.length = xs.length → Ok B (xs.map (Da K) ++ Γ') (vs.map some ++ σ) F' H' → Ex F F' → Q vs H') → ta σ H Q
def Ts (K : PySem.W.Frag) (Er : Ec) (tt : TT) (e : Mt) : Prop := ∀ (pn : Nat → Addr) (g : En) (Γ : List Sl) (B : Bs) (σ : St) (F H : Hp), Rel K pn g Γ → Ok B Γ σ F H → Rn K Er B (e g) → ∀ Q : Bool → Hp → Prop,
  (∀ g' b Γ' F' H', e g = .ok (g', b) → Rel K pn g' Γ' → Ok B Γ' σ F' H' → Ex F F' → Q b H') → tt σ H Q
/-- a result as data -/
def SD.toD : SD → Option PyData
  | .da d => some d
  | .ls _ ds => some (.list ds)
  | _ => none
def mD (e : Mv) : Md := fun g => (e g).bind fun p => (R.of p.2.toD).bind fun d => .ok (p.1, d)
def mV (e : Md) : Mv := fun g => (e g).bind fun p => .ok (p.1, .da p.2)
section
variable {K : PySem.W.Frag} {pn : Nat → Addr} {Er : Ec} {g g' : En} {Γ Γ' Δ : List Sl} {x : SD} {s : Sl} {i j k : Nat} {B : Bs} {σ τ : St} {F H F' H' : Hp} {te ta tb tc : TE} {tt tu : TT} {tr : TA} {e a b c : Md} {ev : Mv} {es : Ma} {t u : Mt} {r r' : R2}
theorem under' (hl : τ.length = Δ.length) (h : Ok B (Δ ++ Γ) (τ ++ σ) F H) : ∃ B', Ok B' Γ σ F H ∧ Sub B' B ∧ ∀ Γ' σ' F' H', Ok B' Γ' σ' F' H' → Ok B (Δ ++ Γ') (τ ++ σ') F' H' := by
  obtain ⟨B', I, t, c⟩ := TL.underT hl h
  exact ⟨B', I, ⟨t, fun F H z => Ok.drop (c _ _ _ _ z)⟩, c⟩
theorem Ds.under (h : Ds K Er te e) (hl : τ.length = Δ.length) (hg : Rel K pn g Γ) (I : Ok B (Δ ++ Γ) (τ ++ σ) F H) (rn : Rn K Er B (e g)) {Q : VK} (q : ∀ g' x Γ' v F' H', e g = .ok (g', x) → Rel K pn g' Γ' → Ok B (Δ ++ Da K x :: Γ') (τ ++ some v :: σ) F' H' → Ex F F' → Q v H') : te σ H Q := by
  obtain ⟨B', I', z, c⟩ := under' hl I
  exact h pn g Γ B' σ F H hg I' (rn.base z) Q fun g' x Γ' v F' H' a b d e => q g' x Γ' v F' H' a b (c _ _ _ _ d) e
theorem Vs.under (h : Vs K Er te ev) (hl : τ.length = Δ.length) (hg : Rel K pn g Γ) (I : Ok B (Δ ++ Γ) (τ ++ σ) F H) (rn : Rn K Er B (ev g)) {Q : VK} (q : ∀ g' x Γ' s v F' H', ev g = .ok (g', x) → Rel K pn g' Γ' → RelS K pn x s → Ok B (Δ ++ s :: Γ') (τ ++ some v :: σ) F' H' → Ex F F' → Q v H') : te σ H Q := by
  obtain ⟨B', I', z, c⟩ := under' hl I
  exact h pn g Γ B' σ F H hg I' (rn.base z) Q fun g' x Γ' s v F' H' a b u d e => q g' x Γ' s v F' H' a b u (c _ _ _ _ d) e
theorem As.under (h : As K Er tr es) (hl : τ.length = Δ.length) (hg : Rel K pn g Γ) (I : Ok B (Δ ++ Γ) (τ ++ σ) F H) (rn : Rn K Er B (es g)) {Q : List V → Hp → Prop} (q : ∀ g' xs Γ' vs F' H', es g = .ok (g', xs) → Rel K pn g' Γ' → vs.length = xs.length → Ok B (Δ ++ (xs.map (Da K) ++ Γ')) (τ ++ (vs.map some ++ σ)) F' H' → Ex F F' → Q vs H') : tr σ H Q := by
  obtain ⟨B', I', z, c⟩ := under' hl I
  exact h pn g Γ B' σ F H hg I' (rn.base z) Q fun g' x Γ' v F' H' a b n d e => q g' x Γ' v F' H' a b n (c _ _ _ _ d) e
theorem Ts.under (h : Ts K Er tt t) (hl : τ.length = Δ.length) (hg : Rel K pn g Γ) (I : Ok B (Δ ++ Γ) (τ ++ σ) F H) (rn : Rn K Er B (t g)) {Q : Bool → Hp → Prop} (q : ∀ g' b Γ' F' H', t g = .ok (g', b) → Rel K pn g' Γ' → Ok B (Δ ++ Γ') (τ ++ σ) F' H' → Ex F F' → Q b H') : tt σ H Q := by
  obtain ⟨B', I', z, c⟩ := under' hl I
  exact h pn g Γ B' σ F H hg I' (rn.base z) Q fun g' x Γ' F' H' a b d e => q g' x Γ' F' H' a b (c _ _ _ _ d) e
theorem d_v (h : Vs K Er te ev) : Ds K Er te (mD ev) := fun pn g Γ B σ F H hg I rn Q q => by
  obtain ⟨r1, r2⟩ := rn.bind
  refine h pn g Γ B σ F H hg I r1 Q fun g' x Γ' s v F' H' e hg' hs I' ex => ?_
  obtain ⟨r3, r4⟩ := (r2 _ e).bind
  obtain ⟨d, hd⟩ := r3.of
  have he : mD ev g = .ok (g', d) := by
    show (ev g).bind _ = _
    rw [e]
    show (R.of x.toD).bind _ = _
    rw [show x.toD = some d from hd]; rfl
  cases x with
  | no => cases hd
  | ll _ => cases hd
  | ow _ _ _ => cases hd
  | da d' =>
    cases hd
    cases hs
    exact q g' d Γ' v F' H' he hg' I' ex
  | ls t ds =>
    cases hd
    obtain ⟨p, rfl, _⟩ := hs
    obtain ⟨F2, e1, e2, I2⟩ := I'.freeze
    exact q g' _ Γ' v F2 H' he hg' I2 (ex.trans e2)
theorem v_d (h : Ds K Er te e) : Vs K Er te (mV e) := fun pn g Γ B σ F H hg I rn Q q => by
  obtain ⟨r1, r2⟩ := rn.bind
  refine h pn g Γ B σ F H hg I r1 Q fun g' x Γ' v F' H' e hg' I' ex => ?_
  exact q g' (.da x) Γ' _ v F' H' (by show (_ : R _).bind _ = _; rw [e]; rfl) hg' rfl I' ex
/-! ### names, constants -/
def mVar (i : Nat) : Md := fun g => match g[i]? with
  | some (.da d) => .ok (g, d)
  | _ => .bad
theorem d_var : Ds K Er (tVar i) (mVar i) := fun pn g Γ B σ F H hg I rn Q q => by
  cases e : g[i]? with
  | none => exact Rn.bad (by unfold mVar at rn; rw [e] at rn; exact rn)
  | some x =>
    cases x with
    | da d =>
      obtain ⟨s, e1, e2⟩ := hg.get e
      cases e2
      obtain ⟨v, ev, hr⟩ := I.at_ e1
      exact ⟨v, ev, q g d Γ v F H (by unfold mVar; rw [e]) hg (I.push hr) (Ex.refl F)⟩
    | no => exact Rn.bad (by unfold mVar at rn; rw [e] at rn; exact rn)
    | ls _ _ => exact Rn.bad (by unfold mVar at rn; rw [e] at rn; exact rn)
    | ll _ => exact Rn.bad (by unfold mVar at rn; rw [e] at rn; exact rn)
    | ow _ _ _ => exact Rn.bad (by unfold mVar at rn; rw [e] at rn; exact rn)
/-- a name's own object handed on -/
def mMv (i : Nat) : Mv := fun g => match g[i]? with
  | some (.ls t ds) => .ok (g.set i .no, .ls t ds)
  | some (.ow t n d) => .ok (g.set i .no, .ow t n d)
  | _ => .bad
theorem v_mv : Vs K Er (tVar i) (mMv i) := fun pn g Γ B σ F H hg I rn Q q => by
  cases e : g[i]? with
  | none => exact Rn.bad (by unfold mMv at rn; rw [e] at rn; exact rn)
  | some x =>
    cases x with
    | ls t ds =>
      obtain ⟨s, e1, p, e2, ht⟩ := hg.get e
      subst e2
      exact e_own (k := fun Γ' s => Γ' = Γ.set i .no ∧ s = .own p (oL K) ds) e1 ⟨rfl, rfl⟩ B σ F H I Q fun Γ' s v F' H' ⟨z1, z2⟩ I' ex => by
        subst z1 z2
        exact q (g.set i .no) (.ls t ds) _ _ v F' H' (by unfold mMv; rw [e]) (hg.set (x := .no) (s := .no) rfl) ⟨p, rfl, ht⟩ I' ex
    | no => exact Rn.bad (by unfold mMv at rn; rw [e] at rn; exact rn)
    | da _ => exact Rn.bad (by unfold mMv at rn; rw [e] at rn; exact rn)
    | ll _ => exact Rn.bad (by unfold mMv at rn; rw [e] at rn; exact rn)
    | ow t n d =>
      obtain ⟨s, e1, p, e2, ht⟩ := hg.get e
      subst e2
      exact e_own (k := fun Γ' s => Γ' = Γ.set i .no ∧ s = .own p (owK K n) d) e1 ⟨rfl, rfl⟩ B σ F H I Q fun Γ' s v F' H' ⟨z1, z2⟩ I' ex => by
        subst z1 z2
        exact q (g.set i .no) (.ow t n d) _ _ v F' H' (by unfold mMv; rw [e]) (hg.set (x := .no) (s := .no) rfl) ⟨p, rfl, ht⟩ I' ex
def mC (d : PyData) : Md := fun g => .ok (g, d)
theorem d_int {n : Int} : Ds K Er (tC (.int n)) (mC (.int n)) := fun pn g Γ B σ F H hg I rn Q q => q g _ Γ _ F H rfl hg (I.push (Dq.int n)) (Ex.refl F)
theorem d_bl {n : Bool} : Ds K Er (tC (.bl n)) (mC (.bool n)) := fun pn g Γ B σ F H hg I rn Q q => q g _ Γ _ F H rfl hg (I.push (Dq.bl n)) (Ex.refl F)
theorem d_str {n : Str} : Ds K Er (tC (.str n)) (mC (.str n)) := fun pn g Γ B σ F H hg I rn Q q => q g _ Γ _ F H rfl hg (I.push (Dq.str n)) (Ex.refl F)
theorem d_non : Ds K Er (tC .non) (mC .none) := fun pn g Γ B σ F H hg I rn Q q => q g _ Γ _ F H rfl hg (I.push Dq.non) (Ex.refl F)
/-! ### operators -/
def OpS (K : PySem.W.Frag) (r : R2) (f : PyData → PyData → Option SD) : Prop := ∀ x y s, f x y = some s → ∀ (B : Bs) (Γ : List Sl) (σ : St) (F H : Hp) (v w : V), Ok B Γ σ F H → Dq K F v x → Dq K F w y → ∀ Q : VK, (∀ s' u F' H', RelS K pn s s' → Ok B (s' :: Γ) (some u :: σ) F' H' → Ex F F' → Q u H') → r v w H Q
def OpD (K : PySem.W.Frag) (r : R2) (f : PyData → PyData → Option PyData) : Prop := ∀ x y z, f x y = some z → RD K r x y z
def OpL (K : PySem.W.Frag) (r : R2) (f : PyData → PyData → Option (List PyData)) : Prop := ∀ x y z, f x y = some z → RO K r x y z
def mOp (f : PyData → PyData → Option PyData) (a b : Md) : Md := fun g => (a g).bind fun p => (b p.1).bind fun q => (R.of (f p.2 q.2)).bind fun z => .ok (q.1, z)
def mOpL (f : PyData → PyData → Option (List PyData)) (a b : Md) : Mv := fun g => (a g).bind fun p => (b p.1).bind fun q => (R.of (f p.2 q.2)).bind fun z => .ok (q.1, .ls 0 z)
theorem d_op {f : PyData → PyData → Option PyData} (hr : OpD K r f) (ha : Ds K Er ta a) (hb : Ds K Er tb b) : Ds K Er (tOp r ta tb) (mOp f a b) := fun pn g Γ B σ F H hg I rn Q q => by
  obtain ⟨r1, r2⟩ := rn.bind
  refine ha pn g Γ B σ F H hg I r1 _ fun g1 x Γ1 v F1 H1 e1 hg1 I1 ex1 => ?_
  obtain ⟨r3, r4⟩ := (r2 _ e1).bind
  refine hb.under (τ := [some v]) (Δ := [Da K x]) rfl hg1 I1 r3 fun g2 y Γ2 w F2 H2 e2 hg2 I2 ex2 => ?_
  obtain ⟨r5, _⟩ := (r4 _ e2).bind
  obtain ⟨z, hz⟩ := r5.of
  obtain ⟨v', h1, hv⟩ := Ok.head I2
  cases h1
  obtain ⟨w', h2, hw⟩ := Ok.head (Ok.pop I2)
  cases h2
  refine hr x y z hz B _ _ F2 H2 v w (Ok.pop (Ok.pop I2)) hv hw Q fun u F3 H3 I3 ex3 => ?_
  refine q g2 z Γ2 u F3 H3 ?_ hg2 I3 ((ex1.trans ex2).trans ex3)
  show (a g).bind _ = _
  rw [e1]; show (b g1).bind _ = _
  rw [e2]; show (R.of (f x y)).bind _ = _
  rw [hz]; rfl
theorem v_opL {f : PyData → PyData → Option (List PyData)} (hr : OpL K r f) (ha : Ds K Er ta a) (hb : Ds K Er tb b) : Vs K Er (tOp r ta tb) (mOpL f a b) := fun pn g Γ B σ F H hg I rn Q q => by
  obtain ⟨r1, r2⟩ := rn.bind
  refine ha pn g Γ B σ F H hg I r1 _ fun g1 x Γ1 v F1 H1 e1 hg1 I1 ex1 => ?_
  obtain ⟨r3, r4⟩ := (r2 _ e1).bind
  refine hb.under (τ := [some v]) (Δ := [Da K x]) rfl hg1 I1 r3 fun g2 y Γ2 w F2 H2 e2 hg2 I2 ex2 => ?_
  obtain ⟨r5, _⟩ := (r4 _ e2).bind
  obtain ⟨z, hz⟩ := r5.of
  obtain ⟨v', h1, hv⟩ := Ok.head I2
  cases h1
  obtain ⟨w', h2, hw⟩ := Ok.head (Ok.pop I2)
  cases h2
  refine hr x y z hz B _ _ F2 H2 v w (Ok.pop (Ok.pop I2)) hv hw Q fun p H3 I3 => ?_
  refine q g2 (.ls 0 z) Γ2 _ _ F2 H3 ?_ hg2 ⟨p, rfl, fun z => absurd rfl z⟩ I3 (ex1.trans ex2)
  show (a g).bind _ = _
  rw [e1]; show (b g1).bind _ = _
  rw [e2]; show (R.of (f x y)).bind _ = _
  rw [hz]; rfl
def mUn (f : PyData → Option PyData) (a : Md) : Md := fun g => (a g).bind fun p => (R.of (f p.2)).bind fun z => .ok (p.1, z)
theorem d_un {r : V → Hp → VK → Prop} {f : PyData → Option PyData} (hr : ∀ x z, f x = some z → UD K r x z) (ha : Ds K Er ta a) : Ds K Er (tUn r ta) (mUn f a) := fun pn g Γ B σ F H hg I rn Q q => by
  obtain ⟨r1, r2⟩ := rn.bind
  refine ha pn g Γ B σ F H hg I r1 _ fun g1 x Γ1 v F1 H1 e1 hg1 I1 ex1 => ?_
  obtain ⟨r5, _⟩ := (r2 _ e1).bind
  obtain ⟨z, hz⟩ := r5.of
  obtain ⟨v', h1, hv⟩ := Ok.head I1
  cases h1
  refine hr x z hz B _ _ F1 H1 v (Ok.pop I1) hv Q fun u F3 H3 I3 ex3 => ?_
  refine q g1 z Γ1 u F3 H3 ?_ hg1 I3 (ex1.trans ex3)
  show (a g).bind _ = _
  rw [e1]; show (R.of (f x)).bind _ = _
  rw [hz]; rfl
/-! ### arguments -/
def mNil : Ma := fun g => .ok (g, [])
def mCons (a : Md) (es : Ma) : Ma := fun g => (a g).bind fun p => (es p.1).bind fun q => .ok (q.1, p.2 :: q.2)
theorem as_nil : As K Er tNil mNil := fun pn g Γ B σ F H hg I rn Q q => q g [] Γ [] F H rfl hg rfl I (Ex.refl F)
theorem as_cons (ha : Ds K Er ta a) (hr : As K Er tr es) : As K Er (tCons ta tr) (mCons a es) := fun pn g Γ B σ F H hg I rn Q q => by
  obtain ⟨r1, r2⟩ := rn.bind
  refine ha pn g Γ B σ F H hg I r1 _ fun g1 x Γ1 v F1 H1 e1 hg1 I1 ex1 => ?_
  obtain ⟨r3, _⟩ := (r2 _ e1).bind
  refine hr.under (τ := [some v]) (Δ := [Da K x]) rfl hg1 I1 r3 fun g2 xs Γ2 vs F2 H2 e2 hg2 n I2 ex2 => ?_
  refine q g2 (x :: xs) Γ2 (v :: vs) F2 H2 ?_ hg2 (by simp [n]) I2 (ex1.trans ex2)
  show (a g).bind _ = _
  rw [e1]; show (es g1).bind _ = _
  rw [e2]; rfl
/-- a built-in's call -/
def mCb (f : List PyData → Option PyData) (es : Ma) : Md := fun g => (es g).bind fun p => (R.of (f p.2)).bind fun z => .ok (p.1, z)
def mCbL (f : List PyData → Option (List PyData)) (es : Ma) : Mv := fun g => (es g).bind fun p => (R.of (f p.2)).bind fun z => .ok (p.1, .ls 0 z)
theorem d_cb {r : List V → Hp → VK → Prop} {f : List PyData → Option PyData} (hr : ∀ xs z, f xs = some z → CD K r xs z) (ha : As K Er tr es) : Ds K Er (tCB r tr) (mCb f es) := fun pn g Γ B σ F H hg I rn Q q => by
  obtain ⟨r1, r2⟩ := rn.bind
  refine ha pn g Γ B σ F H hg I r1 _ fun g1 xs Γ1 vs F1 H1 e1 hg1 n I1 ex1 => ?_
  obtain ⟨r5, _⟩ := (r2 _ e1).bind
  obtain ⟨z, hz⟩ := r5.of
  obtain ⟨h1, h2⟩ := Ok.all n.symm I1
  refine hr xs z hz B _ _ F1 H1 vs h2 h1 Q fun u F3 H3 I3 ex3 => ?_
  refine q g1 z Γ1 u F3 H3 ?_ hg1 I3 (ex1.trans ex3)
  show (es g).bind _ = _
  rw [e1]; show (R.of (f xs)).bind _ = _
  rw [hz]; rfl
theorem v_cbL {r : List V → Hp → VK → Prop} {f : List PyData → Option (List PyData)} (hr : ∀ xs z, f xs = some z → CO K r xs z) (ha : As K Er tr es) : Vs K Er (tCB r tr) (mCbL f es) := fun pn g Γ B σ F H hg I rn Q q => by
  obtain ⟨r1, r2⟩ := rn.bind
  refine ha pn g Γ B σ F H hg I r1 _ fun g1 xs Γ1 vs F1 H1 e1 hg1 n I1 ex1 => ?_
  obtain ⟨r5, _⟩ := (r2 _ e1).bind
  obtain ⟨z, hz⟩ := r5.of
  obtain ⟨h1, h2⟩ := Ok.all n.symm I1
  refine hr xs z hz B _ _ F1 H1 vs h2 h1 Q fun p H3 I3 => ?_
  refine q g1 (.ls 0 z) Γ1 _ _ F1 H3 ?_ hg1 ⟨p, rfl, fun z => absurd rfl z⟩ I3 ex1
  show (es g).bind _ = _
  rw [e1]; show (R.of (f xs)).bind _ = _
  rw [hz]; rfl
/-- a written tuple, a written list -/
def few (xs : List PyData) : Option (List PyData) := if xs.length ≤ wee then some xs else none
def mTup (es : Ma) : Md := fun g => (es g).bind fun p => (R.of (few p.2)).bind fun z => .ok (p.1, .tuple z)
def mLst (es : Ma) : Mv := fun g => (es g).bind fun p => (R.of (few p.2)).bind fun z => .ok (p.1, .ls 0 z)
theorem few_le {xs z : List PyData} (h : few xs = some z) : z = xs ∧ xs.length ≤ wee := by
  unfold few at h
  by_cases c : xs.length ≤ wee
  · rw [if_pos c] at h; exact ⟨(Option.some.inj h).symm, c⟩
  · rw [if_neg c] at h; cases h
theorem d_tup (ha : As K Er tr es) : Ds K Er (tTup tr) (mTup es) := fun pn g Γ B σ F H hg I rn Q q => by
  obtain ⟨r1, r2⟩ := rn.bind
  refine ha pn g Γ B σ F H hg I r1 _ fun g1 xs Γ1 vs F1 H1 e1 hg1 n I1 ex1 => ?_
  obtain ⟨r5, _⟩ := (r2 _ e1).bind
  obtain ⟨z, hf⟩ := r5.of
  obtain ⟨ez, hz⟩ := few_le hf
  subst ez
  obtain ⟨h1, h2⟩ := Ok.all n.symm I1
  refine ⟨Nat.le_trans (by rw [h1.len]; exact hz) (by decide), fun p hp => ?_⟩
  have eF : Ex F1 (upd F1 p (.tup vs)) := Ex.new (h2.nF hp)
  refine q g1 (.tuple z) Γ1 _ (upd F1 p (.tup vs)) _ ?_ hg1 ((h2.alloc hp).push (Dq.tup (.inl (.inl upd_same)) hz (DqAll.mono eF _ _ h1))) (ex1.trans eF)
  show (es g).bind _ = _
  rw [e1]; show (R.of (few z)).bind _ = _
  rw [hf]; rfl
theorem v_lst (ha : As K Er tr es) : Vs K Er (tLst tr) (mLst es) := fun pn g Γ B σ F H hg I rn Q q => by
  obtain ⟨r1, r2⟩ := rn.bind
  refine ha pn g Γ B σ F H hg I r1 _ fun g1 xs Γ1 vs F1 H1 e1 hg1 n I1 ex1 => ?_
  obtain ⟨r5, _⟩ := (r2 _ e1).bind
  obtain ⟨z, hf⟩ := r5.of
  obtain ⟨ez, hz⟩ := few_le hf
  subst ez
  obtain ⟨h1, h2⟩ := Ok.all n.symm I1
  refine ⟨Nat.le_trans (by rw [h1.len]; exact hz) (by decide), fun p hp => ?_⟩
  refine q g1 (.ls 0 z) Γ1 _ _ F1 _ ?_ hg1 ⟨p, rfl, fun z => absurd rfl z⟩ (h2.pushL hp hz h1) ex1
  show (es g).bind _ = _
  rw [e1]; show (R.of (few z)).bind _ = _
  rw [hf]; rfl
/-! ### tests -/
def SD.bl? : PyData → Option Bool
  | .bool b => some b
  | _ => none
def mT (e : Md) : Mt := fun g => (e g).bind fun p => (R.of (SD.bl? p.2)).bind fun z => .ok (p.1, z)
theorem bl_eq {x : PyData} {b : Bool} (h : SD.bl? x = some b) : x = .bool b := by
  cases x <;> first | (cases h; rfl) | cases h
theorem t_tie (h : Ds K Er te e) {tt : TT} (ht : tt = (fun σ H Q => te σ H fun x H' => ∃ k, x = .bl k ∧ Q k H')) : Ts K Er tt (mT e) := by
  subst ht
  intro pn g Γ B σ F H hg I rn Q q
  obtain ⟨r1, r2⟩ := rn.bind
  refine h pn g Γ B σ F H hg I r1 _ fun g1 x Γ1 v F1 H1 e1 hg1 I1 ex1 => ?_
  obtain ⟨r5, _⟩ := (r2 _ e1).bind
  obtain ⟨z, hz⟩ := r5.of
  have ez := bl_eq hz
  subst ez
  obtain ⟨v', h1, hv⟩ := Ok.head I1
  cases h1
  cases hv
  exact ⟨z, rfl, q g1 z Γ1 F1 H1 (by show (_ : R _).bind _ = _; rw [e1]; rfl) hg1 (Ok.pop I1) ex1⟩
theorem ts_test (h : Ds K Er te e) : Ts K Er (tTest te) (mT e) := t_tie h rfl
theorem ts_B (h : Ds K Er te e) : Ts K Er (tB te) (mT e) := t_tie h rfl
def mYes : Mt := fun g => .ok (g, true)
theorem ts_yes : Ts K Er tYes mYes := fun pn g Γ B σ F H hg I rn Q q => q g true Γ F H rfl hg I (Ex.refl F)
def mNot (t : Mt) : Mt := fun g => (t g).bind fun p => .ok (p.1, !p.2)
theorem ts_not (h : Ts K Er tt t) : Ts K Er (tNot tt) (mNot t) := fun pn g Γ B σ F H hg I rn Q q => by
  obtain ⟨r1, _⟩ := rn.bind
  refine h pn g Γ B σ F H hg I r1 _ fun g1 b Γ1 F1 H1 e1 hg1 I1 ex1 => q g1 (!b) Γ1 F1 H1 (by show (_ : R _).bind _ = _; rw [e1]; rfl) hg1 I1 ex1
def mAnd (t u : Mt) : Mt := fun g => (t g).bind fun p => match p.2 with | true => u p.1 | false => .ok (p.1, false)
def mOr (t u : Mt) : Mt := fun g => (t g).bind fun p => match p.2 with | true => .ok (p.1, true) | false => u p.1
theorem ts_and (h : Ts K Er tt t) (h2 : Ts K Er tu u) : Ts K Er (tAnd tt tu) (mAnd t u) := fun pn g Γ B σ F H hg I rn Q q => by
  obtain ⟨r1, r2⟩ := rn.bind
  refine h pn g Γ B σ F H hg I r1 _ fun g1 b Γ1 F1 H1 e1 hg1 I1 ex1 => ?_
  have r3 := r2 _ e1
  cases b with
  | true =>
    show tu σ H1 Q
    exact h2 pn g1 Γ1 B σ F1 H1 hg1 I1 r3 Q fun g2 b Γ2 F2 H2 e2 hg2 I2 ex2 => q g2 b Γ2 F2 H2 (by show (t g).bind _ = _; rw [e1]; exact e2) hg2 I2 (ex1.trans ex2)
  | false =>
    show Q false H1
    exact q g1 false Γ1 F1 H1 (by show (t g).bind _ = _; rw [e1]; rfl) hg1 I1 ex1
theorem ts_or (h : Ts K Er tt t) (h2 : Ts K Er tu u) : Ts K Er (tOr tt tu) (mOr t u) := fun pn g Γ B σ F H hg I rn Q q => by
  obtain ⟨r1, r2⟩ := rn.bind
  refine h pn g Γ B σ F H hg I r1 _ fun g1 b Γ1 F1 H1 e1 hg1 I1 ex1 => ?_
  have r3 := r2 _ e1
  cases b with
  | false =>
    show tu σ H1 Q
    exact h2 pn g1 Γ1 B σ F1 H1 hg1 I1 r3 Q fun g2 b Γ2 F2 H2 e2 hg2 I2 ex2 => q g2 b Γ2 F2 H2 (by show (t g).bind _ = _; rw [e1]; exact e2) hg2 I2 (ex1.trans ex2)
  | true =>
    show Q true H1
    exact q g1 true Γ1 F1 H1 (by show (t g).bind _ = _; rw [e1]; rfl) hg1 I1 ex1
/-- and, or, not as values -/
def mAndV (a b : Md) : Md := fun g => (a g).bind fun p => (R.of (SD.bl? p.2)).bind fun z => match z with | true => b p.1 | false => .ok (p.1, .bool false)
def mOrV (a b : Md) : Md := fun g => (a g).bind fun p => (R.of (SD.bl? p.2)).bind fun z => match z with | true => .ok (p.1, .bool true) | false => b p.1
def mNotV (a : Md) : Md := fun g => (a g).bind fun p => (R.of (SD.bl? p.2)).bind fun z => .ok (p.1, .bool (!z))
theorem d_andV (ha : Ds K Er ta a) (hb : Ds K Er tb b) : Ds K Er (tAndV ta tb) (mAndV a b) := fun pn g Γ B σ F H hg I rn Q q => by
  obtain ⟨r1, r2⟩ := rn.bind
  refine ha pn g Γ B σ F H hg I r1 _ fun g1 x Γ1 v F1 H1 e1 hg1 I1 ex1 => ?_
  obtain ⟨r5, r6⟩ := (r2 _ e1).bind
  obtain ⟨z, hz⟩ := r5.of
  have r7 := r6 z (by rw [hz]; rfl)
  have ez := bl_eq hz
  subst ez
  obtain ⟨v', h1, hv⟩ := Ok.head I1
  cases h1
  cases hv
  refine ⟨z, rfl, ?_⟩
  cases z with
  | true =>
    show tb σ H1 Q
    exact hb pn g1 Γ1 B σ F1 H1 hg1 (Ok.pop I1) r7 Q fun g2 b' Γ2 w F2 H2 e2 hg2 I2 ex2 => q g2 b' Γ2 w F2 H2 (by show (a g).bind _ = _; rw [e1]; exact e2) hg2 I2 (ex1.trans ex2)
  | false => exact q g1 _ Γ1 _ F1 H1 (by show (a g).bind _ = _; rw [e1]; rfl) hg1 I1 ex1
theorem d_orV (ha : Ds K Er ta a) (hb : Ds K Er tb b) : Ds K Er (tOrV ta tb) (mOrV a b) := fun pn g Γ B σ F H hg I rn Q q => by
  obtain ⟨r1, r2⟩ := rn.bind
  refine ha pn g Γ B σ F H hg I r1 _ fun g1 x Γ1 v F1 H1 e1 hg1 I1 ex1 => ?_
  obtain ⟨r5, r6⟩ := (r2 _ e1).bind
  obtain ⟨z, hz⟩ := r5.of
  have r7 := r6 z (by rw [hz]; rfl)
  have ez := bl_eq hz
  subst ez
  obtain ⟨v', h1, hv⟩ := Ok.head I1
  cases h1
  cases hv
  refine ⟨z, rfl, ?_⟩
  cases z with
  | false =>
    show tb σ H1 Q
    exact hb pn g1 Γ1 B σ F1 H1 hg1 (Ok.pop I1) r7 Q fun g2 b' Γ2 w F2 H2 e2 hg2 I2 ex2 => q g2 b' Γ2 w F2 H2 (by show (a g).bind _ = _; rw [e1]; exact e2) hg2 I2 (ex1.trans ex2)
  | true => exact q g1 _ Γ1 _ F1 H1 (by show (a g).bind _ = _; rw [e1]; rfl) hg1 I1 ex1
theorem d_notV (ha : Ds K Er ta a) : Ds K Er (tNotV ta) (mNotV a) := fun pn g Γ B σ F H hg I rn Q q => by
  obtain ⟨r1, r2⟩ := rn.bind
  refine ha pn g Γ B σ F H hg I r1 _ fun g1 x Γ1 v F1 H1 e1 hg1 I1 ex1 => ?_
  obtain ⟨r5, r6⟩ := (r2 _ e1).bind
  obtain ⟨z, hz⟩ := r5.of
  have ez := bl_eq hz
  subst ez
  obtain ⟨v', h1, hv⟩ := Ok.head I1
  cases h1
  cases hv
  exact ⟨z, rfl, q g1 _ Γ1 _ F1 H1 (by show (a g).bind _ = _; rw [e1]; rfl) hg1 ((Ok.pop I1).push (Dq.bl _)) ex1⟩
/-- a if t else b -/
def mIf (t : Mt) (a b : Mv) : Mv := fun g => (t g).bind fun p => match p.2 with | true => a p.1 | false => b p.1
theorem v_if {a b : Mv} (hc : Ts K Er tt t) (ha : Vs K Er ta a) (hb : Vs K Er tb b) : Vs K Er (tIf tt ta tb) (mIf t a b) := fun pn g Γ B σ F H hg I rn Q q => by
  obtain ⟨r1, r2⟩ := rn.bind
  refine hc pn g Γ B σ F H hg I r1 _ fun g1 z Γ1 F1 H1 e1 hg1 I1 ex1 => ?_
  have r3 := r2 _ e1
  cases z with
  | true => exact ha pn g1 Γ1 B σ F1 H1 hg1 I1 r3 Q fun g2 x Γ2 s w F2 H2 e2 hg2 hs I2 ex2 => q g2 x Γ2 s w F2 H2 (by show (t g).bind _ = _; rw [e1]; exact e2) hg2 hs I2 (ex1.trans ex2)
  | false => exact hb pn g1 Γ1 B σ F1 H1 hg1 I1 r3 Q fun g2 x Γ2 s w F2 H2 e2 hg2 hs I2 ex2 => q g2 x Γ2 s w F2 H2 (by show (t g).bind _ = _; rw [e1]; exact e2) hg2 hs I2 (ex1.trans ex2)
/-- a op b op' c -/
def chain2 (f' : PyData → PyData → Option PyData) (c : Md) (g : En) (y : PyData) (z : Bool) : R (En × PyData) := match z with
  | true => (c g).bind fun u => (R.of (f' y u.2)).bind fun w => .ok (u.1, w)
  | false => .ok (g, .bool false)
def mChain (f f' : PyData → PyData → Option PyData) (a b c : Md) : Md := fun g => (a g).bind fun p => (b p.1).bind fun q => (R.of ((f p.2 q.2).bind SD.bl?)).bind fun z => chain2 f' c q.1 q.2 z
theorem d_chain {f f' : PyData → PyData → Option PyData} (hr : OpD K r f) (hr' : OpD K r' f') (ha : Ds K Er ta a) (hb : Ds K Er tb b) (hc : Ds K Er tc c) : Ds K Er (tChain r r' ta tb tc) (mChain f f' a b c) := fun pn g Γ B σ F H hg I rn Q q => by
  obtain ⟨r1, r2⟩ := rn.bind
  refine ha pn g Γ B σ F H hg I r1 _ fun g1 x Γ1 v F1 H1 e1 hg1 I1 ex1 => ?_
  obtain ⟨r3, r4⟩ := (r2 _ e1).bind
  refine hb.under (τ := [some v]) (Δ := [Da K x]) rfl hg1 I1 r3 fun g2 y Γ2 w F2 H2 e2 hg2 I2 ex2 => ?_
  obtain ⟨r5, r6⟩ := (r4 _ e2).bind
  obtain ⟨z, hz⟩ := r5.of
  have r7 := r6 z (by rw [hz]; rfl)
  obtain ⟨d, hd, hdz⟩ := Option.bind_eq_some_iff.mp hz
  have ez := bl_eq hdz
  subst ez
  obtain ⟨v', h1, hv⟩ := Ok.head I2
  cases h1
  obtain ⟨w', h2, hw⟩ := Ok.head (Ok.pop I2)
  cases h2
  refine hr x y _ hd B _ _ F2 H2 v w (Ok.pop I2) hv hw _ fun u F3 H3 I3 ex3 => ?_
  obtain ⟨u', h3, hu⟩ := Ok.head I3
  cases h3
  cases hu
  refine ⟨z, rfl, ?_⟩
  have eA : mChain f f' a b c g = chain2 f' c g2 y z := by
    show (a g).bind _ = _
    rw [e1]; show (b g1).bind _ = _
    rw [e2]; show (R.of ((f x y).bind SD.bl?)).bind _ = _
    rw [hd]; rfl
  cases z with
  | true =>
    show tc σ H3 fun w' H4 => r' w w' H4 Q
    obtain ⟨r8, r9⟩ := r7.bind
    refine hc.under (τ := [some w]) (Δ := [Da K y]) rfl hg2 (Ok.pop I3) r8 fun g4 y4 Γ4 w4 F4 H4 e4 hg4 I4 ex4 => ?_
    obtain ⟨r10, _⟩ := (r9 _ e4).bind
    obtain ⟨z4, hz4⟩ := r10.of
    obtain ⟨v5, h5, hv5⟩ := Ok.head I4
    cases h5
    obtain ⟨w6, h6, hw6⟩ := Ok.head (Ok.pop I4)
    cases h6
    refine hr' y y4 z4 hz4 B _ _ F4 H4 w w4 (Ok.pop (Ok.pop I4)) hv5 hw6 Q fun u F5 H5 I5 ex5 => ?_
    refine q g4 z4 Γ4 u F5 H5 ?_ hg4 I5 ((((ex1.trans ex2).trans ex3).trans ex4).trans ex5)
    rw [eA]
    show (c g2).bind _ = _
    rw [e4]; show (R.of (f' y y4)).bind _ = _
    rw [hz4]; rfl
  | false =>
    show Q (.bl false) H3
    exact q g2 _ Γ2 _ F3 H3 eA hg2 ((Ok.pop (Ok.pop I3)).push (Dq.bl false)) ((ex1.trans ex2).trans ex3)
end
end AL
/-! AL2: the operators and built-ins on data; slices; what is walked. -/
namespace AL
open PySem L2 TL
open Evl (Ex ex_l ex_t)
/-! ### lists of one kind -/
def ints? : List PyData → Option (List Int)
  | [] => some []
  | .int n :: r => (ints? r).map (n :: ·)
  | _ :: _ => none
theorem ints_eq : ∀ {ds : List PyData} {ns : List Int}, ints? ds = some ns → ds = ns.map .int
  | [], _, h => by cases h; rfl
  | .int n :: r, ns, h => by
    obtain ⟨m, h1, h2⟩ := Option.map_eq_some_iff.mp h
    subst h2
    rw [ints_eq h1]; rfl
  | .none :: _, _, h => by cases h
  | .bool _ :: _, _, h => by cases h
  | .str _ :: _, _, h => by cases h
  | .list _ :: _, _, h => by cases h
  | .tuple _ :: _, _, h => by cases h
  | .dict _ :: _, _, h => by cases h
@[simp] theorem ints_map (ns : List Int) : ints? (ns.map .int) = some ns := by
  induction ns with
  | nil => rfl
  | cons n r ih => show (ints? (r.map .int)).map _ = _; rw [ih]; rfl
def bools? : List PyData → Option (List Bool)
  | [] => some []
  | .bool n :: r => (bools? r).map (n :: ·)
  | _ :: _ => none
theorem bools_eq : ∀ {ds : List PyData} {ns : List Bool}, bools? ds = some ns → ds = ns.map .bool
  | [], _, h => by cases h; rfl
  | .bool n :: r, ns, h => by
    obtain ⟨m, h1, h2⟩ := Option.map_eq_some_iff.mp h
    subst h2
    rw [bools_eq h1]; rfl
  | .none :: _, _, h => by cases h
  | .int _ :: _, _, h => by cases h
  | .str _ :: _, _, h => by cases h
  | .list _ :: _, _, h => by cases h
  | .tuple _ :: _, _, h => by cases h
  | .dict _ :: _, _, h => by cases h
@[simp] theorem bools_map (ns : List Bool) : bools? (ns.map .bool) = some ns := by
  induction ns with
  | nil => rfl
  | cons n r ih => show (bools? (r.map .bool)).map _ = _; rw [ih]; rfl
/-! ### two-place operators -/
def iop (h : Int → Int → PyData) (x y : PyData) : Option PyData :=
  match x, y with
  | .int a, .int b => some (h a b)
  | _, _ => none
def iopC (c : Int → Int → Bool) (h : Int → Int → PyData) (x y : PyData) : Option PyData :=
  match x, y with
  | .int a, .int b => if c a b then some (h a b) else none
  | _, _ => none
def addI := iop fun a b => .int (a + b)
def subI := iop fun a b => .int (a - b)
def ltI := iop fun a b => .bool (decide (a < b))
def leI := iop fun a b => .bool (decide (a ≤ b))
def gtI := iop fun a b => .bool (decide (b < a))
def geI := iop fun a b => .bool (decide (b ≤ a))
def eqI := iop fun a b => .bool (decide (a = b))
def neI := iop fun a b => .bool (!decide (a = b))
def okMul (a b : Int) : Bool := (decide (-18446744073709551616 < a) && decide (a < 18446744073709551616)) || (decide (-18446744073709551616 < b) && decide (b < 18446744073709551616))
def mulI := iopC okMul fun a b => .int (a * b)
def modI := iopC (fun _ b => decide (0 < b)) fun a b => .int (a % b)
def divI := iopC (fun _ b => decide (0 < b) && decide (b < 1073741824)) fun a b => .int (a / b)
def powI := iopC (fun a b => decide (0 ≤ b) && decide (b ≤ 1000000) && decide (a.natAbs < 18446744073709551616)) fun a b => .int (a ^ b.toNat)
section
variable {K : PySem.W.Frag} {pn : Nat → Addr}
theorem iop_eq {h : Int → Int → PyData} {x y z : PyData} (e : iop h x y = some z) : ∃ a b, x = .int a ∧ y = .int b ∧ z = h a b := by
  unfold iop at e
  split at e
  · rename_i a b
    exact ⟨a, b, rfl, rfl, (Option.some.inj e).symm⟩
  · cases e
theorem iopC_eq {c : Int → Int → Bool} {h : Int → Int → PyData} {x y z : PyData} (e : iopC c h x y = some z) : ∃ a b, x = .int a ∧ y = .int b ∧ c a b = true ∧ z = h a b := by
  unfold iopC at e
  split at e
  · rename_i a b
    by_cases q : c a b = true
    · rw [if_pos q] at e
      exact ⟨a, b, rfl, rfl, q, (Option.some.inj e).symm⟩
    · rw [if_neg q] at e; cases e
  · cases e
theorem o_add : OpD K (rI0 fun i j => .int (i + j)) addI := fun x y z e => by
  obtain ⟨a, b, rfl, rfl, rfl⟩ := iop_eq e
  exact rd_I0 rfl
theorem o_sub : OpD K (rI0 fun i j => .int (i - j)) subI := fun x y z e => by
  obtain ⟨a, b, rfl, rfl, rfl⟩ := iop_eq e
  exact rd_I0 rfl
theorem o_lt : OpD K (rI0 fun i j => .bl (decide (i < j))) ltI := fun x y z e => by
  obtain ⟨a, b, rfl, rfl, rfl⟩ := iop_eq e
  exact rd_I0b rfl
theorem o_le : OpD K (rI0 fun i j => .bl (decide (i ≤ j))) leI := fun x y z e => by
  obtain ⟨a, b, rfl, rfl, rfl⟩ := iop_eq e
  exact rd_I0b rfl
theorem o_gt : OpD K (rI0 fun i j => .bl (decide (j < i))) gtI := fun x y z e => by
  obtain ⟨a, b, rfl, rfl, rfl⟩ := iop_eq e
  exact rd_I0b rfl
theorem o_ge : OpD K (rI0 fun i j => .bl (decide (j ≤ i))) geI := fun x y z e => by
  obtain ⟨a, b, rfl, rfl, rfl⟩ := iop_eq e
  exact rd_I0b rfl
theorem o_eq : OpD K rEq eqI := fun x y z e => by
  obtain ⟨a, b, rfl, rfl, rfl⟩ := iop_eq e
  exact rd_eqI
theorem o_ne : OpD K rNe neI := fun x y z e => by
  obtain ⟨a, b, rfl, rfl, rfl⟩ := iop_eq e
  exact rd_neI
theorem o_mul : OpD K (rI CMul fun i j => .int (i * j)) mulI := fun x y z e => by
  obtain ⟨a, b, rfl, rfl, c, rfl⟩ := iopC_eq e
  refine rd_I ?_ rfl
  simp only [okMul, Bool.or_eq_true, Bool.and_eq_true, decide_eq_true_eq] at c
  unfold CMul
  omega
theorem o_mod : OpD K (rI (fun _ j => 0 < j) fun i j => .int (i % j)) modI := fun x y z e => by
  obtain ⟨a, b, rfl, rfl, c, rfl⟩ := iopC_eq e
  exact rd_I (of_decide_eq_true c) rfl
theorem o_div : OpD K (rI CDiv fun i j => .int (i / j)) divI := fun x y z e => by
  obtain ⟨a, b, rfl, rfl, c, rfl⟩ := iopC_eq e
  simp only [Bool.and_eq_true, decide_eq_true_eq] at c
  exact rd_I (by exact c) rfl
theorem o_pow : OpD K (rI CPow fun i j => .int (i ^ j.toNat)) powI := fun x y z e => by
  obtain ⟨a, b, rfl, rfl, c, rfl⟩ := iopC_eq e
  simp only [Bool.and_eq_true, decide_eq_true_eq] at c
  exact rd_I (by exact ⟨c.1.1, c.1.2, c.2⟩) rfl
/-- == of data -/
def eqD (x y : PyData) : Option PyData := if SeqAt.shaped x && SeqAt.shaped y then some (.bool (PyData.eqv x y)) else none
def neD (x y : PyData) : Option PyData := if SeqAt.shaped x && SeqAt.shaped y then some (.bool (!PyData.eqv x y)) else none
theorem o_eqD : OpD K (rEqD K) eqD := fun x y z e => by
  unfold eqD at e
  by_cases c : (SeqAt.shaped x && SeqAt.shaped y) = true
  · rw [if_pos c] at e
    cases e
    rw [Bool.and_eq_true] at c
    exact rd_eqD c.1 c.2
  · rw [if_neg c] at e; cases e
theorem o_neD : OpD K (rNeD K) neD := fun x y z e => by
  unfold neD at e
  by_cases c : (SeqAt.shaped x && SeqAt.shaped y) = true
  · rw [if_pos c] at e
    cases e
    rw [Bool.and_eq_true] at c
    exact rd_neD c.1 c.2
  · rw [if_neg c] at e; cases e
/-- is None, is True -/
def isN (x y : PyData) : Option PyData := match y with
  | .none => some (.bool (isNoneD x))
  | _ => none
def notN (x y : PyData) : Option PyData := match y with
  | .none => some (.bool (!isNoneD x))
  | _ => none
theorem o_isN : OpD K (fun x y H Q => y = .non ∧ Q (.bl (decide (x = .non))) H) isN := fun x y z e => by
  cases y <;> first | (cases e; exact rd_isN) | cases e
theorem o_notN : OpD K (fun x y H Q => y = .non ∧ Q (.bl (!decide (x = .non))) H) notN := fun x y z e => by
  cases y <;> first | (cases e; exact rd_notN) | cases e
def isB (x y : PyData) : Option PyData := match x, y with
  | .bool a, .bool b => some (.bool (decide (a = b)))
  | _, _ => none
def notB (x y : PyData) : Option PyData := match x, y with
  | .bool a, .bool b => some (.bool (!decide (a = b)))
  | _, _ => none
theorem o_isB {r : R2} (hr : r = fun x y H Q => ∃ a b, x = .bl a ∧ y = .bl b ∧ Q (.bl (decide (a = b))) H := by rfl) : OpD K r isB := fun x y z e => by
  unfold isB at e
  split at e
  · cases e; exact rd_isB hr
  · cases e
theorem o_notB {r : R2} (hr : r = fun x y H Q => ∃ a b, x = .bl a ∧ y = .bl b ∧ Q (.bl (!decide (a = b))) H := by rfl) : OpD K r notB := fun x y z e => by
  unfold notB at e
  split at e
  · cases e; exact rd_nisB hr
  · cases e
/-- in a list, a tuple of ints -/
def seq? : PyData → Option (List PyData)
  | .list ds => some ds
  | .tuple ds => some ds
  | _ => none
def inI (neg : Bool) (x y : PyData) : Option PyData := match x with
  | .int n => ((seq? y).bind ints?).map fun ns => .bool (if neg then !decide (n ∈ ns) else decide (n ∈ ns))
  | _ => none
theorem o_in {neg : Bool} : OpD K (rIn K neg) (inI neg) := fun x y z e => by
  cases x with
  | int n =>
    obtain ⟨ns, h1, h2⟩ := Option.map_eq_some_iff.mp e
    obtain ⟨ds, h3, h4⟩ := Option.bind_eq_some_iff.mp h1
    have h5 := ints_eq h4
    subst h2 h5
    refine rd_inI ?_
    cases y <;> first | (cases h3; first | exact .inl rfl | exact .inr rfl) | cases h3
  | _ => cases e
/-- + of tuples, of lists, of texts -/
def catT (x y : PyData) : Option PyData := match x, y with
  | .tuple a, .tuple b => if a.length + b.length ≤ wee then some (.tuple (a ++ b)) else none
  | _, _ => none
theorem o_catT : OpD K (rCatA K) catT := fun x y z e => by
  unfold catT at e
  split at e
  · split at e
    · cases e; exact rd_catA (by assumption)
    · cases e
  · cases e
def catL (x y : PyData) : Option (List PyData) := match x, y with
  | .list a, .list b => if a.length + b.length ≤ wee then some (a ++ b) else none
  | _, _ => none
theorem o_catL : OpL K (rCatS K) catL := fun x y z e => by
  unfold catL at e
  split at e
  · split at e
    · cases e; exact ro_catS (by assumption)
    · cases e
  · cases e
def addS (x y : PyData) : Option PyData := match x, y with
  | .str a, .str b => if a.length + b.length ≤ wee then some (.str (a ++ b)) else none
  | _, _ => none
theorem o_addS : OpD K (fun x y H Q => ∃ i j, x = .str i ∧ y = .str j ∧ i.length + j.length ≤ sizeLine ∧ Q (.str (i ++ j)) H) addS := fun x y z e => by
  unfold addS at e
  split at e
  · split at e
    · cases e
      rename_i a b hz
      exact rd_v fun F H v w _ hv hw => by
        cases hv; cases hw
        exact ⟨_, Dq.str _, fun Q q => ⟨a, b, rfl, rfl, Nat.le_trans hz (by decide), q⟩⟩
    · cases e
  · cases e
/-- tuple * int -/
def repT (x y : PyData) : Option PyData := match x, y with
  | .tuple ds, .int k => if ds ≠ [] ∧ 1 ≤ k ∧ k ≤ 1000 ∧ ds.length ≤ 1000 ∧ k.toNat * ds.length ≤ wee then some (.tuple (List.replicate k.toNat ds).flatten) else none
  | _, _ => none
theorem o_repT : OpD K (rRepA K) repT := fun x y z e => by
  unfold repT at e
  split at e
  · split at e
    · rename_i c
      cases e
      exact rd_repT c.1 c.2.1 c.2.2.1 c.2.2.2.1 c.2.2.2.2
    · cases e
  · cases e
/-- items -/
def ixT (x y : PyData) : Option PyData := match x, y with
  | .tuple ds, .int i => atI ds i
  | _, _ => none
theorem o_ixT : OpD K (rIxT K) ixT := fun x y z e => by
  unfold ixT at e
  split at e
  · exact rd_ixT e
  · cases e
def ixL (x y : PyData) : Option PyData := match x, y with
  | .list ds, .int i => atI ds i
  | _, _ => none
theorem o_ixL : OpD K (rIxL K) ixL := fun x y z e => by
  unfold ixL at e
  split at e
  · exact rd_ixL e
  · cases e
def negI : PyData → Option PyData
  | .int a => some (.int (-a))
  | _ => none
theorem u_neg : ∀ x z, negI x = some z → UD K (rU fun i => .int (-i)) x z := fun x z e => by
  cases x <;> first | (cases e; exact ud_I rfl) | cases e
/-! ### built-ins -/
def fLen : List PyData → Option PyData
  | [.list ds] => some (.int (ds.length : Nat))
  | [.tuple ds] => some (.int (ds.length : Nat))
  | _ => none
theorem c_len : ∀ xs z, fLen xs = some z → CD K (rLenK K) xs z := fun xs z e => by
  unfold fLen at e
  split at e
  · cases e; exact TL.cd_len
  · cases e; exact TL.cd_lenT
  · cases e
def fAll : List PyData → Option PyData
  | [.list ds] => (bools? ds).map fun bs => .bool (bs.all id)
  | _ => none
theorem c_all : ∀ xs z, fAll xs = some z → CD K (rAll K) xs z := fun xs z e => by
  unfold fAll at e
  split at e
  · obtain ⟨bs, h1, h2⟩ := Option.map_eq_some_iff.mp e
    have := bools_eq h1
    subst this h2
    exact cd_all
  · cases e
def fAny : List PyData → Option PyData
  | [.list ds] => (bools? ds).map fun bs => .bool (bs.any id)
  | _ => none
theorem c_any : ∀ xs z, fAny xs = some z → CD K (rAny K) xs z := fun xs z e => by
  unfold fAny at e
  split at e
  · obtain ⟨bs, h1, h2⟩ := Option.map_eq_some_iff.mp e
    have := bools_eq h1
    subst this h2
    exact cd_any
  · cases e
def fSum : List PyData → Option PyData
  | [.list ds] => (ints? ds).map fun ns => .int ns.sum
  | _ => none
theorem c_sum : ∀ xs z, fSum xs = some z → CD K (rSum K) xs z := fun xs z e => by
  unfold fSum at e
  split at e
  · obtain ⟨bs, h1, h2⟩ := Option.map_eq_some_iff.mp e
    have := ints_eq h1
    subst this h2
    exact cd_sum
  · cases e
def fMax : List PyData → Option PyData
  | [.list ds] => (ints? ds).bind fun ns => if ns = [] then none else some (.int (maxL ns))
  | _ => none
theorem c_max : ∀ xs z, fMax xs = some z → CD K (rMax K) xs z := fun xs z e => by
  unfold fMax at e
  split at e
  · obtain ⟨bs, h1, h2⟩ := Option.bind_eq_some_iff.mp e
    have := ints_eq h1
    subst this
    split at h2
    · cases h2
    · cases h2; exact cd_max (by assumption)
  · cases e
def fMin : List PyData → Option PyData
  | [.list ds] => (ints? ds).bind fun ns => if ns = [] then none else some (.int (minL ns))
  | _ => none
theorem c_min : ∀ xs z, fMin xs = some z → CD K (rMin K) xs z := fun xs z e => by
  unfold fMin at e
  split at e
  · obtain ⟨bs, h1, h2⟩ := Option.bind_eq_some_iff.mp e
    have := ints_eq h1
    subst this
    split at h2
    · cases h2
    · cases h2; exact cd_min (by assumption)
  · cases e
def fMax2 : List PyData → Option PyData
  | [.int a, .int b] => some (.int (max a b))
  | _ => none
def fMin2 : List PyData → Option PyData
  | [.int a, .int b] => some (.int (min a b))
  | _ => none
theorem c_max2 {r : List V → Hp → VK → Prop} (hr : r = fun xs H Q => ∃ i j, xs = [.int i, .int j] ∧ Q (.int (if j > i then j else i)) H := by rfl) : ∀ xs z, fMax2 xs = some z → CD K r xs z := fun xs z e => by
  unfold fMax2 at e
  split at e
  · cases e; exact cd_max2 hr
  · cases e
theorem c_min2 {r : List V → Hp → VK → Prop} (hr : r = fun xs H Q => ∃ i j, xs = [.int i, .int j] ∧ Q (.int (if j < i then j else i)) H := by rfl) : ∀ xs z, fMin2 xs = some z → CD K r xs z := fun xs z e => by
  unfold fMin2 at e
  split at e
  · cases e; exact cd_min2 hr
  · cases e
def fList : List PyData → Option (List PyData)
  | [x] => seq? x
  | _ => none
theorem c_list : ∀ xs z, fList xs = some z → CO K (rListK K) xs z := fun xs z e => by
  unfold fList at e
  split at e
  · rename_i x
    refine co_list ?_
    cases x <;> first | (cases e; first | exact .inl rfl | exact .inr rfl) | cases e
  · cases e
def fTuple : List PyData → Option PyData
  | [x] => (seq? x).map .tuple
  | _ => none
theorem c_tuple : ∀ xs z, fTuple xs = some z → CD K (rTupK K) xs z := fun xs z e => by
  unfold fTuple at e
  split at e
  · rename_i x
    obtain ⟨ds, h1, h2⟩ := Option.map_eq_some_iff.mp e
    subst h2
    refine cd_tuple ?_
    cases x <;> first | (cases h1; first | exact .inl rfl | exact .inr rfl) | cases h1
  · cases e
def fSortT : List PyData → Option (List PyData)
  | [.tuple ds] => (ints? ds).bind fun ns => if ns.length < 64 then some ((sortI ns).map .int) else none
  | _ => none
theorem c_sortT : ∀ xs z, fSortT xs = some z → CO K (rSortTup K) xs z := fun xs z e => by
  unfold fSortT at e
  split at e
  · obtain ⟨bs, h1, h2⟩ := Option.bind_eq_some_iff.mp e
    have := ints_eq h1
    subst this
    split at h2
    · cases h2; exact co_sortT (by assumption)
    · cases h2
  · cases e
def fSortL : List PyData → Option (List PyData)
  | [.list ds] => (ints? ds).bind fun ns => if ns.length ≤ wee then some ((sortI ns).map .int) else none
  | _ => none
theorem c_sortL : ∀ xs z, fSortL xs = some z → CO K (rSortedI K) xs z := fun xs z e => by
  unfold fSortL at e
  split at e
  · obtain ⟨bs, h1, h2⟩ := Option.bind_eq_some_iff.mp e
    have := ints_eq h1
    subst this
    split at h2
    · cases h2; exact co_sortL (by assumption)
    · cases h2
  · cases e
end
/-! ### isinstance, slices, ranges -/
abbrev Mo := En → R (En × Option Int)
def Os (K : PySem.W.Frag) (Er : Ec) (to : TO) (e : Mo) : Prop := ∀ (pn : Nat → Addr) (g : En) (Γ : List Sl) (B : Bs) (σ : St) (F H : Hp), Rel K pn g Γ → Ok B Γ σ F H → Rn K Er B (e g) → ∀ Q : Option Int → Hp → Prop,
  (∀ g' o Γ' F' H', e g = .ok (g', o) → Rel K pn g' Γ' → Ok B Γ' σ F' H' → Ex F F' → Q o H') → to σ H Q
section
variable {K : PySem.W.Frag} {pn : Nat → Addr} {Er : Ec} {te ta tb : TE} {tr : TA} {tl th : TO} {e a b : Md} {ev : Mv} {es : Ma} {lo hi : Mo} {w : World}
def mIsi (f : PyData → Bool) (a : Md) : Md := fun g => (a g).bind fun p => .ok (p.1, .bool (f p.2))
theorem d_isi {T : String} {f : PyData → Bool} (hf : ∀ x, kitB (tyN x) T = some (f x)) (ha : Ds K Er ta a) : Ds K Er (tCB (rIsi K) (tCons ta (tCons (tC (.ty T)) tNil))) (mIsi f a) := fun pn g Γ B σ F H hg I rn Q q => by
  obtain ⟨r1, _⟩ := rn.bind
  refine ha pn g Γ B σ F H hg I r1 _ fun g1 x Γ1 v F1 H1 e1 hg1 I1 ex1 => ?_
  obtain ⟨v', e, hv⟩ := Ok.head I1
  cases e
  exact ⟨v, .ty T, _, _, f x, rfl, .ty T, Dq.tyX hv I1.ex, hf x, q g1 _ Γ1 _ F1 H1 (by show (a g).bind _ = _; rw [e1]; rfl) hg1 ((Ok.pop I1).push (Dq.bl _)) ex1⟩
def mNoPart : Mo := fun g => .ok (g, none)
def int? : PyData → Option Int
  | .int n => some n
  | _ => none
theorem int_eq {x : PyData} {n : Int} (h : int? x = some n) : x = .int n := by
  cases x <;> first | (cases h; rfl) | cases h
def mPart (e : Md) : Mo := fun g => (e g).bind fun p => (R.of (int? p.2)).bind fun n => .ok (p.1, some n)
theorem os_no : Os K Er tNoPart mNoPart := fun pn g Γ B σ F H hg I rn Q q => q g none Γ F H rfl hg I (Ex.refl F)
theorem os_some (h : Ds K Er te e) : Os K Er (tPart te) (mPart e) := fun pn g Γ B σ F H hg I rn Q q => by
  obtain ⟨r1, r2⟩ := rn.bind
  refine h pn g Γ B σ F H hg I r1 _ fun g1 x Γ1 v F1 H1 e1 hg1 I1 ex1 => ?_
  obtain ⟨r5, _⟩ := (r2 _ e1).bind
  obtain ⟨n, hn⟩ := r5.of
  have ez := int_eq hn
  subst ez
  obtain ⟨v', h1, hv⟩ := Ok.head I1
  cases h1
  cases hv
  exact ⟨n, rfl, q g1 (some n) Γ1 F1 H1 (by show (e g).bind _ = _; rw [e1]; rfl) hg1 (Ok.pop I1) ex1⟩
theorem Os.under {g : En} {Γ Δ : List Sl} {B : Bs} {σ τ : St} {F H : Hp} (h : Os K Er tl lo) (hl : τ.length = Δ.length) (hg : Rel K pn g Γ) (I : Ok B (Δ ++ Γ) (τ ++ σ) F H) (rn : Rn K Er B (lo g)) {Q : Option Int → Hp → Prop} (q : ∀ g' o Γ' F' H', lo g = .ok (g', o) → Rel K pn g' Γ' → Ok B (Δ ++ Γ') (τ ++ σ) F' H' → Ex F F' → Q o H') : tl σ H Q := by
  obtain ⟨B', I', z, c⟩ := under' hl I
  exact h pn g Γ B' σ F H hg I' (rn.base z) Q fun g' x Γ' F' H' a b d e => q g' x Γ' F' H' a b (c _ _ _ _ d) e
def tup? : PyData → Option (List PyData)
  | .tuple ds => some ds
  | _ => none
def lst? : PyData → Option (List PyData)
  | .list ds => some ds
  | _ => none
theorem tup_eq {x : PyData} {n : List PyData} (h : tup? x = some n) : x = .tuple n := by
  cases x <;> first | (cases h; rfl) | cases h
theorem lst_eq {x : PyData} {n : List PyData} (h : lst? x = some n) : x = .list n := by
  cases x <;> first | (cases h; rfl) | cases h
def mSl (k : PyData → Option (List PyData)) (e : Md) (lo hi : Mo) : En → R (En × List PyData) := fun g => (e g).bind fun p => (R.of (k p.2)).bind fun ds => (lo p.1).bind fun q => (hi q.1).bind fun u => .ok (u.1, cutD ds q.2 u.2)
def mSlT (e : Md) (lo hi : Mo) : Md := fun g => (mSl tup? e lo hi g).bind fun p => .ok (p.1, .tuple p.2)
def mSlL (e : Md) (lo hi : Mo) : Mv := fun g => (mSl lst? e lo hi g).bind fun p => .ok (p.1, .ls 0 p.2)
theorem d_slT (he : Ds K Er te e) (h1 : Os K Er tl lo) (h2 : Os K Er th hi) : Ds K Er (tSl (rSlA K) te tl th) (mSlT e lo hi) := fun pn g Γ B σ F H hg I rn Q q => by
  obtain ⟨rr, _⟩ := rn.bind
  obtain ⟨r1, r2⟩ := rr.bind
  refine he pn g Γ B σ F H hg I r1 _ fun g1 x Γ1 v F1 H1 e1 hg1 I1 ex1 => ?_
  obtain ⟨r3, r4⟩ := (r2 _ e1).bind
  obtain ⟨ds, hd⟩ := r3.of
  have r5 := r4 ds (by rw [hd]; rfl)
  have ez := tup_eq hd
  subst ez
  obtain ⟨r6, r7⟩ := r5.bind
  refine h1.under (τ := [some v]) (Δ := [Da K (.tuple ds)]) rfl hg1 I1 r6 fun g2 o1 Γ2 F2 H2 e2 hg2 I2 ex2 => ?_
  obtain ⟨r8, _⟩ := (r7 _ e2).bind
  refine h2.under (τ := [some v]) (Δ := [Da K (.tuple ds)]) rfl hg2 I2 r8 fun g3 o2 Γ3 F3 H3 e3 hg3 I3 ex3 => ?_
  obtain ⟨v', e, hv⟩ := Ok.head I3
  cases e
  have I4 := Ok.pop I3
  have eA := (ex1.trans ex2).trans ex3
  have res : mSlT e lo hi g = .ok (g3, .tuple (cutD ds o1 o2)) := by
    show ((e g).bind _).bind _ = _
    rw [e1]; show ((lo g1).bind _).bind _ = _
    rw [e2]; show ((hi g2).bind _).bind _ = _
    rw [e3]; rfl
  cases hv with
  | @tup p xs _ h3 hz h4 =>
    refine ⟨p, xs, rfl, ex_t I3.ex h3, fun hw => ?_, fun hw p' hp => ?_⟩
    · have ec : cutD ds o1 o2 = ds := by
        obtain ⟨w1, w2⟩ := hw
        unfold cutD
        rw [← h4.len, w1, w2, List.drop_zero, h4.len, Nat.sub_zero, List.take_length]
      rw [ec] at res
      exact q g3 _ Γ3 _ F3 H3 res hg3 (I4.push (Dq.tup h3 hz h4)) eA
    · have eF : Ex F3 (upd F3 p' (.tup (cutV xs o1 o2))) := Ex.new (I4.nF hp)
      exact q g3 _ Γ3 _ _ _ res hg3 ((I4.alloc hp).push (Dq.tup (.inl (.inl upd_same)) (Nat.le_trans cutD_len hz) (DqAll.mono eF _ _ (cutD_all h4)))) (eA.trans eF)
theorem v_slL (he : Ds K Er te e) (h1 : Os K Er tl lo) (h2 : Os K Er th hi) : Vs K Er (tSl (rSlL K) te tl th) (mSlL e lo hi) := fun pn g Γ B σ F H hg I rn Q q => by
  obtain ⟨rr, _⟩ := rn.bind
  obtain ⟨r1, r2⟩ := rr.bind
  refine he pn g Γ B σ F H hg I r1 _ fun g1 x Γ1 v F1 H1 e1 hg1 I1 ex1 => ?_
  obtain ⟨r3, r4⟩ := (r2 _ e1).bind
  obtain ⟨ds, hd⟩ := r3.of
  have r5 := r4 ds (by rw [hd]; rfl)
  have ez := lst_eq hd
  subst ez
  obtain ⟨r6, r7⟩ := r5.bind
  refine h1.under (τ := [some v]) (Δ := [Da K (.list ds)]) rfl hg1 I1 r6 fun g2 o1 Γ2 F2 H2 e2 hg2 I2 ex2 => ?_
  obtain ⟨r8, _⟩ := (r7 _ e2).bind
  refine h2.under (τ := [some v]) (Δ := [Da K (.list ds)]) rfl hg2 I2 r8 fun g3 o2 Γ3 F3 H3 e3 hg3 I3 ex3 => ?_
  obtain ⟨v', e, hv⟩ := Ok.head I3
  cases e
  have I4 := Ok.pop I3
  have res : mSlL e lo hi g = .ok (g3, .ls 0 (cutD ds o1 o2)) := by
    show ((e g).bind _).bind _ = _
    rw [e1]; show ((lo g1).bind _).bind _ = _
    rw [e2]; show ((hi g2).bind _).bind _ = _
    rw [e3]; rfl
  cases hv with
  | @lst p xs _ h3 hz h4 => exact ⟨p, xs, rfl, ex_l I3.ex h3, fun p' hp => q g3 _ Γ3 _ _ F3 _ res hg3 ⟨p', rfl, fun z => absurd rfl z⟩ (I4.pushL hp (Nat.le_trans cutD_len hz) (cutD_all h4)) ((ex1.trans ex2).trans ex3)⟩
def mRevL (e : Md) : Mv := fun g => (e g).bind fun p => (R.of (lst? p.2)).bind fun ds => .ok (p.1, .ls 0 ds.reverse)
theorem v_revL (he : Ds K Er te e) : Vs K Er (tRevL K te) (mRevL e) := fun pn g Γ B σ F H hg I rn Q q => by
  obtain ⟨r1, r2⟩ := rn.bind
  refine he pn g Γ B σ F H hg I r1 _ fun g1 x Γ1 v F1 H1 e1 hg1 I1 ex1 => ?_
  obtain ⟨r3, r4⟩ := (r2 _ e1).bind
  obtain ⟨ds, hd⟩ := r3.of
  have ez := lst_eq hd
  subst ez
  obtain ⟨v', e, hv⟩ := Ok.head I1
  cases e
  cases hv with
  | @lst p xs _ h3 hz h4 =>
    refine ⟨p, xs, rfl, ex_l I1.ex h3, fun p' hp => q g1 (.ls 0 ds.reverse) Γ1 _ _ F1 _ ?_ hg1 ⟨p', rfl, fun z => absurd rfl z⟩ ((Ok.pop I1).pushL hp (by rw [List.length_reverse]; exact hz) h4.reverse) ex1⟩
    show (e g).bind _ = _
    rw [e1]; rfl
/-- ranges -/
abbrev Mr := En → R (En × Int × Int)
def Gs (K : PySem.W.Frag) (Er : Ec) (t : St → Hp → (Int → Int → Hp → Prop) → Prop) (e : Mr) : Prop := ∀ (pn : Nat → Addr) (g : En) (Γ : List Sl) (B : Bs) (σ : St) (F H : Hp), Rel K pn g Γ → Ok B Γ σ F H → Rn K Er B (e g) → ∀ Q : Int → Int → Hp → Prop,
  (∀ g' a b Γ' F' H', e g = .ok (g', a, b) → Rel K pn g' Γ' → Ok B Γ' σ F' H' → Ex F F' → Q a b H') → t σ H Q
def mRg1 (e : Md) : Mr := fun g => (e g).bind fun p => (R.of (int? p.2)).bind fun n => .ok (p.1, 0, n)
def mRg2 (a b : Md) : Mr := fun g => (a g).bind fun p => (R.of (int? p.2)).bind fun n => (b p.1).bind fun q => (R.of (int? q.2)).bind fun m => .ok (q.1, n, m)
theorem gs_1 (h : Ds K Er te e) : Gs K Er (tRg1 te) (mRg1 e) := fun pn g Γ B σ F H hg I rn Q q => by
  obtain ⟨r1, r2⟩ := rn.bind
  refine h pn g Γ B σ F H hg I r1 _ fun g1 x Γ1 v F1 H1 e1 hg1 I1 ex1 => ?_
  obtain ⟨r5, _⟩ := (r2 _ e1).bind
  obtain ⟨n, hn⟩ := r5.of
  have ez := int_eq hn
  subst ez
  obtain ⟨v', h1, hv⟩ := Ok.head I1
  cases h1
  cases hv
  exact ⟨n, rfl, q g1 0 n Γ1 F1 H1 (by show (e g).bind _ = _; rw [e1]; rfl) hg1 (Ok.pop I1) ex1⟩
theorem gs_2 (ha : Ds K Er ta a) (hb : Ds K Er tb b) : Gs K Er (tRg2 ta tb) (mRg2 a b) := fun pn g Γ B σ F H hg I rn Q q => by
  obtain ⟨r1, r2⟩ := rn.bind
  refine ha pn g Γ B σ F H hg I r1 _ fun g1 x Γ1 v F1 H1 e1 hg1 I1 ex1 => ?_
  obtain ⟨r5, r6⟩ := (r2 _ e1).bind
  obtain ⟨n, hn⟩ := r5.of
  have r7 := r6 n (by rw [hn]; rfl)
  have ez := int_eq hn
  subst ez
  obtain ⟨v', h1, hv⟩ := Ok.head I1
  cases h1
  cases hv
  obtain ⟨r8, r9⟩ := r7.bind
  refine hb pn g1 Γ1 B σ F1 H1 hg1 (Ok.pop I1) r8 _ fun g2 y Γ2 w F2 H2 e2 hg2 I2 ex2 => ?_
  obtain ⟨r10, _⟩ := (r9 _ e2).bind
  obtain ⟨m, hm⟩ := r10.of
  have ez := int_eq hm
  subst ez
  obtain ⟨v', h1, hv⟩ := Ok.head I2
  cases h1
  cases hv
  refine ⟨n, m, rfl, rfl, q g2 n m Γ2 F2 H2 ?_ hg2 (Ok.pop I2) (ex1.trans ex2)⟩
  show (a g).bind _ = _
  rw [e1]; show (b g1).bind _ = _
  rw [e2]; rfl
def rgOk (m n : Int) : Bool := decide (-4611686018427387904 ≤ m) && decide (m < 4611686018427387904) && decide (-4611686018427387904 ≤ n) && decide (n < 4611686018427387904) && decide (n - m ≤ 4096)
theorem rgOk_eq {m n : Int} (h : rgOk m n = true) : (-(2 ^ 62) ≤ m ∧ m < 2 ^ 62 ∧ -(2 ^ 62) ≤ n ∧ n < 2 ^ 62) ∧ n - m ≤ 4096 := by
  simp only [rgOk, Bool.and_eq_true, decide_eq_true_eq] at h
  omega
def rg? (m n : Int) : Option (List PyData) := if rgOk m n then some ((rng m n).map .int) else none
theorem rg_eq {m n : Int} {ds : List PyData} (h : rg? m n = some ds) : ds = (rng m n).map .int ∧ rgOk m n = true := by
  unfold rg? at h
  split at h
  · exact ⟨(Option.some.inj h).symm, by assumption⟩
  · cases h
def mLstRg (r : Mr) : Mv := fun g => (r g).bind fun p => (R.of (rg? p.2.1 p.2.2)).bind fun ds => .ok (p.1, .ls 0 ds)
def mTupRg (r : Mr) : Md := fun g => (r g).bind fun p => (R.of (rg? p.2.1 p.2.2)).bind fun ds => .ok (p.1, .tuple ds)
theorem v_lstRg {t : St → Hp → (Int → Int → Hp → Prop) → Prop} {r : Mr} (h : Gs K Er t r) : Vs K Er (tLstRg t) (mLstRg r) := fun pn g Γ B σ F H hg I rn Q q => by
  obtain ⟨r1, r2⟩ := rn.bind
  refine h pn g Γ B σ F H hg I r1 _ fun g1 m n Γ1 F1 H1 e1 hg1 I1 ex1 => ?_
  obtain ⟨r5, _⟩ := (r2 _ e1).bind
  obtain ⟨ds, hd⟩ := r5.of
  obtain ⟨ed, ok⟩ := rg_eq (m := m) (n := n) hd
  obtain ⟨h1, h2⟩ := rgOk_eq ok
  refine ⟨⟨h1.1, h1.2.1, h1.2.2.1, h1.2.2.2, Nat.le_trans (show (n - m).toNat ≤ 4096 by omega) (by decide)⟩, fun p hp => ?_⟩
  rw [rgV_rng]
  refine q g1 (.ls 0 ds) Γ1 _ _ F1 _ ?_ hg1 ⟨p, rfl, fun z => absurd rfl z⟩ (I1.pushL hp (by rw [ed, List.length_map, rng_len]; show _ ≤ 4096; omega) (by rw [ed]; exact ints_dq _)) ex1
  show (r g).bind _ = _
  rw [e1]; show (R.of (rg? m n)).bind _ = _
  rw [hd]; rfl
theorem d_tupRg {t : St → Hp → (Int → Int → Hp → Prop) → Prop} {r : Mr} (h : Gs K Er t r) : Ds K Er (tTupRg t) (mTupRg r) := fun pn g Γ B σ F H hg I rn Q q => by
  obtain ⟨r1, r2⟩ := rn.bind
  refine h pn g Γ B σ F H hg I r1 _ fun g1 m n Γ1 F1 H1 e1 hg1 I1 ex1 => ?_
  obtain ⟨r5, _⟩ := (r2 _ e1).bind
  obtain ⟨ds, hd⟩ := r5.of
  obtain ⟨ed, ok⟩ := rg_eq (m := m) (n := n) hd
  obtain ⟨h1, h2⟩ := rgOk_eq ok
  refine ⟨⟨h1.1, h1.2.1, h1.2.2.1, h1.2.2.2, Nat.le_trans (show (n - m).toNat ≤ 4096 by omega) (by decide)⟩, fun p hp => ?_⟩
  rw [rgV_rng]
  have eF : Ex F1 (upd F1 p (.tup ((rng m n).map V.int))) := Ex.new (I1.nF hp)
  refine q g1 (.tuple ds) Γ1 _ _ _ ?_ hg1 ((I1.alloc hp).push (Dq.tup (.inl (.inl upd_same)) (by rw [ed, List.length_map, rng_len]; show _ ≤ 4096; omega) (by rw [ed]; exact ints_dq _))) (ex1.trans eF)
  show (r g).bind _ = _
  rw [e1]; show (R.of (rg? m n)).bind _ = _
  rw [hd]; rfl
/-- sorted(set(..)) of ints -/
def sset? (x : PyData) : Option (List PyData) := ((seq? x).bind ints?).bind fun ns => if ns.length < 64 then some ((setI ns).map .int) else none
def mSset (e : Md) : Mv := fun g => (e g).bind fun p => (R.of (sset? p.2)).bind fun ds => .ok (p.1, .ls 0 ds)
theorem v_sset (h : Ds K Er te e) : Vs K Er (tCB (rSortedSet w) (tCons (tCB (rSetI K w) (tCons te tNil)) tNil)) (mSset e) := fun pn g Γ B σ F H hg I rn Q q => by
  obtain ⟨r1, r2⟩ := rn.bind
  refine h pn g Γ B σ F H hg I r1 _ fun g1 x Γ1 v F1 H1 e1 hg1 I1 ex1 => ?_
  obtain ⟨r5, _⟩ := (r2 _ e1).bind
  obtain ⟨z, hz⟩ := r5.of
  have res : mSset e g = .ok (g1, .ls 0 z) := by
    show (e g).bind _ = _
    rw [e1]; show (R.of (sset? x)).bind _ = _
    rw [hz]; rfl
  obtain ⟨ns, h1, h2⟩ := Option.bind_eq_some_iff.mp hz
  obtain ⟨ds, h3, h4⟩ := Option.bind_eq_some_iff.mp h1
  have h5 := ints_eq h4
  subst h5
  split at h2
  · rename_i hn
    cases h2
    have hx : x = .list (ns.map .int) ∨ x = .tuple (ns.map .int) := by
      cases x <;> first | (cases h3; first | exact .inl rfl | exact .inr rfl) | cases h3
    have h := eo_sset (K := K) (w := w) (Γ := Da K x :: Γ1) (te := tVar 0) (ep_var rfl) hx hn B (some v :: σ) F1 H1 I1 Q fun Γ' s v' F' H' ⟨a, p, b⟩ I' ex' => by
      subst a b
      have I2 : Ok B (.own p (oL K) ((setI ns).map .int) :: Γ1) (some v' :: σ) F' H' := by
        exact Ok.drop2 I'
      exact q g1 _ Γ1 _ v' F' H' res hg1 ⟨p, rfl, fun z => absurd rfl z⟩ I2 (ex1.trans ex')
    obtain ⟨v', ev, h⟩ := h
    cases ev
    exact h
  · cases h2
end
end AL
/-! AL3: what is walked, targets, comprehensions. -/
namespace AL
open PySem L2 TL
open Evl (Ex ex_l ex_t)
/-! ### what is walked -/
abbrev Mi := En → R (En × List PyData)
def Is (K : PySem.W.Frag) (Er : Ec) (wi : TI) (e : Mi) : Prop := ∀ (pn : Nat → Addr) (g : En) (Γ : List Sl) (B : Bs) (σ : St) (F H : Hp), Rel K pn g Γ → Ok B Γ σ F H → Rn K Er B (e g) → ∀ R : It → Hp → Prop,
  (∀ g' ds Γ' J F' H', e g = .ok (g', ds) → Rel K pn g' Γ' → Ok B Γ' σ F' H' → Ex F F' → Turns K J F' ds → ds.length ≤ wee → R J H') → wi σ H R
def mI1 (f : PyData → Option (List PyData)) (e : Md) : Mi := fun g => (e g).bind fun p => (R.of (f p.2)).bind fun ds => .ok (p.1, ds)
def mIA (f : List PyData → Option (List PyData)) (e : Ma) : Mi := fun g => (e g).bind fun p => (R.of (f p.2)).bind fun ds => .ok (p.1, ds)
def tVs : Nat → Nat → TA
  | _, 0 => tNil
  | k, n + 1 => tCons (tVar k) (tVs (k + 1) n)
theorem tVs_run : ∀ (vs : List V) (pre σ : St) (H : Hp) (Q : List V → Hp → Prop), tVs pre.length vs.length (pre ++ (vs.map some ++ σ)) H Q → Q vs H
  | [], _, _, _, _, h => h
  | v :: vs, pre, σ, H, Q, h => by
    obtain ⟨v', ev, h⟩ := h
    rw [List.getElem?_append_right (Nat.le_refl _), Nat.sub_self] at ev
    cases ev
    have h2 := tVs_run vs (pre ++ [some v]) σ H (fun xs H2 => Q (v :: xs) H2) (by
      rw [List.length_append, List.append_assoc]; exact h)
    exact h2
theorem ap_vs {K : PySem.W.Frag} : ∀ (xs : List PyData) (pre Γ : List Sl), AP (tVs pre.length xs.length) (pre ++ (xs.map (Da K) ++ Γ)) (xs.map (Da K))
  | [], _, _ => ap_nil
  | x :: xs, pre, Γ => by
    refine ap_cons (ep_var (by rw [List.getElem?_append_right (Nat.le_refl _), Nat.sub_self]; rfl)) ?_
    have h := ap_vs (K := K) xs (pre ++ [Da K x]) Γ
    rw [List.length_append, List.append_assoc] at h
    exact h
section
variable {K : PySem.W.Frag} {pn : Nat → Addr} {Er : Ec} {E1 E2 : XK} {te ta tb : TE} {tr : TA} {e a b : Md} {es : Ma}
theorem i_of1 {Bd : V → Hp → (It → Hp → Prop) → Prop} {f : PyData → Option (List PyData)} (hip : ∀ x ds, f x = some ds → ∀ Γ, IP K (fun σ H R => tVar 0 σ H fun v H1 => Bd v H1 R) (Da K x :: Γ) ds) (h : Ds K Er te e) :
    Is K Er (fun σ H R => te σ H fun v H1 => Bd v H1 R) (mI1 f e) := fun pn g Γ B σ F H hg I rn RR q => by
  obtain ⟨r1, r2⟩ := rn.bind
  refine h pn g Γ B σ F H hg I r1 _ fun g1 x Γ1 v F1 H1 e1 hg1 I1 ex1 => ?_
  obtain ⟨r5, _⟩ := (r2 _ e1).bind
  obtain ⟨ds, hd⟩ := r5.of
  have res : mI1 f e g = .ok (g1, ds) := by
    show (e g).bind _ = _
    rw [e1]; show (R.of (f x)).bind _ = _
    rw [hd]; rfl
  have h2 := hip x ds hd Γ1 B (some v :: σ) F1 H1 I1 RR fun J F2 H2 I2 ex2 tn hz => q g1 ds Γ1 J F2 H2 res hg1 (Ok.pop I2) (ex1.trans ex2) tn hz
  obtain ⟨v', ev, h2⟩ := h2
  cases ev
  exact h2
theorem i_ofA {Bd : List V → Hp → (It → Hp → Prop) → Prop} {f : List PyData → Option (List PyData)} (hip : ∀ xs ds, f xs = some ds → ∀ ta Γ, AP ta Γ (xs.map (Da K)) → IP K (fun σ H R => ta σ H fun vs H1 => Bd vs H1 R) Γ ds) (h : As K Er tr es) :
    Is K Er (fun σ H R => tr σ H fun vs H1 => Bd vs H1 R) (mIA f es) := fun pn g Γ B σ F H hg I rn RR q => by
  obtain ⟨r1, r2⟩ := rn.bind
  refine h pn g Γ B σ F H hg I r1 _ fun g1 xs Γ1 vs F1 H1 e1 hg1 n I1 ex1 => ?_
  obtain ⟨r5, _⟩ := (r2 _ e1).bind
  obtain ⟨ds, hd⟩ := r5.of
  have res : mIA f es g = .ok (g1, ds) := by
    show (es g).bind _ = _
    rw [e1]; show (R.of (f xs)).bind _ = _
    rw [hd]; rfl
  have h2 := hip xs ds hd (tVs 0 xs.length) (xs.map (Da K) ++ Γ1) (ap_vs xs [] Γ1) B (vs.map some ++ σ) F1 H1 I1 RR fun J F2 H2 I2 ex2 tn hz => by
    obtain ⟨_, I3⟩ := Ok.all n.symm I2
    exact q g1 ds Γ1 J F2 H2 res hg1 I3 (ex1.trans ex2) tn hz
  rw [← n] at h2
  exact tVs_run vs [] σ H1 _ h2
theorem is_list (h : Ds K Er te e) : Is K Er (iList K te) (mI1 lst? e) := i_of1 (fun x ds hx Γ => by
  have := lst_eq hx
  subst this
  exact ip_list (ep_var rfl)) h
theorem is_tup (h : Ds K Er te e) : Is K Er (iTup K te) (mI1 tup? e) := i_of1 (fun x ds hx Γ => by
  have := tup_eq hx
  subst this
  exact ip_tup (ep_var rfl)) h
def fRg1 : List PyData → Option (List PyData)
  | [.int n] => if -4611686018427387904 ≤ n ∧ n ≤ 4096 then some ((rng 0 n).map .int) else none
  | _ => none
theorem is_rng1 (h : As K Er tr es) : Is K Er (iRng1 tr) (mIA fRg1 es) := i_ofA (fun xs ds hx ta Γ ha => by
  unfold fRg1 at hx
  split at hx
  · split at hx
    · rename_i n c
      cases hx
      exact ip_rng1 (by exact ha) (by omega) c.2
    · cases hx
  · cases hx) h
def fRg2 : List PyData → Option (List PyData)
  | [.int m, .int n] => rg? m n
  | _ => none
theorem is_rng2 (h : As K Er tr es) : Is K Er (iRng2 tr) (mIA fRg2 es) := i_ofA (fun xs ds hx ta Γ ha => by
  unfold fRg2 at hx
  split at hx
  · obtain ⟨e1, e2⟩ := rg_eq hx
    obtain ⟨h1, h2⟩ := rgOk_eq e2
    subst e1
    exact ip_rng2 (by exact ha) h1 h2
  · cases hx) h
def fEnum : List PyData → Option (List PyData)
  | [.list ds] => some (enumP ds)
  | _ => none
theorem is_enum (h : As K Er tr es) : Is K Er (iEnum K tr) (mIA fEnum es) := i_ofA (fun xs ds hx ta Γ ha => by
  unfold fEnum at hx
  split at hx
  · cases hx; exact ip_enum (by exact ha)
  · cases hx) h
def fEnumT : List PyData → Option (List PyData)
  | [.tuple ds] => some (enumP ds)
  | _ => none
theorem is_enumT (h : As K Er tr es) : Is K Er (TLS.iEnumT K tr) (mIA fEnumT es) := i_ofA (fun xs ds hx ta Γ ha => by
  unfold fEnumT at hx
  split at hx
  · cases hx; exact ip_enumT (by exact ha)
  · cases hx) h
def fZip : List PyData → Option (List PyData)
  | [.list ds, .list es] => some (zipP ds es)
  | _ => none
theorem is_zip (h : As K Er tr es) : Is K Er (iZip K tr) (mIA fZip es) := i_ofA (fun xs ds hx ta Γ ha => by
  unfold fZip at hx
  split at hx
  · cases hx; exact ip_zipL (by exact ha)
  · cases hx) h
def fZipT : List PyData → Option (List PyData)
  | [.tuple ds, .tuple es] => some (zipP ds es)
  | _ => none
theorem is_zipT (h : As K Er tr es) : Is K Er (RZ.iZipA K tr) (mIA fZipT es) := i_ofA (fun xs ds hx ta Γ ha => by
  unfold fZipT at hx
  split at hx
  · cases hx; exact ip_zipT (by exact ha)
  · cases hx) h
end
/-! ### targets -/
abbrev Mg := PyData → En → Option En
def Gt (K : PySem.W.Frag) (gT : TG) (tg : Mg) (vs : List Nat) : Prop := ∀ (pn : Nat → Addr) d g g' Γ, tg d g = some g' → Rel K pn g Γ → ∃ Γ', Rel K pn g' Γ' ∧ GP K gT d vs Γ Γ'
def gN (j : Nat) : Mg := fun d g => some (g.set j (.da d))
def g2 (i j : Nat) : Mg := fun d g => match d with
  | .tuple [a, b] => some ((g.set i (.da a)).set j (.da b))
  | _ => none
def g3 (i j k : Nat) : Mg := fun d g => match d with
  | .tuple [a, b, c] => some (((g.set i (.da a)).set j (.da b)).set k (.da c))
  | _ => none
section
variable {K : PySem.W.Frag} {pn : Nat → Addr} {vs : List Nat} {i j k : Nat}
theorem gt_name (h : j ∈ vs := by decide) : Gt K (gName j) (gN j) vs := fun pn d g g' Γ e hg => by
  cases e
  exact ⟨_, hg.set (x := .da d) (s := Da K d) rfl, gp_name h⟩
theorem gt_2 (h : i ∈ vs := by decide) (h2 : j ∈ vs := by decide) : Gt K (gTup K 2 (gCons (gName i) (gCons (gName j) gNil))) (g2 i j) vs := fun pn d g g' Γ e hg => by
  unfold g2 at e
  split at e
  · rename_i a b
    cases e
    exact ⟨_, (hg.set (x := .da a) (s := Da K a) rfl).set (x := .da b) (s := Da K b) rfl, gp_tup2 h h2⟩
  · cases e
theorem gt_3 (h : i ∈ vs := by decide) (h2 : j ∈ vs := by decide) (h3 : k ∈ vs := by decide) : Gt K (gTup K 3 (gCons (gName i) (gCons (gName j) (gCons (gName k) gNil)))) (g3 i j k) vs := fun pn d g g' Γ e hg => by
  unfold g3 at e
  split at e
  · rename_i a b c
    cases e
    exact ⟨_, ((hg.set (x := .da a) (s := Da K a) rfl).set (x := .da b) (s := Da K b) rfl).set (x := .da c) (s := Da K c) rfl, gp_tup3 h h2 h3⟩
  · cases e
end
/-! ### comprehensions -/
def wipeE (g : En) : List Nat → En
  | [] => g
  | v :: vs => (wipeE g vs).set v .no
def backE (g g2 : En) : List Nat → En
  | [] => g2
  | v :: vs => match g[v]? with
    | some s => (backE g g2 vs).set v s
    | none => backE g g2 vs
def backL (g g2 : List Sl) : List Nat → List Sl
  | [] => g2
  | v :: vs => match g[v]? with
    | some s => (backL g g2 vs).set v s
    | none => backL g g2 vs
def SD.plain : SD → Bool
  | .no => true
  | .da _ => true
  | _ => false
def plainAt (g : En) (vs : List Nat) : Bool := vs.all fun j => match g[j]? with
  | some s => s.plain
  | none => true
def R.noE {α : Type} : R α → R α
  | .ok a => .ok a
  | _ => .bad
theorem Rn.noE {α : Type} {K : PySem.W.Frag} {Er E1 : Ec} {B B' : Bs} {x : R α} (h : Rn K Er B x.noE) (t : B'.T = E1.T) : Rn K E1 B' x ∧ ∀ a, x = .ok a → x.noE = .ok a := by
  cases x with
  | ok a => exact ⟨⟨(fun z => nomatch z), fun c z => (nomatch z), t⟩, fun b e => by cases e; rfl⟩
  | err c => exact absurd rfl h.nb
  | bad => exact absurd rfl h.nb
def lcL (tg : Mg) (t : Mt) (e : Md) (vs : List Nat) : List PyData → En → R (En × List PyData)
  | [], g => .ok (g, [])
  | d :: ds, g => match plainAt g vs with
    | false => .bad
    | true => (R.of (tg d (wipeE g vs))).bind fun g1 => (t g1).noE.bind fun p => match p.2 with
      | false => lcL tg t e vs ds (backE g p.1 vs)
      | true => (e p.1).noE.bind fun q => (lcL tg t e vs ds (backE g q.1 vs)).bind fun r => .ok (r.1, q.2 :: r.2)
def mLc (it : Mi) (tg : Mg) (t : Mt) (e : Md) (vs : List Nat) : Mv := fun g => (it g).bind fun p => (lcL tg t e vs p.2 p.1).noE.bind fun q => .ok (q.1, .ls 0 q.2)
section
variable {K : PySem.W.Frag} {pn : Nat → Addr} {g g1 g2 : En} {Γ Γ1 Γ2 : List Sl} {vs : List Nat}
theorem Rel.wipe (h : Rel K pn g Γ) : ∀ vs, Rel K pn (wipeE g vs) (wipeL Γ vs)
  | [] => h
  | v :: vs => (Rel.wipe h vs).set rfl
theorem Rel.get2 (h : Rel K pn g Γ) (i : Nat) : (g[i]? = none ∧ Γ[i]? = none) ∨ ∃ x s, g[i]? = some x ∧ Γ[i]? = some s ∧ RelS K pn x s := by
  cases e : g[i]? with
  | none =>
    refine .inl ⟨rfl, ?_⟩
    have h1 : g.length ≤ i := by simpa using e
    rw [h.len] at h1
    simpa using h1
  | some x =>
    obtain ⟨s, h1, h2⟩ := h.get e
    exact .inr ⟨x, s, rfl, h1, h2⟩
theorem Rel.back (h1 : Rel K pn g1 Γ1) (h2 : Rel K pn g2 Γ2) : ∀ vs, Rel K pn (backE g1 g2 vs) (backL Γ1 Γ2 vs)
  | [] => h2
  | v :: vs => by
    unfold backE backL
    rcases h1.get2 v with ⟨a, b⟩ | ⟨x, s, a, b, c⟩
    · rw [a, b]; exact Rel.back h1 h2 vs
    · rw [a, b]; exact (Rel.back h1 h2 vs).set c
theorem backL_len : ∀ vs, (backL Γ1 Γ2 vs).length = Γ2.length
  | [] => rfl
  | v :: vs => by
    unfold backL
    split
    · rw [List.length_set, backL_len vs]
    · exact backL_len vs
theorem backL_get (hl : Γ1.length = Γ2.length) {i : Nat} : ∀ {vs : List Nat}, (backL Γ1 Γ2 vs)[i]? = if i ∈ vs then Γ1[i]? else Γ2[i]?
  | [] => by simp [backL]
  | v :: vs => by
    unfold backL
    by_cases e : v = i
    · subst e
      rw [if_pos List.mem_cons_self]
      cases h : Γ1[v]? with
      | some s =>
        have hv : v < (backL Γ1 Γ2 vs).length := by
          rw [backL_len, ← hl]
          exact (List.getElem?_eq_some_iff.mp h).1
        show ((backL Γ1 Γ2 vs).set v s)[v]? = some s
        rw [List.getElem?_set_self hv]
      | none =>
        show (backL Γ1 Γ2 vs)[v]? = none
        rw [List.getElem?_eq_none_iff, backL_len, ← hl]
        simpa using h
    · have hm : (i ∈ v :: vs) = (i ∈ vs) := by simp [Ne.symm e]
      have ih := backL_get hl (i := i) (vs := vs)
      cases h : Γ1[v]? with
      | some s =>
        show ((backL Γ1 Γ2 vs).set v s)[i]? = _
        rw [List.getElem?_set_ne e, ih]
        simp [Ne.symm e]
      | none =>
        show (backL Γ1 Γ2 vs)[i]? = _
        rw [ih]
        simp [Ne.symm e]
theorem back_wipe (hl : Γ1.length = Γ2.length) : wipeL Γ2 vs = wipeL (backL Γ1 Γ2 vs) vs := by
  apply List.ext_getElem?
  intro i
  rw [wipeL_get, wipeL_get]
  by_cases h : i ∈ vs
  · rw [if_pos h, if_pos h, backL_get hl, if_pos h]
    by_cases hi : i < Γ2.length
    · rw [List.getElem?_eq_getElem hi, List.getElem?_eq_getElem (by omega : i < Γ1.length)]; rfl
    · rw [List.getElem?_eq_none (by omega), List.getElem?_eq_none (by omega)]
  · rw [if_neg h, if_neg h, backL_get hl, if_neg h]
theorem no_own (h : Rel K pn g Γ) (p : plainAt g vs = true) : NoOwn Γ vs := fun j hj α q o a e => by
  have h1 := List.all_eq_true.mp p j hj
  rcases h.get2 j with ⟨_, b⟩ | ⟨x, s, x1, x2, x3⟩
  · rw [b] at e; cases e
  · rw [x2] at e
    cases e
    simp only [x1] at h1
    cases x with
    | no => cases x3
    | da d => cases x3
    | ls _ _ => cases h1
    | ll _ => cases h1
    | ow _ _ _ => cases h1
variable {Er : Ec} {E1 E2 : XK} {wi : TI} {gT : TG} {tt : TT} {te : TE} {it : Mi} {tg : Mg} {t : Mt} {e : Md}
theorem v_lc (hi : Is K Er wi it) (hgt : Gt K gT tg vs) (ht : Ts K ⟨E1, Er.T⟩ tt t) (he : Ds K ⟨E2, Er.T⟩ te e) : Vs K Er (tLc wi gT tt te vs) (mLc it tg t e vs) := fun pn g Γ B σ F H hg I rn Q q => by
  obtain ⟨r1, r2⟩ := rn.bind
  refine hi pn g Γ B σ F H hg I r1 _ fun g0 ds Γ0 J F1 H1 e1 hg0 I1 ex1 tn hz D hD => ?_
  obtain ⟨r3, _⟩ := (r2 _ e1).bind
  obtain ⟨_, r4⟩ := r3.noE (E1 := Er) (B' := B) rn.tt
  have res : ∀ q, lcL tg t e vs ds g0 = .ok q → mLc it tg t e vs g = .ok (q.1, .ls 0 q.2) := fun q h => by
    show (it g).bind _ = _
    rw [e1]; show (lcL tg t e vs ds g0).noE.bind _ = _
    rw [r4 _ h]; rfl
  have nb : ∃ q, lcL tg t e vs ds g0 = .ok q := by
    cases h : lcL tg t e vs ds g0 with
    | ok q => exact ⟨q, rfl⟩
    | err c => exact absurd (by show (lcL tg t e vs ds g0).noE = .bad; rw [h]; rfl) r3.nb
    | bad => exact absurd (by show (lcL tg t e vs ds g0).noE = .bad; rw [h]; rfl) r3.nb
  obtain ⟨qq, hq⟩ := nb
  refine ⟨fun i m H' => m = ds.length - i ∧ i ≤ ds.length ∧ ∃ acc g1 Γ1 F', acc.length ≤ i ∧ Rel K pn g1 Γ1 ∧ lcL tg t e vs ds g0 = (lcL tg t e vs (ds.drop i) g1).bind (fun r => .ok (r.1, acc ++ r.2)) ∧ Ok B (.own D (oL K) acc :: Γ1) (some (.ref D) :: σ) F' H' ∧ Ex F1 F',
    ⟨_, rfl, Nat.zero_le _, [], g0, Γ0, F1, Nat.zero_le _, hg0, ?_, I1.pushL hD (Nat.zero_le _) .nil, Ex.refl _⟩, ?_⟩
  · rw [List.drop_zero, hq]; rfl
  rintro i m H' ⟨rfl, hi', acc, g1, Γ1, F', ha, hg1, hv, I', e'⟩
  by_cases hlt : i < ds.length
  · have hx : ds[i]? = some ds[i] := List.getElem?_eq_getElem hlt
    obtain ⟨go, yl⟩ := (tn i F' H' e' I'.ex).1 ds[i] hx
    rw [List.drop_eq_getElem_cons hlt] at hv
    generalize ds[i] = d at hv hx yl
    refine .inr ⟨go, fun H2 => ∃ acc g1 Γ1 F', acc.length ≤ i + 1 ∧ Rel K pn g1 Γ1 ∧ lcL tg t e vs ds g0 = (lcL tg t e vs (ds.drop (i + 1)) g1).bind (fun r => .ok (r.1, acc ++ r.2)) ∧ Ok B (.own D (oL K) acc :: Γ1) (some (.ref D) :: σ) F' H2 ∧ Ex F1 F', fun H2 w => ⟨ds.length - (i + 1), by omega, rfl, hlt, w⟩, fun x H3 hy => ?_⟩
    obtain ⟨F3, carry, e3, dx⟩ := yl x H3 hy
    have I3 := carry _ _ _ I'
    rw [lcL] at hv
    cases hp : plainAt g1 vs with
    | false => rw [hp, hq] at hv; cases hv
    | true =>
    rw [hp] at hv
    have no := no_own hg1 hp
    cases htg : tg d (wipeE g1 vs) with
    | none => rw [htg, hq] at hv; cases hv
    | some gi =>
    rw [htg] at hv
    obtain ⟨Γi, hgi, hG⟩ := hgt pn d _ gi _ htg (hg1.wipe vs)
    obtain ⟨B', Iw, tB, back⟩ := TL.underT (τ := [some (.ref D)]) (Δ := [.own D (oL K) acc]) rfl I3
    have pl : ∀ {F' H' : Hp}, Ex F3 F' → ∀ j ∈ vs, ∀ s, Γ1[j]? = some s → ∃ x, σ[j]? = some x ∧ SlOk F' H' x s [] := fun e => Iw.plain no e
    have lens := Iw.lens
    refine hG B' _ F3 H3 x (Iw.wipe (vs := vs)) dx _ fun σ2 es I4 => ⟨es.trans wipe_wipe, ?_⟩
    have es' : L2.wipe σ2 vs = L2.wipe σ vs := es.trans wipe_wipe
    have lens2 : σ2.length = σ.length := by
      have := congrArg List.length es'
      rwa [L2.wipe_length, L2.wipe_length] at this
    have rnT : Rn K ⟨E1, Er.T⟩ B' (t gi) := by
      refine ⟨fun z => ?_, fun c z => ?_, tB.trans rn.tt⟩
      · rw [hq] at hv; simp only [R.of, R.ok_bind, z, R.noE, R.bad_bind] at hv; cases hv
      · rw [hq] at hv; simp only [R.of, R.ok_bind, z, R.noE, R.bad_bind] at hv; cases hv
    refine ht pn gi Γi B' σ2 F3 H3 hgi I4 rnT _ fun g2 b Γ2 F5 H5 e5 hg2 I5 ex5 => ?_
    simp only [R.of, R.ok_bind, e5, R.noE] at hv
    have ll2 : Γ1.length = Γ2.length := by rw [← lens, ← I5.lens, lens2]
    cases b with
    | false =>
      show ∃ acc g1 Γ1 F', _
      refine ⟨acc, backE g1 g2 vs, backL Γ1 Γ2 vs, F5, by omega, hg1.back hg2 vs, hv, back _ _ _ _ (I5.back es' (back_wipe ll2) (by rw [backL_len, ← ll2]; exact lens) fun j hj s z => pl ex5 j hj s (by rw [backL_get ll2, if_pos hj] at z; exact z)), (e'.trans e3).trans ex5⟩
    | true =>
      show te σ2 H5 _
      have rnE : Rn K ⟨E2, Er.T⟩ B' (e g2) := by
        refine ⟨fun z => ?_, fun c z => ?_, tB.trans rn.tt⟩
        · rw [hq] at hv; simp only [z, R.noE, R.bad_bind] at hv; cases hv
        · rw [hq] at hv; simp only [z, R.noE, R.bad_bind] at hv; cases hv
      refine he pn g2 Γ2 B' σ2 F5 H5 hg2 I5 rnE _ fun g3 y Γ3 v F6 H6 e6 hg3 I6 ex6 => ?_
      simp only [e6, R.noE, R.ok_bind] at hv
      obtain ⟨y', ey, dy⟩ := Ok.head I6
      cases ey
      have I6' := Ok.pop I6
      have ll3 : Γ1.length = Γ3.length := by rw [← lens, ← I6'.lens, lens2]
      have I7 := back _ _ _ _ (I6'.back es' (back_wipe ll3) (by rw [backL_len, ← ll3]; exact lens) fun j hj s z => pl (ex5.trans ex6) j hj s (by rw [backL_get ll3, if_pos hj] at z; exact z))
      obtain ⟨ac, _, hA, hl, I8⟩ := Ok.appL I7 dy (by omega)
      refine ⟨ac, hA, by rw [hl]; exact Nat.lt_of_le_of_lt (Nat.le_trans ha (Nat.le_trans hi' hz)) (by decide), acc ++ [y], backE g1 g3 vs, backL Γ1 Γ3 vs, F6, by rw [List.length_append]; simp; omega, hg1.back hg3 vs, ?_, I8, ((e'.trans e3).trans ex5).trans ex6⟩
      rw [hv]
      cases lcL tg t e vs (ds.drop (i + 1)) (backE g1 g3 vs) with
      | ok r => simp
      | err c => rfl
      | bad => rfl
  · have ei : i = ds.length := by omega
    subst ei
    rw [List.drop_length, lcL] at hv
    simp only [R.ok_bind, List.append_nil] at hv
    exact .inl ⟨(tn _ F' H' e' I'.ex).2 (Nat.le_refl _), q g1 (.ls 0 acc) Γ1 _ _ F' H' (res _ hv) hg1 ⟨D, rfl, fun z => absurd rfl z⟩ I' (ex1.trans e')⟩
end
end AL
/-! AL4: objects of one's own: read as if they stood still, appended to, popped, written at a place. -/
namespace AL
open PySem L2 TL
open Evl (Ex ex_l ex_t)
/-! ### all that is one's own stands still for a while -/
mutual
def noL : PyData → Bool
  | .none => true
  | .bool _ => true
  | .int _ => true
  | .str _ => true
  | .tuple ds => noLs ds
  | .list _ => false
  | .dict _ => false
def noLs : List PyData → Bool
  | [] => true
  | d :: ds => noL d && noLs ds
end
def SD.frz : SD → SD
  | .ls _ ds => .da (.list ds)
  | .ll dss => .da (.list (dss.map .list))
  | .ow _ _ _ => .no
  | s => s
def frzE (g : En) : En := g.map SD.frz
section
variable {K : PySem.W.Frag} {pn : Nat → Addr} {g g' : En} {Γ Γ' : List Sl} {B : Bs} {σ σ' : St} {F F' F2 H H' : Hp}
theorem flat_nils (n : Nat) : (List.replicate n ([] : List Addr)).flatten = [] := TL.nil_flat n
theorem frz_sl (hg : Rel K pn g Γ) : ∀ {fps : List (List Addr)}, SlsOk F H σ Γ fps → Ex F F2 → (∀ q ∈ fps.flatten, F2 q = H q) → (∃ Γ2, Rel K pn (frzE g) Γ2 ∧ SlsOk F2 H σ Γ2 (List.replicate Γ.length [])) ∧ ∀ q ∈ fps.flatten, ∃ o, H q = some o ∧ ntp o := by
  induction hg generalizing σ with
  | nil =>
    intro fps h e k
    cases h
    exact ⟨⟨[], .nil, .nil⟩, fun q z => nomatch z⟩
  | @cons x s g Γ a b ih =>
    intro fps h e k
    cases h with
    | @cons xv _ fp σ Γ fps u w =>
      obtain ⟨⟨Γ2, h1, h2⟩, h3⟩ := ih w e fun q z => k q (by rw [List.flatten_cons]; exact List.mem_append_right _ z)
      have kp : ∀ q ∈ fp, F2 q = H q := fun q z => k q (by rw [List.flatten_cons]; exact List.mem_append_left _ z)
      have fin : ∀ (s2 : Sl), RelS K pn x.frz s2 → SlOk F2 H xv s2 [] → (∀ q ∈ fp, ∃ o, H q = some o ∧ ntp o) → (∃ Γ2, Rel K pn (frzE (x :: g)) Γ2 ∧ SlsOk F2 H (xv :: σ) Γ2 (List.replicate (s :: Γ).length [])) ∧ ∀ q ∈ (fp :: fps).flatten, ∃ o, H q = some o ∧ ntp o := fun s2 z1 z2 z3 =>
        ⟨⟨s2 :: Γ2, .cons z1 h1, .cons z2 h2⟩, fun q z => by
          rw [List.flatten_cons] at z
          rcases List.mem_append.mp z with z | z
          · exact z3 q z
          · exact h3 q z⟩
      cases x with
      | no =>
        cases a
        cases u
        exact fin .no rfl .no fun q z => nomatch z
      | da d =>
        cases a
        cases u with
        | val hr => exact fin (Da K d) rfl (.val (Dq.mono e _ _ hr)) fun q z => nomatch z
      | ls t ds =>
        obtain ⟨p, rfl, _⟩ := a
        cases u with
        | own ho =>
          obtain ⟨e1, xs, e2, e3, e4⟩ := ho
          subst e1
          have hp : F2 p = some (.lst xs) := by rw [kp p (List.mem_singleton.mpr rfl)]; exact e2
          refine fin (Da K (.list ds)) rfl (.val (Dq.lst (.inl (.inl hp)) e3 (DqAll.mono e _ _ e4))) fun q z => ?_
          have : q = p := by simpa using z
          subst this
          exact ⟨_, e2, ntp_lst⟩
      | ll dss =>
        obtain ⟨p, rfl⟩ := a
        cases u with
        | own ho =>
          obtain ⟨ps, e1, y1, y2, y3, y4⟩ := ho
          subst e1
          have hp : F2 p = some (.lst (ps.map V.ref)) := by rw [kp p List.mem_cons_self]; exact y1
          refine fin (Da K (.list (dss.map .list))) rfl (.val (Dq.lst (.inl (.inl hp)) (by rw [List.length_map]; exact y3) (dq_lists y2 fun j q ds hj hd => ?_))) fun q z => ?_
          · obtain ⟨xs, x1, x2, x3⟩ := y4 j q ds hj hd
            exact ⟨xs, by rw [kp q (List.mem_cons_of_mem _ (List.mem_of_getElem? hj))]; exact x1, x2, DqAll.mono e _ _ x3⟩
          · rcases List.mem_cons.mp z with z | z
            · subst z; exact ⟨_, y1, ntp_lst⟩
            · obtain ⟨j, hj⟩ := List.mem_iff_getElem?.mp z
              have hl : j < dss.length := by rw [← y2]; exact (List.getElem?_eq_some_iff.mp hj).1
              obtain ⟨zs, z1, _⟩ := y4 j q dss[j] hj (List.getElem?_eq_getElem hl)
              exact ⟨_, z1, ntp_lst⟩
      | ow t n d =>
        obtain ⟨p, rfl, _⟩ := a
        cases u with
        | own ho => exact fin .no rfl .no (owK_ntp ho)
theorem frz_all (hg : Rel K pn g Γ) (I : Ok B Γ σ F H) : ∃ F2 Γ2, Rel K pn (frzE g) Γ2 ∧ Ok ⟨F2, H, [], B.T⟩ Γ2 σ F2 H ∧ Ex F F2 ∧ ∀ q o, F2 q = some o → F q = some o ∨ ntp o := by
  obtain ⟨L, h⟩ := I
  have dm : ∃ F2 : Hp, Ex F F2 ∧ (∀ q ∈ L.flatten, F2 q = H q) ∧ Ex F2 H ∧ ∀ q o, F2 q = some o → F q = some o ∨ (q ∈ L.flatten ∧ H q = some o) := by
    refine ⟨fun q => if q ∈ L.flatten then H q else F q, fun q o e => ?_, fun q z => if_pos z, fun q o e => ?_, fun q o e => ?_⟩
    · have n : q ∉ L.flatten := fun z => by rw [h.fz q z] at e; cases e
      show (if q ∈ L.flatten then H q else F q) = some o
      rw [if_neg n]; exact e
    · by_cases z : q ∈ L.flatten
      · have e' : H q = some o := by have := e; simp only [if_pos z] at this; exact this
        exact e'
      · have e' : F q = some o := by have := e; simp only [if_neg z] at this; exact this
        exact h.ex q o e'
    · by_cases z : q ∈ L.flatten
      · have e' : H q = some o := by have := e; simp only [if_pos z] at this; exact this
        exact .inr ⟨z, e'⟩
      · have e' : F q = some o := by have := e; simp only [if_neg z] at this; exact this
        exact .inl e'
  obtain ⟨F2, d1, d2, d3, d4⟩ := dm
  obtain ⟨⟨Γ2, h1, h2⟩, h3⟩ := frz_sl hg h.sl d1 d2
  refine ⟨F2, Γ2, h1, ⟨List.replicate Γ.length [], h2, by rw [flat_nils]; exact List.nodup_nil, (by rw [flat_nils]; exact fun _ z => nomatch z), d3, Ex.refl _, fun _ _ e => .inl e, fun _ _ e _ _ => e, ⟨fun _ o e => ⟨o, e⟩, h.bD.2.grow fun q => if z : q ∈ L.flatten then .inr (by obtain ⟨o, e⟩ := h.sl.there q z; exact ⟨o, e, h.sl.regs q z o e⟩) else .inl (by
    cases e : F2 q with
    | some o => rcases d4 q o e with y | y; exact y.symm; exact absurd y.1 z
    | none => cases e3 : F q with
      | none => rfl
      | some o => rw [d1 q o e3] at e; cases e)⟩, (by rw [flat_nils]; exact fun _ z => nomatch z)⟩, d1, fun q o e => ?_⟩
  rcases d4 q o e with z | ⟨z, e⟩
  · exact .inl z
  · obtain ⟨o', a, b⟩ := h3 q z
    rw [e] at a
    cases a
    exact .inr b
/-- behind it: what is new, of tuples and plain things, stays -/
theorem thaw {L : List (List Addr)} (h : OkF B Γ σ F H L) (e2 : Ex F F2) (n2 : ∀ q o, F2 q = some o → F q = some o ∨ ntp o) (I' : Ok ⟨F2, H, [], B.T⟩ Γ' σ' F' H') :
    ∃ F'', OkF B Γ σ F'' H' L ∧ Ex F F'' ∧ (∀ d v, noL d = true → Dq K F' v d → Dq K F'' v d) ∧ (∀ ds vs, noLs ds = true → DqAll K F' vs ds → DqAll K F'' vs ds) ∧ ∀ q, H q = none → F'' q = F' q := by
  have I : Ok B Γ σ F H := ⟨L, h⟩
  obtain ⟨L', h'⟩ := I'
  have eF : Ex F F' := e2.trans h'.bF
  have k1 : ∀ q o, H q = some o → (∀ ps, o ≠ .tbl ps) → H' q = some o := fun q o e r => h'.bK q o e List.not_mem_nil r
  have dm : ∃ F'' : Hp, Ex F F'' ∧ (∀ q, H q = none → F'' q = F' q) ∧ ∀ q o, F'' q = some o → F q = some o ∨ (H q = none ∧ F' q = some o) := by
    refine ⟨fun q => match F q with
      | some o => some o
      | none => match H q with
        | some _ => none
        | none => F' q, fun q o e => ?_, fun q e => ?_, fun q o e => ?_⟩
    · simp only [e]
    · have f : F q = none := by
        cases z : F q with
        | none => rfl
        | some o => rw [I.ex q o z] at e; cases e
      simp only [f, e]
    · cases z : F q with
      | some o' => simp only [z] at e; exact .inl e
      | none =>
        cases z2 : H q with
        | some _ => simp only [z, z2] at e; cases e
        | none => simp only [z, z2] at e; exact .inr ⟨rfl, e⟩
  obtain ⟨F'', d1, d2, d3⟩ := dm
  have tupOk : ∀ a xs, SqT K F' a xs → SqT K F'' a xs := fun a xs hs => by
    have one : ∀ w : HO, F' a = some w → ¬ ntp w → F'' a = some w := fun w hw nw => by
      cases z : H a with
      | none => rw [d2 a z]; exact hw
      | some o =>
        rcases h'.bG a w hw with y | y | y
        · rcases n2 a w y with y | y
          · exact d1 a w y
          · exact absurd y nw
        · rw [show H a = none from y] at z; cases z
        · exact nomatch y
    rcases hs with (hs | ⟨o, hs⟩) | hs
    · exact .inl (.inl (one _ hs fun n => n.1 xs rfl))
    · exact .inl (.inr ⟨o, one _ hs fun n => n.2 o xs rfl⟩)
    · exact .inr hs
  refine ⟨F'', ?_, d1, ?_⟩
  · refine ⟨h.sl.frame d1 (fun q z => ?_), h.nd, fun q z => ?_, fun q o e => ?_, h.bF.trans d1, fun q o e => ?_, fun q o e n r => k1 q o (h.bK q o e n r) r, ⟨fun q o e => ?_, h'.bD.2.1, fun z hz => ?_⟩, h.bO⟩
    · obtain ⟨o, e⟩ := h.sl.there q z
      rw [e, k1 q o e (h.sl.regs q z o e).1]
    · obtain ⟨o, e⟩ := h.sl.there q z
      cases y : F'' q with
      | none => rfl
      | some w =>
        rcases d3 q w y with y | ⟨y, _⟩
        · rw [h.fz q z] at y; cases y
        · rw [e] at y; cases y
    · rcases d3 q o e with y | ⟨_, y⟩
      · exact (eF.trans h'.ex) q o y
      · exact h'.ex q o y
    · rcases d3 q o e with y | ⟨y, _⟩
      · exact h.bG q o y
      · exact .inr (.inl (h.bN y))
    · obtain ⟨o', e'⟩ := h.bD.1 q o e
      exact h'.bD.1 q o' e'
    · obtain ⟨ps, hp, _⟩ := h.bD.2.1 z hz
      cases y : F'' z.1 with
      | none => rfl
      | some w =>
        rcases d3 _ _ y with y | ⟨y, _⟩
        · rw [h.bD.2.2 z hz] at y; cases y
        · rw [hp] at y; cases y
  · have both : (∀ d v, noL d = true → Dq K F' v d → Dq K F'' v d) ∧ (∀ ds vs, noLs ds = true → DqAll K F' vs ds → DqAll K F'' vs ds) := by
      have D : ∀ n, (∀ d v, sizeOf d ≤ n → noL d = true → Dq K F' v d → Dq K F'' v d) ∧ (∀ ds vs, sizeOf ds ≤ n → noLs ds = true → DqAll K F' vs ds → DqAll K F'' vs ds) := by
        intro n
        induction n with
        | zero =>
          refine ⟨fun d v hs => ?_, fun ds vs hs => ?_⟩
          · cases d <;> simp at hs
          · cases ds <;> simp at hs
        | succ n ih =>
          refine ⟨fun d v hs hn hd => ?_, fun ds vs hs hn hd => ?_⟩
          · cases hd with
            | non => exact .non
            | bl b => exact .bl b
            | int i => exact .int i
            | str x => exact .str x
            | lst _ _ _ => simp [noL] at hn
            | @tup a xs ds h1 h2 h3 =>
              refine .tup (tupOk _ _ h1) h2 (ih.2 ds xs (by simp at hs; omega) (by simpa [noL] using hn) h3)
          · cases hd with
            | nil => exact .nil
            | @cons v vs d ds h1 h2 =>
              simp [noLs] at hn
              simp at hs
              exact .cons (ih.1 d v (by omega) hn.1 h1) (ih.2 ds vs (by omega) hn.2 h2)
      exact ⟨fun d v => (D (sizeOf d)).1 d v (Nat.le_refl _), fun ds vs => (D (sizeOf ds)).2 ds vs (Nat.le_refl _)⟩
    exact ⟨both.1, both.2, d2⟩
/-- .. a new list of one's own -/
theorem thawL {F'' : Hp} {p : Addr} {ds : List PyData} {x : Option V} {L : List (List Addr)} (h0 : OkF B Γ σ F H L) (h : OkF B Γ σ F'' H' L) (hn : ∀ q, H q = none → F'' q = F' q)
    (I' : Ok ⟨F2, H, [], B.T⟩ (.own p (oL K) ds :: Γ') (x :: σ') F' H') (hd : ∀ vs, DqAll K F' vs ds → DqAll K F'' vs ds) : Ok B (.own p (oL K) ds :: Γ) (x :: σ) F'' H' := by
  obtain ⟨L', h'⟩ := I'
  cases h'.sl with
  | @cons _ _ fp _ _ fps u w =>
    cases u with
    | own ho =>
      obtain ⟨e1, xs, e2, e3, e4⟩ := ho
      subst e1
      have mp : p ∈ ([p] :: fps).flatten := by rw [List.flatten_cons]; exact List.mem_append_left _ (List.mem_singleton.mpr rfl)
      have np : H p = none := (h'.bO p mp).elim (fun z => nomatch z) id
      have nb : B.H p = none := h0.bN np
      refine ⟨[p] :: L, .cons (.own ⟨rfl, xs, e2, e3, hd _ e4⟩) h.sl, ?_, fun q z => ?_, h.ex, h.bF, h.bG, h.bK, h.bD, fun q z => ?_⟩
      · rw [List.flatten_cons, List.nodup_append]
        refine ⟨List.nodup_cons.mpr ⟨List.not_mem_nil, List.nodup_nil⟩, h.nd, fun a ha b hb e => ?_⟩
        have ea : a = p := by simpa using ha
        subst e ea
        exact h0.nfp np hb
      · rw [List.flatten_cons] at z
        rcases List.mem_append.mp z with z | z
        · have ea : q = p := by simpa using z
          subst ea
          rw [hn q np]
          exact h'.fz q mp
        · exact h.fz q z
      · rw [List.flatten_cons] at z
        rcases List.mem_append.mp z with z | z
        · have ea : q = p := by simpa using z
          subst ea
          exact .inr nb
        · exact h.bO q z
end
def mBor (e : Mv) : Mv := fun g => match e (frzE g) with
  | .ok (_, .da d) => match noL d with
    | true => .ok (g, .da d)
    | false => .bad
  | .ok (_, .ls 0 ds) => match noLs ds with
    | true => .ok (g, .ls 0 ds)
    | false => .bad
  | _ => .bad
def mBorT (t : Mt) : Mt := fun g => match t (frzE g) with
  | .ok (_, b) => .ok (g, b)
  | _ => .bad
section
variable {K : PySem.W.Frag} {pn : Nat → Addr} {Er : Ec} {E1 : XK} {te ta tb : TE} {tt : TT} {e a b : Md} {ev : Mv} {t : Mt} {i : Nat}
theorem Rn.yes {α : Type} {Er : Ec} {B : Bs} {x : R α} {a : α} (t : B.T = Er.T) (h : x = .ok a) : Rn K Er B x := by
  subst h
  exact ⟨(fun z => nomatch z), fun c z => (nomatch z), t⟩
theorem v_bor (h : Vs K ⟨E1, Er.T⟩ te ev) : Vs K Er te (mBor ev) := fun pn g Γ B σ F H hg I rn Q q => by
  obtain ⟨F2, Γ2, h1, I2, ex2, n2⟩ := frz_all hg I
  cases he : ev (frzE g) with
  | bad => exact Rn.bad (by unfold mBor at rn; rw [he] at rn; exact rn)
  | err c => exact Rn.bad (by unfold mBor at rn; rw [he] at rn; exact rn)
  | ok r =>
    obtain ⟨g2, x⟩ := r
    refine h pn (frzE g) Γ2 ⟨F2, H, [], B.T⟩ σ F2 H h1 I2 (Rn.yes rn.tt he) Q fun g' x' Γ' s v F' H' e' hg' hs I' ex' => ?_
    rw [he] at e'
    cases e'
    obtain ⟨L, h0⟩ := I
    obtain ⟨F'', h3, ex3, t1, t2, t3⟩ := thaw (K := K) h0 ex2 n2 I'
    cases x with
    | no => exact Rn.bad (by unfold mBor at rn; rw [he] at rn; exact rn)
    | ll _ => exact Rn.bad (by unfold mBor at rn; rw [he] at rn; exact rn)
    | ow _ _ _ => exact Rn.bad (by unfold mBor at rn; rw [he] at rn; exact rn)
    | da d =>
      cases hn : noL d with
      | false => exact Rn.bad (by unfold mBor at rn; rw [he] at rn; simp only [hn] at rn; exact rn)
      | true =>
        cases hs
        obtain ⟨v', ev', hv⟩ := Ok.head I'
        cases ev'
        exact q g (.da d) Γ _ v F'' H' (by unfold mBor; rw [he]; simp only [hn]) hg rfl (Ok.push ⟨L, h3⟩ (t1 d v hn hv)) ex3
    | ls t ds =>
      cases t with
      | succ t => exact Rn.bad (by unfold mBor at rn; rw [he] at rn; exact rn)
      | zero =>
      cases hn : noLs ds with
      | false => exact Rn.bad (by unfold mBor at rn; rw [he] at rn; simp only [hn] at rn; exact rn)
      | true =>
        obtain ⟨p, rfl, _⟩ := hs
        exact q g (.ls 0 ds) Γ _ v F'' H' (by unfold mBor; rw [he]; simp only [hn]) hg ⟨p, rfl, fun z => absurd rfl z⟩ (thawL h0 h3 t3 I' fun vs => t2 ds vs hn) ex3
theorem ts_bor (h : Ts K ⟨E1, Er.T⟩ tt t) : Ts K Er tt (mBorT t) := fun pn g Γ B σ F H hg I rn Q q => by
  obtain ⟨F2, Γ2, h1, I2, ex2, n2⟩ := frz_all hg I
  cases he : t (frzE g) with
  | bad => exact Rn.bad (by unfold mBorT at rn; rw [he] at rn; exact rn)
  | err c => exact Rn.bad (by unfold mBorT at rn; rw [he] at rn; exact rn)
  | ok r =>
    obtain ⟨g2, x⟩ := r
    refine h pn (frzE g) Γ2 ⟨F2, H, [], B.T⟩ σ F2 H h1 I2 (Rn.yes rn.tt he) Q fun g' x' Γ' F' H' e' hg' I' ex' => ?_
    rw [he] at e'
    cases e'
    obtain ⟨L, h0⟩ := I
    obtain ⟨F'', h3, ex3, _⟩ := thaw (K := K) h0 ex2 n2 I'
    exact q g x Γ F'' H' (by unfold mBorT; rw [he]) hg ⟨L, h3⟩ ex3
/-! ### a list of one's own changes -/
theorem Ok.wrL {B : Bs} {Γ : List Sl} {σ : St} {F H : Hp} {p : Addr} {ds ds' : List PyData} {x : Option V} {xs' : List V} (h : Ok B (.own p (oL K) ds :: Γ) (x :: σ) F H) (hz : ds'.length ≤ wee) (hd : DqAll K F xs' ds') :
    x = some (.ref p) ∧ (∃ acc, H p = some (.lst acc) ∧ DqAll K F acc ds) ∧ Ok B (.own p (oL K) ds' :: Γ) (x :: σ) F (upd H p (.lst xs')) := by
  obtain ⟨L, h⟩ := h
  cases h.sl with
  | @cons x s fp σ Γ fps u w =>
    cases u with
    | own ho =>
      obtain ⟨e1, xs, e2, e3, e4⟩ := ho
      subst e1
      refine ⟨rfl, ⟨xs, e2, e4⟩, [p] :: fps, ?_, h.nd, h.fz, ?_, h.bF, h.bG, ?_, ?_, h.bO⟩
      · refine .cons (.own ⟨rfl, _, upd_same, hz, hd⟩) (w.frame (Ex.refl _) fun q z => upd_ne fun e => ?_)
        have nd := h.nd
        rw [List.flatten_cons, List.nodup_append] at nd
        exact nd.2.2 p (List.mem_singleton.mpr rfl) q z e.symm
      · intro q o z
        have ne : q ≠ p := fun e => by
          have := h.fz p (by rw [List.flatten_cons]; exact List.mem_append_left _ (List.mem_singleton.mpr rfl))
          rw [e, this] at z; cases z
        rw [upd_ne ne]; exact h.ex q o z
      · intro q o a b c
        have ne : q ≠ p := fun e => by
          subst e
          rcases h.bO q (by rw [List.flatten_cons]; exact List.mem_append_left _ (List.mem_singleton.mpr rfl)) with y | y
          · exact b y
          · rw [y] at a; cases a
        rw [upd_ne ne]; exact h.bK q o a b c
      · refine ⟨fun q o a => ?_, h.bD.2.upd e2 reg_lst⟩
        by_cases e : q = p
        · subst e; exact ⟨_, upd_same⟩
        · rw [upd_ne e]; exact h.bD.1 q o a
theorem set_id {α : Type _} {l : List α} {i : Nat} {a : α} (e : l[i]? = some a) : l.set i a = l := TL.set_self e
/-- .. in its slot -/
theorem Ok.wrS {B : Bs} {Γ : List Sl} {σ : St} {F H : Hp} {p : Addr} {ds ds' : List PyData} {xs' : List V} (I : Ok B Γ σ F H) (e : Γ[i]? = some (.own p (oL K) ds)) (hz : ds'.length ≤ wee) (hd : DqAll K F xs' ds') :
    σ[i]? = some (some (.ref p)) ∧ (∃ acc, H p = some (.lst acc) ∧ DqAll K F acc ds) ∧ Ok B (Γ.set i (.own p (oL K) ds')) σ F (upd H p (.lst xs')) := by
  obtain ⟨x, ex, I3⟩ := I.lift e
  obtain ⟨e1, h2, I4⟩ := Ok.wrL I3 hz hd
  subst e1
  have I5 := Ok.store (i := i) I4
  rw [List.set_set, List.set_set, set_id ex] at I5
  exact ⟨ex, h2, I5⟩
theorem Rel.own {g : En} {Γ : List Sl} {t : Nat} {ds : List PyData} (hg : Rel K pn g Γ) (e : g[i]? = some (.ls t ds)) : ∃ p, Γ[i]? = some (.own p (oL K) ds) ∧ (t ≠ 0 → p = pn t) := by
  obtain ⟨s, e1, p, e2, ht⟩ := hg.get e
  subst e2
  exact ⟨p, e1, ht⟩
def SD.ls? : SD → Option (Nat × List PyData)
  | .ls t ds => some (t, ds)
  | _ => none
theorem ls_eq {x : SD} {ds : Nat × List PyData} (h : x.ls? = some ds) : x = .ls ds.1 ds.2 := by
  cases x <;> first | (cases h; rfl) | cases h
def ownAt (g : En) (i : Nat) : Option (Nat × List PyData) := (g[i]?).bind SD.ls?
theorem own_eq {g : En} {ds : Nat × List PyData} (h : ownAt g i = some ds) : g[i]? = some (.ls ds.1 ds.2) := by
  obtain ⟨x, h1, h2⟩ := Option.bind_eq_some_iff.mp h
  rw [h1, ls_eq h2]
/-- x.append(e) -/
def mApp (i : Nat) (e : Md) : Md := fun g => (R.of (ownAt g i)).bind fun _ => (e g).bind fun p => (R.of (ownAt p.1 i)).bind fun ds => (R.of (few (ds.2 ++ [p.2]))).bind fun z => .ok (p.1.set i (.ls ds.1 z), .none)
theorem d_app (h : Ds K Er te e) : Ds K Er (tBM K "list" rAppend (tVar i) (tCons te tNil)) (mApp i e) := fun pn g Γ B σ F H hg I rn Q q => by
  obtain ⟨r1, r2⟩ := rn.bind
  obtain ⟨ds0, h0⟩ := r1.of
  have r3 := r2 ds0 (by rw [h0]; rfl)
  obtain ⟨p0, e0, _⟩ := hg.own (own_eq h0)
  obtain ⟨g1, fp, g2, xs0, g3, _⟩ := I.at_own e0
  refine ⟨_, g1, Or.inl ⟨rfl, xs0, SqL.of g3⟩, ?_⟩
  obtain ⟨r4, r5⟩ := r3.bind
  refine h pn g Γ B σ F H hg I r4 _ fun g4 d Γ1 v F1 H1 e1 hg1 I1 ex1 => ?_
  obtain ⟨r6, r7⟩ := (r5 _ e1).bind
  obtain ⟨⟨t, ds⟩, h1⟩ := r6.of
  have r8 := r7 (t, ds) (by rw [h1]; rfl)
  obtain ⟨r9, _⟩ := r8.bind
  obtain ⟨z, hz⟩ := r9.of
  obtain ⟨ez, hl⟩ := few_le hz
  obtain ⟨p, e2, ht⟩ := hg1.own (own_eq h1)
  obtain ⟨v', ev, hv⟩ := Ok.head I1
  cases ev
  have I2 := Ok.pop I1
  obtain ⟨_, fp2, _, acc, a3, _, a5⟩ := I2.at_own e2
  obtain ⟨s1, _, I5⟩ := Ok.wrS (xs' := acc ++ [v]) I2 e2 hl (a5.append (.cons hv .nil))
  rw [g1] at s1
  cases s1
  refine ⟨_, acc, v, rfl, rfl, a3, ?_, ?_⟩
  · rw [a5.len]
    rw [List.length_append, List.length_singleton] at hl
    exact Nat.lt_of_lt_of_le (Nat.lt_of_succ_le hl) (by decide)
  · refine q (g4.set i (.ls t z)) .none _ _ F1 _ ?_ (hg1.set ⟨_, by rw [ez], ht⟩) (I5.push Dq.non) ex1
    show (R.of (ownAt g i)).bind _ = _
    rw [h0]; show (e g).bind _ = _
    rw [e1]; show (R.of (ownAt g4 i)).bind _ = _
    rw [h1]; show (R.of (few (ds ++ [d]))).bind _ = _
    rw [hz]; rfl
/-- x.pop() -/
def mPop (i : Nat) : Md := fun g => (R.of (ownAt g i)).bind fun ds => (R.of ds.2.getLast?).bind fun d => .ok (g.set i (.ls ds.1 ds.2.dropLast), d)
theorem d_pop : Ds K Er (tBM0 K "list" rPop (tVar i)) (mPop i) := fun pn g Γ B σ F H hg I rn Q q => by
  obtain ⟨r1, r2⟩ := rn.bind
  obtain ⟨⟨t, ds⟩, h0⟩ := r1.of
  obtain ⟨r3, _⟩ := (r2 (t, ds) (by rw [h0]; rfl)).bind
  obtain ⟨d, hd⟩ := r3.of
  obtain ⟨p, e0, ht⟩ := hg.own (own_eq h0)
  obtain ⟨es, hes⟩ := List.getLast?_eq_some_iff.mp hd
  have res : mPop i g = .ok (g.set i (.ls t ds.dropLast), d) := by
    show (R.of (ownAt g i)).bind _ = _
    rw [h0]; show (R.of ds.getLast?).bind _ = _
    rw [show ds.getLast? = some d from hd]; rfl
  have hes' : ds = es ++ [d] := hes
  subst hes'
  rw [List.dropLast_concat] at res
  exact e_pop (K := K) (es := es) (d := d) (k := fun Γ' s => Γ' = Γ.set i (.own p (oL K) es) ∧ s = Da K d) e0 ⟨rfl, rfl⟩ B σ F H I Q fun Γ' s v F' H' ⟨z1, z2⟩ I' ex => by
    subst z1 z2
    exact q _ d _ v F' H' res (hg.set ⟨p, rfl, ht⟩) I' ex
end
end AL
/-! AL5: statements, loops. -/
namespace AL
open PySem L2 TL
open Evl (Ex ex_l ex_t)
inductive Fl where
  | nx (g : En)
  | rt (g : En) (s : SD)
  | bk (g : En)
  | ct (g : En)
abbrev Bo := En → R Fl
def Wt (K : PySem.W.Frag) (pn : Nat → Addr) (D : AD) : Fl → Prop
  | .nx g => ∀ Γ, Rel K pn g Γ → D.nx Γ
  | .rt g s => ∀ Γ s', Rel K pn g Γ → RelS K pn s s' → D.rt Γ s'
  | .bk g => ∀ Γ, Rel K pn g Γ → D.bk Γ
  | .ct g => ∀ Γ, Rel K pn g Γ → D.ct Γ
def Ss (K : PySem.W.Frag) (Er : Ec) (ts : TS) (b : Bo) : Prop := ∀ (pn : Nat → Addr) (g : En) (Γ : List Sl) (B : Bs) (D : AD), Rel K pn g Γ → Rn K Er B (b g) → (∀ f, b g = .ok f → Wt K pn D f) → S B ts Γ D
def mNext : Bo := fun g => .ok (.nx g)
def mBreak : Bo := fun g => .ok (.bk g)
def mCont : Bo := fun g => .ok (.ct g)
def fNext (c : Bo) : Fl → R Fl
  | .nx g => c g
  | f => .ok f
def mSeq (b c : Bo) : Bo := fun g => (b g).bind (fNext c)
def mSet (i : Nat) (e : Mv) : Bo := fun g => (e g).bind fun p => .ok (.nx (p.1.set i p.2))
def mAsg (tg : Mg) (e : Md) : Bo := fun g => (e g).bind fun p => (R.of (tg p.2 p.1)).bind fun g' => .ok (.nx g')
def mRet (e : Mv) : Bo := fun g => (e g).bind fun p => .ok (.rt p.1 p.2)
def mRetN : Bo := fun g => .ok (.rt g (.da .none))
def mDrop (e : Mv) : Bo := fun g => (e g).bind fun p => .ok (.nx p.1)
def mIfS (t : Mt) (b c : Bo) : Bo := fun g => (t g).bind fun p => match p.2 with
  | true => b p.1
  | false => c p.1
def mRaise (c : Str) : Bo := fun _ => .err c
def mAug (i : Nat) (f : Int → Int → Int) (e : Md) : Bo := fun g => (R.of ((g[i]?).bind fun s => match s with | .da (.int a) => some a | _ => none)).bind fun a => (e g).bind fun p => (R.of (int? p.2)).bind fun b => .ok (.nx (p.1.set i (.da (.int (f a b)))))
section
variable {K : PySem.W.Frag} {pn : Nat → Addr} {Er : Ec} {E1 : XK} {te ta tb : TE} {tr : TA} {tt : TT} {ts us : TS} {e a : Md} {ev : Mv} {es : Ma} {t : Mt} {b c : Bo} {i j : Nat} {gT : TG} {tg : Mg} {vs : List Nat}
theorem s_nx : Ss K Er tNext mNext := fun pn g Γ B D hg rn w => s_next (w _ rfl Γ hg)
theorem s_bk : Ss K Er tBreak mBreak := fun pn g Γ B D hg rn w => TL.s_break (w _ rfl Γ hg)
theorem s_ct : Ss K Er tCont mCont := fun pn g Γ B D hg rn w => TL.s_cont (w _ rfl Γ hg)
theorem s_sq (h : Ss K Er ts b) (h2 : Ss K Er us c) : Ss K Er (tSeq ts us) (mSeq b c) := fun pn g Γ B D hg rn w => by
  obtain ⟨r1, r2⟩ := rn.bind
  refine s_seq (fun Γ' => ∃ g', b g = .ok (.nx g') ∧ Rel K pn g' Γ') (h pn g Γ B _ hg r1 fun f hf => ?_) fun Γ' ⟨g', e, hg'⟩ => h2 pn g' Γ' B D hg' (by have := r2 _ e; exact this) fun f hf => w f (by show (b g).bind _ = _; rw [e]; exact hf)
  cases f with
  | nx g' => exact fun Γ' hg' => ⟨g', hf, hg'⟩
  | rt g' s => exact w (.rt g' s) (by show (b g).bind _ = _; rw [hf]; rfl)
  | bk g' => exact w (.bk g') (by show (b g).bind _ = _; rw [hf]; rfl)
  | ct g' => exact w (.ct g') (by show (b g).bind _ = _; rw [hf]; rfl)
theorem s_set (h : Vs K Er te ev) : Ss K Er (tAsg te (gName i)) (mSet i ev) := fun pn g Γ B D hg rn w => fun σ F H I D' hn hr hb hc => by
  obtain ⟨r1, _⟩ := rn.bind
  exact h pn g Γ B σ F H hg I r1 _ fun g' x Γ' s v F' H' e1 hg' hs I' ex => hn _ _ F' H' (w (.nx (g'.set i x)) (by show (ev g).bind _ = _; rw [e1]; rfl) _ (hg'.set hs)) I'.store ex
theorem s_asg (h : Ds K Er te e) (hgt : Gt K gT tg vs) : Ss K Er (tAsg te gT) (mAsg tg e) := fun pn g Γ B D hg rn w => fun σ F H I D' hn hr hb hc => by
  obtain ⟨r1, r2⟩ := rn.bind
  refine h pn g Γ B σ F H hg I r1 _ fun g' x Γ' v F' H' e1 hg' I' ex => ?_
  obtain ⟨r3, _⟩ := (r2 _ e1).bind
  obtain ⟨g2, h2⟩ := r3.of
  obtain ⟨Γ2, hg2, hG⟩ := hgt pn x g' g2 Γ' h2 hg'
  obtain ⟨v', ev, hv⟩ := Ok.head I'
  cases ev
  refine hG B σ F' H' v (Ok.pop I') hv _ fun σ' _ I2 => hn _ σ' F' H' (w (.nx g2) ?_ _ hg2) I2 ex
  show (e g).bind _ = _
  rw [e1]; show (R.of (tg x g')).bind _ = _
  rw [h2]; rfl
theorem s_rt (h : Vs K Er te ev) : Ss K Er (tRet te) (mRet ev) := fun pn g Γ B D hg rn w => fun σ F H I D' hn hr hb hc => by
  obtain ⟨r1, _⟩ := rn.bind
  exact h pn g Γ B σ F H hg I r1 _ fun g' x Γ' s v F' H' e1 hg' hs I' ex => hr Γ' s v σ F' H' (w (.rt g' x) (by show (ev g).bind _ = _; rw [e1]; rfl) Γ' s hg' hs) I' ex
theorem s_rtN : Ss K Er tRetN mRetN := fun pn g Γ B D hg rn w => fun σ F H I D' hn hr hb hc => hr Γ (Da K .none) .non σ F H (w (.rt g (.da .none)) rfl Γ _ hg rfl) (I.push Dq.non) (Ex.refl F)
theorem s_dr (h : Vs K Er te ev) : Ss K Er (tDrop te) (mDrop ev) := fun pn g Γ B D hg rn w => fun σ F H I D' hn hr hb hc => by
  obtain ⟨r1, _⟩ := rn.bind
  exact h pn g Γ B σ F H hg I r1 _ fun g' x Γ' s v F' H' e1 hg' hs I' ex => hn Γ' σ F' H' (w (.nx g') (by show (ev g).bind _ = _; rw [e1]; rfl) Γ' hg') (Ok.pop I') ex
theorem s_ifs (hc : Ts K Er tt t) (h1 : Ss K Er ts b) (h2 : Ss K Er us c) : Ss K Er (tIfS tt ts us) (mIfS t b c) := fun pn g Γ B D hg rn w => fun σ F H I D' hn hr hb hct => by
  obtain ⟨r1, r2⟩ := rn.bind
  refine hc pn g Γ B σ F H hg I r1 _ fun g' z Γ' F' H' e1 hg' I' ex => ?_
  have r3 := r2 _ e1
  have go : ∀ {ws : TS} {d : Bo}, Ss K Er ws d → mIfS t b c g = d g' → Rn K Er B (d g') → ws D' σ H' := fun {ws d} k e2 r4 => k pn g' Γ' B D hg' r4 (fun f hf => w f (e2.trans hf)) σ F' H' I' D' (fun a b c d p q r => hn a b c d p q (ex.trans r)) (fun a b c d f g p q r => hr a b c d f g p q (ex.trans r)) (fun a b c d p q r => hb a b c d p q (ex.trans r)) (fun a b c d p q r => hct a b c d p q (ex.trans r))
  cases z with
  | true => show ts D' σ H'; exact go h1 (by show (t g).bind _ = _; rw [e1]; rfl) r3
  | false => show us D' σ H'; exact go h2 (by show (t g).bind _ = _; rw [e1]; rfl) r3
theorem s_rs {x : Str} {W : WX} (hW : W = fun cls dd _ H' => Er.e cls dd H') : Ss K Er (fun _ σ H => (fun (_ : St) H Q => Q (clsV K x) none H : St → Hp → XK → Prop) σ H fun cls dd H' => W cls dd σ H') (mRaise x) := fun pn g Γ B D hg rn w =>
  s_raise hW (rn.er x rfl)
theorem s_aug {f : Int → Int → Int} (h : Ds K Er te e) : Ss K Er (tAug i te (ipI f)) (mAug i f e) := fun pn g Γ B D hg rn w => fun σ F H I D' hn hr hb hc => by
  obtain ⟨r1, r2⟩ := rn.bind
  obtain ⟨n, hn0⟩ := r1.of
  have r3 := r2 n (by rw [hn0]; rfl)
  have hgi : g[i]? = some (.da (.int n)) := by
    obtain ⟨x, h1, h2⟩ := Option.bind_eq_some_iff.mp hn0
    rw [h1]
    split at h2
    · cases h2; rfl
    · cases h2
  obtain ⟨s, e1, e2⟩ := hg.get hgi
  cases e2
  obtain ⟨v, ev, hv⟩ := I.at_ e1
  cases hv
  refine ⟨_, ev, ?_⟩
  obtain ⟨r4, r5⟩ := r3.bind
  refine h pn g Γ B σ F H hg I r4 _ fun g' x Γ' v F' H' e3 hg' I' ex => ?_
  obtain ⟨r6, _⟩ := (r5 _ e3).bind
  obtain ⟨m, hm⟩ := r6.of
  have em := int_eq hm
  subst em
  obtain ⟨v', ev', hv⟩ := Ok.head I'
  cases ev'
  cases hv
  refine ⟨n, m, rfl, rfl, hn _ _ F' H' (w (.nx (g'.set i (.da (.int (f n m))))) ?_ _ (hg'.set (s := Da K (.int (f n m))) rfl)) ((Ok.pop I').push (Dq.int (f n m))).store ex⟩
  show (R.of _).bind _ = _
  rw [hn0]; show (e g).bind _ = _
  rw [e3]; rfl
/-! ### loops -/
def forL (tg : Mg) (b : Bo) : List PyData → Bo
  | [], g => .ok (.nx g)
  | d :: ds, g => (R.of (tg d g)).bind fun g1 => (b g1).bind fun f => match f with
    | .nx g2 => forL tg b ds g2
    | .ct g2 => forL tg b ds g2
    | .bk g2 => .ok (.nx g2)
    | .rt g2 s => .ok (.rt g2 s)
def mFor (it : Mi) (tg : Mg) (b : Bo) : Bo := fun g => (it g).bind fun p => forL tg b p.2 p.1
theorem s_fr {wi : TI} {it : Mi} (hi : Is K Er wi it) (hgt : Gt K gT tg vs) (h : Ss K Er ts b) : Ss K Er (tFor wi gT ts) (mFor it tg b) := fun pn g Γ B D hg rn w => fun σ F H I D' hn hr hb hc => by
  obtain ⟨r1, r2⟩ := rn.bind
  refine hi pn g Γ B σ F H hg I r1 _ fun g0 ds Γ0 J F1 H1 e1 hg0 I1 ex1 tn hz => ?_
  have r3 := r2 _ e1
  have res : ∀ f, forL tg b ds g0 = .ok f → mFor it tg b g = .ok f := fun f hf => by
    show (it g).bind _ = _
    rw [e1]; exact hf
  refine ⟨fun i m σ' H' => m = ds.length - i ∧ i ≤ ds.length ∧ ∃ g1 Γ' F', Rel K pn g1 Γ' ∧ forL tg b ds g0 = forL tg b (ds.drop i) g1 ∧ Ok B Γ' σ' F' H' ∧ Ex F1 F', ⟨_, rfl, Nat.zero_le _, g0, Γ0, F1, hg0, rfl, I1, Ex.refl _⟩, ?_⟩
  rintro i m σ' H' ⟨rfl, hi', g1, Γ', F', hg1, hv, I', e'⟩
  by_cases hlt : i < ds.length
  · have hx : ds[i]? = some ds[i] := List.getElem?_eq_getElem hlt
    obtain ⟨go, yl⟩ := (tn i F' H' e' I'.ex).1 ds[i] hx
    rw [List.drop_eq_getElem_cons hlt] at hv
    generalize ds[i] = d at hv hx yl
    refine .inr ⟨go, fun σ2 H2 => ∃ g1 Γ' F', Rel K pn g1 Γ' ∧ forL tg b ds g0 = forL tg b (ds.drop (i + 1)) g1 ∧ Ok B Γ' σ2 F' H2 ∧ Ex F1 F', fun σ2 H2 q => ⟨ds.length - (i + 1), by omega, rfl, hlt, q⟩, fun x H3 hy => ?_⟩
    obtain ⟨F3, carry, e3, dx⟩ := yl x H3 hy
    have hv' : forL tg b ds g0 = (R.of (tg d g1)).bind fun g1 => (b g1).bind fun f => match f with
      | .nx g2 => forL tg b (ds.drop (i + 1)) g2
      | .ct g2 => forL tg b (ds.drop (i + 1)) g2
      | .bk g2 => .ok (.nx g2)
      | .rt g2 s => .ok (.rt g2 s) := hv
    rw [hv'] at r3 res
    obtain ⟨r4, r5⟩ := r3.bind
    obtain ⟨g2, h2⟩ := r4.of
    obtain ⟨Γ2, hg2, hG⟩ := hgt pn d g1 g2 Γ' h2 hg1
    refine hG B σ' F3 H3 x (carry _ _ _ I') dx _ fun σ2 _ I2 => ?_
    have eA : Ex F1 F3 := e'.trans e3
    obtain ⟨r6, r7⟩ := (r5 g2 (by rw [h2]; rfl)).bind
    rw [h2] at hv' res
    simp only [R.of, R.ok_bind] at hv' res
    refine h pn g2 Γ2 B { nx := fun Γ' => ∃ g3, Rel K pn g3 Γ' ∧ forL tg b ds g0 = forL tg b (ds.drop (i + 1)) g3, ct := fun Γ' => ∃ g3, Rel K pn g3 Γ' ∧ forL tg b ds g0 = forL tg b (ds.drop (i + 1)) g3, bk := D.nx, rt := D.rt } hg2 r6 (fun f hf => ?_) σ2 F3 H3 I2 { D' with nx := _, ct := _, bk := D'.nx }
      (fun Γ5 σ5 F5 H5 ⟨g3, a, c⟩ I5 e5 => ⟨g3, Γ5, F5, a, c, I5, eA.trans e5⟩) (fun a b c d f g p q r => hr a b c d f g p q ((ex1.trans eA).trans r))
      (fun a b c d p q r => hn a b c d p q ((ex1.trans eA).trans r)) (fun Γ5 σ5 F5 H5 ⟨g3, a, c⟩ I5 e5 => ⟨g3, Γ5, F5, a, c, I5, eA.trans e5⟩)
    rw [hf] at hv' res
    simp only [R.ok_bind] at hv' res
    cases f with
    | nx g3 => exact fun Γ3 hg3 => ⟨g3, hg3, hv'⟩
    | ct g3 => exact fun Γ3 hg3 => ⟨g3, hg3, hv'⟩
    | bk g3 => exact fun Γ3 hg3 => w (.nx g3) (res _ rfl) Γ3 hg3
    | rt g3 s => exact fun Γ3 s3 hg3 hs => w (.rt g3 s) (res _ rfl) Γ3 s3 hg3 hs
  · have ei : i = ds.length := by omega
    subst ei
    rw [List.drop_length] at hv
    exact .inl ⟨(tn _ F' H' e' I'.ex).2 (Nat.le_refl _), hn Γ' σ' F' H' (w (.nx g1) (res _ hv) Γ' hg1) I' (ex1.trans e')⟩
def whL (t : Mt) (b : Bo) : Nat → Bo
  | 0, _ => .bad
  | n + 1, g => (t g).bind fun p => match p.2 with
    | false => .ok (.nx p.1)
    | true => (b p.1).bind fun f => match f with
      | .nx g2 => whL t b n g2
      | .ct g2 => whL t b n g2
      | .bk g2 => .ok (.nx g2)
      | .rt g2 s => .ok (.rt g2 s)
def mWhile (n : Nat) (t : Mt) (b : Bo) : Bo := whL t b n
theorem s_wh {n : Nat} (ht : Ts K Er tt t) (h : Ss K Er ts b) : Ss K Er (tWhile tt ts) (mWhile n t b) := fun pn g Γ B D hg rn w => fun σ F H I D' hn hr hb hc => by
  refine ⟨fun m σ' H' => ∃ g1 Γ' F', Rel K pn g1 Γ' ∧ mWhile n t b g = whL t b m g1 ∧ Ok B Γ' σ' F' H' ∧ Ex F F', ⟨n, g, Γ, F, hg, rfl, I, Ex.refl _⟩, ?_⟩
  rintro m σ' H' ⟨g1, Γ', F', hg1, hv, I', e'⟩
  cases m with
  | zero => rw [hv] at rn; exact Rn.bad rn
  | succ m =>
    have hv' : mWhile n t b g = (t g1).bind fun p => match p.2 with
      | false => .ok (.nx p.1)
      | true => (b p.1).bind fun f => match f with
        | .nx g2 => whL t b m g2
        | .ct g2 => whL t b m g2
        | .bk g2 => .ok (.nx g2)
        | .rt g2 s => .ok (.rt g2 s) := hv
    rw [hv'] at rn w
    obtain ⟨r1, r2⟩ := rn.bind
    refine ht pn g1 Γ' B σ' F' H' hg1 I' r1 _ fun g2 z Γ2 F2 H2 e1 hg2 I2 ex2 => ?_
    have r3 := r2 _ e1
    rw [e1] at hv' w
    simp only [R.ok_bind] at hv' w
    cases z with
    | false => exact hn Γ2 σ' F2 H2 (w (.nx g2) rfl Γ2 hg2) I2 (e'.trans ex2)
    | true =>
      simp only at hv' w r3
      obtain ⟨r4, _⟩ := r3.bind
      rw [if_pos rfl]
      have eA := e'.trans ex2
      refine ⟨fun σ3 H3 => ∃ g3 Γ' F', Rel K pn g3 Γ' ∧ mWhile n t b g = whL t b m g3 ∧ Ok B Γ' σ3 F' H3 ∧ Ex F F', fun σ3 H3 ⟨g3, Γ', F', q1, q2, q3, q4⟩ => ⟨m, Nat.lt_succ_self m, g3, Γ', F', q1, q2, q3, q4⟩, ?_⟩
      refine h pn g2 Γ2 B { nx := fun Γ' => ∃ g3, Rel K pn g3 Γ' ∧ mWhile n t b g = whL t b m g3, ct := fun Γ' => ∃ g3, Rel K pn g3 Γ' ∧ mWhile n t b g = whL t b m g3, bk := D.nx, rt := D.rt } hg2 r4 (fun f hf => ?_) σ' F2 H2 I2 { D' with nx := _, ct := _, bk := D'.nx }
        (fun Γ5 σ5 F5 H5 ⟨g3, a, c⟩ I5 e5 => ⟨g3, Γ5, F5, a, c, I5, eA.trans e5⟩) (fun a b c d f g p q r => hr a b c d f g p q (eA.trans r))
        (fun a b c d p q r => hn a b c d p q (eA.trans r)) (fun Γ5 σ5 F5 H5 ⟨g3, a, c⟩ I5 e5 => ⟨g3, Γ5, F5, a, c, I5, eA.trans e5⟩)
      rw [hf] at hv' w
      simp only [R.ok_bind] at hv' w
      cases f with
      | nx g3 => exact fun Γ3 hg3 => ⟨g3, hg3, hv'⟩
      | ct g3 => exact fun Γ3 hg3 => ⟨g3, hg3, hv'⟩
      | bk g3 => exact fun Γ3 hg3 => w (.nx g3) rfl Γ3 hg3
      | rt g3 s => exact fun Γ3 s3 hg3 hs => w (.rt g3 s) rfl Γ3 s3 hg3 hs
/-! ### several names at once, things of any kind -/
abbrev Mw := En → R (En × List SD)
def Ws (K : PySem.W.Frag) (Er : Ec) (ta : TA) (e : Mw) : Prop := ∀ (pn : Nat → Addr) (g : En) (Γ : List Sl) (B : Bs) (σ : St) (F H : Hp), Rel K pn g Γ → Ok B Γ σ F H → Rn K Er B (e g) → ∀ Q : List V → Hp → Prop,
  (∀ g' xs Γ' ss vs F' H', e g = .ok (g', xs) → Rel K pn g' Γ' → Rel K pn xs ss → vs.length = xs.length → Ok B (ss ++ Γ') (vs.map some ++ σ) F' H' → Ex F F' → Q vs H') → ta σ H Q
def wNil : Mw := fun g => .ok (g, [])
def wCons (a : Mv) (es : Mw) : Mw := fun g => (a g).bind fun p => (es p.1).bind fun q => .ok (q.1, p.2 :: q.2)
theorem ws_nil : Ws K Er tNil wNil := fun pn g Γ B σ F H hg I rn Q q => q g [] Γ [] [] F H rfl hg .nil rfl I (Ex.refl F)
theorem ws_cons {a : Mv} {es : Mw} (ha : Vs K Er ta a) (hr : Ws K Er tr es) : Ws K Er (tCons ta tr) (wCons a es) := fun pn g Γ B σ F H hg I rn Q q => by
  obtain ⟨r1, r2⟩ := rn.bind
  refine ha pn g Γ B σ F H hg I r1 _ fun g1 x Γ1 s v F1 H1 e1 hg1 hs I1 ex1 => ?_
  obtain ⟨r3, _⟩ := (r2 _ e1).bind
  obtain ⟨B', I', z, c⟩ := under' (τ := [some v]) (Δ := [s]) rfl I1
  refine hr pn g1 Γ1 B' σ F1 H1 hg1 I' (r3.base z) _ fun g2 xs Γ2 ss vs F2 H2 e2 hg2 hss n I2 ex2 => ?_
  refine q g2 (x :: xs) Γ2 (s :: ss) (v :: vs) F2 H2 ?_ hg2 (.cons hs hss) (by simp [n]) (c _ _ _ _ I2) (ex1.trans ex2)
  show (a g).bind _ = _
  rw [e1]; show (es g1).bind _ = _
  rw [e2]; rfl
def mPar (i j : Nat) (es : Mw) : Bo := fun g => (es g).bind fun p => match p.2 with
  | [a, b] => .ok (.nx ((p.1.set i a).set j b))
  | _ => .bad
theorem s_par {es : Mw} (h : Ws K Er tr es) : Ss K Er (tPar i j tr) (mPar i j es) := fun pn g Γ B D hg rn w => fun σ F H I D' hn hr hb hc => by
  obtain ⟨r1, r2⟩ := rn.bind
  refine h pn g Γ B σ F H hg I r1 _ fun g1 xs Γ1 ss vs F1 H1 e1 hg1 hs n I1 ex1 => ?_
  have r3 := r2 _ e1
  match xs, vs, hs, n, r3 with
  | [a, b], [v, u], .cons (s := s) ha (.cons (s := s2) hb .nil), _, _ =>
    refine ⟨v, u, rfl, ?_⟩
    have I2 : Ok B (s2 :: Γ1.set i s) (some u :: σ.set i (some v)) F1 H1 := by
      have := Ok.store (i := i + 1) (show Ok B (s :: s2 :: Γ1) (some v :: some u :: σ) F1 H1 from I1)
      exact this
    refine hn _ _ F1 H1 (w (.nx ((g1.set i a).set j b)) ?_ _ ((hg1.set ha).set hb)) I2.store ex1
    show (es g).bind _ = _
    rw [e1]; rfl
  | [], _, _, _, r3 => exact Rn.bad r3
  | [_], _, _, _, r3 => exact Rn.bad r3
  | _ :: _ :: _ :: _, _, _, _, r3 => exact Rn.bad r3
def mPar3 (i j l : Nat) (es : Mw) : Bo := fun g => (es g).bind fun p => match p.2 with
  | [a, b, c] => .ok (.nx (((p.1.set i a).set j b).set l c))
  | _ => .bad
theorem s_par3 {l : Nat} {es : Mw} (h : Ws K Er tr es) : Ss K Er (tPar3 i j l tr) (mPar3 i j l es) := fun pn g Γ B D hg rn w => fun σ F H I D' hn hr hb hc => by
  obtain ⟨r1, r2⟩ := rn.bind
  refine h pn g Γ B σ F H hg I r1 _ fun g1 xs Γ1 ss vs F1 H1 e1 hg1 hs n I1 ex1 => ?_
  have r3 := r2 _ e1
  match xs, vs, hs, n, r3 with
  | [a, b, c], [v, u, t], .cons (s := s) ha (.cons (s := s2) hb (.cons (s := s3) hc .nil)), _, _ =>
    refine ⟨v, u, t, rfl, ?_⟩
    have I2 : Ok B (s2 :: s3 :: Γ1.set i s) (some u :: some t :: σ.set i (some v)) F1 H1 := by
      have := Ok.store (i := i + 2) (show Ok B (s :: s2 :: s3 :: Γ1) (some v :: some u :: some t :: σ) F1 H1 from I1)
      exact this
    have I3 : Ok B (s3 :: (Γ1.set i s).set j s2) (some t :: (σ.set i (some v)).set j (some u)) F1 H1 := by
      have := Ok.store (i := j + 1) I2
      exact this
    refine hn _ _ F1 H1 (w (.nx (((g1.set i a).set j b).set l c)) ?_ _ (((hg1.set ha).set hb).set hc)) I3.store ex1
    show (es g).bind _ = _
    rw [e1]; rfl
  | [], _, _, _, r3 => exact Rn.bad r3
  | [_], _, _, _, r3 => exact Rn.bad r3
  | [_, _], _, _, _, r3 => exact Rn.bad r3
  | _ :: _ :: _ :: _ :: _, _, _, _, r3 => exact Rn.bad r3
/-! ### a slot's own list stands still from now on; is forgotten; a place of it is written -/
def mFrz (i : Nat) (b : Bo) : Bo := fun g => b (match g[i]? with
  | some s => g.set i s.frz
  | none => g)
theorem s_fz (h : Ss K Er ts b) : Ss K Er ts (mFrz i b) := fun pn g Γ B D hg rn w => by
  unfold mFrz at rn w
  cases e : g[i]? with
  | none =>
    simp only [e] at rn w
    exact h pn g Γ B D hg rn w
  | some s =>
    simp only [e] at rn w
    obtain ⟨s', e1, e2⟩ := hg.get e
    cases s with
    | no =>
      have : g.set i SD.no.frz = g := set_id e
      rw [this] at rn w
      exact h pn g Γ B D hg rn w
    | da d =>
      have : g.set i (SD.da d).frz = g := set_id e
      rw [this] at rn w
      exact h pn g Γ B D hg rn w
    | ls t ds =>
      obtain ⟨p, rfl, _⟩ := e2
      exact TL.s_frz (K := K) e1 (h pn _ _ B D (hg.set (x := .da (.list ds)) (s := Da K (.list ds)) rfl) rn w)
    | ow t n d =>
      obtain ⟨p, rfl, _⟩ := e2
      exact TL.s_forget i (h pn _ _ B D (hg.set (x := .no) (s := .no) rfl) rn w)
    | ll dss =>
      obtain ⟨p, rfl⟩ := e2
      exact TL.s_frzLL (K := K) e1 (h pn _ _ B D (hg.set (x := .da (.list (dss.map .list))) (s := Da K (.list (dss.map .list))) rfl) rn w)
/-- x[k] = e, x a list of one's own -/
def mSetI (i : Nat) (e j : Md) : Bo := fun g => (e g).bind fun p => (R.of (ownAt p.1 i)).bind fun _ => (j p.1).bind fun q => (R.of (int? q.2)).bind fun k => (R.of (ownAt q.1 i)).bind fun ds => (R.of (ixN ds.2.length k)).bind fun n => .ok (.nx (q.1.set i (.ls ds.1 (ds.2.set n p.2))))
theorem dq_set {F : Hp} : ∀ {vs : List V} {ds : List PyData} {n : Nat} {v : V} {d : PyData}, DqAll K F vs ds → Dq K F v d → DqAll K F (vs.set n v) (ds.set n d)
  | [], _, _, _, _, h, _ => by cases h; exact .nil
  | w :: vs, _, n, v, d, h, hv => by
    cases h with
    | cons a b =>
      cases n with
      | zero => exact .cons hv b
      | succ n => exact .cons a (dq_set b hv)
theorem s_seti {tj : TE} {j : Md} (h : Ds K Er te e) (hj : Ds K Er tj j) : Ss K Er (tAsg te (gSub (tVar i) tj rSetL)) (mSetI i e j) := fun pn g Γ B D hg rn w => fun σ F H I D' hn hr hb hc => by
  obtain ⟨r1, r2⟩ := rn.bind
  refine h pn g Γ B σ F H hg I r1 _ fun g1 d Γ1 v F1 H1 e1 hg1 I1 ex1 => ?_
  obtain ⟨r3, r4⟩ := (r2 _ e1).bind
  obtain ⟨ds0, h0⟩ := r3.of
  have r5 := r4 ds0 (by rw [h0]; rfl)
  obtain ⟨p0, q0, _⟩ := hg1.own (own_eq h0)
  have g1' := ((Ok.pop I1).at_own q0).1
  refine ⟨_, g1', ?_⟩
  obtain ⟨r6, r7⟩ := r5.bind
  refine hj.under (τ := [some v]) (Δ := [Da K d]) rfl hg1 I1 r6 fun g2 x Γ2 u F2 H2 e2 hg2 I2 ex2 => ?_
  obtain ⟨r8, r9⟩ := (r7 _ e2).bind
  obtain ⟨k, hk⟩ := r8.of
  have r10 := r9 k (by rw [hk]; rfl)
  have ek := int_eq hk
  subst ek
  obtain ⟨r11, r12⟩ := r10.bind
  obtain ⟨⟨t, ds⟩, h1⟩ := r11.of
  obtain ⟨r13, _⟩ := (r12 (t, ds) (by rw [h1]; rfl)).bind
  obtain ⟨n, hn1⟩ := r13.of
  obtain ⟨v', ev, hv⟩ := Ok.head I2
  cases ev
  obtain ⟨u', eu, hu⟩ := Ok.head (Ok.pop I2)
  cases eu
  cases hu
  have I3 := Ok.pop (Ok.pop I2)
  obtain ⟨p, q1, ht⟩ := hg2.own (own_eq h1)
  obtain ⟨a1, fp, a2, acc, a3, a4, a5⟩ := I3.at_own q1
  rw [g1'] at a1
  cases a1
  obtain ⟨_, _, I5⟩ := Ok.wrS (xs' := acc.set n v) I3 q1 (ds' := ds.set n d) (by rw [List.length_set]; exact a4) (dq_set a5 hv)
  refine ⟨_, acc, k, n, rfl, rfl, a3, by rw [a5.len]; exact hn1, ?_⟩
  refine hn _ σ F2 _ (w (.nx (g2.set i (.ls t (ds.set n d)))) ?_ _ (hg2.set ⟨_, rfl, ht⟩)) I5 (ex1.trans ex2)
  show (e g).bind _ = _
  rw [e1]; show (R.of (ownAt g1 i)).bind _ = _
  rw [h0]; show (j g1).bind _ = _
  rw [e2]; show (R.of (ownAt g2 i)).bind _ = _
  rw [h1]; show (R.of (ixN ds.length k)).bind _ = _
  rw [show ixN ds.length k = some n from hn1]; rfl
end
end AL
/-! AL6: calls, and the rule for a def: what its body comes to, as a function. -/
namespace AL
open PySem L2 TL
open Evl (Ex ex_l ex_t)
/-- what a function promises -/
def Gr (M : List PyData → R PyData) : Rl := fun ds r => match r with
  | .ok d => M ds = .ok d
  | .error c => M ds = .err c
def resS : PyData → SD
  | .list ds => .ls 0 ds
  | d => .da d
def mCall (M : List PyData → R PyData) (es : Ma) : Mv := fun g => (es g).bind fun p => (M p.2).bind fun d => .ok (p.1, resS d)
def mCallN (M : List PyData → R PyData) (es : Ma) : Mv := fun g => (es g).bind fun p => (M p.2).noE.bind fun d => .ok (p.1, resS d)
section
variable {K : PySem.W.Frag} {pn : Nat → Addr} {Er : Ec} {E1 : XK} {ta : TA} {es : Ma} {M : List PyData → R PyData}
theorem call_core {g : En} {Γ : List Sl} {B : Bs} {σ : St} {F H : Hp} {xs : List PyData} {vs : List V} (n : vs.length = xs.length) (hg : Rel K pn g Γ) (I : Ok B (xs.map (Da K) ++ Γ) (vs.map some ++ σ) F H) {Q : VK} {d : PyData} (hM : M xs = .ok d)
    (q : ∀ s v F' H', RelS K pn (resS d) s → Ok B (s :: Γ) (some v :: σ) F' H' → Ex F F' → Q v H') : PFt B.T K (Gr M) (vs ++ []) H Q E1 := by
  obtain ⟨h1, h2⟩ := Ok.all n.symm I
  rw [List.append_nil]
  refine ⟨xs, .ok d, F, hM, Ok.exT h2, h1, fun d' s v F' H' e hs I' => ?_, fun x F' H' e _ => by cases e⟩
  cases e
  have I3 := h2.after I'
  have eF : Ex F F' := by
    obtain ⟨L, I'⟩ := I'
    exact I'.bF
  refine q s v F' H' ?_ I3 eF
  rcases hs with ⟨es', p, hd, hs⟩ | ⟨hn, hs⟩
  · subst hd hs
    exact ⟨p, rfl, fun z => absurd rfl z⟩
  · subst hs
    cases d with
    | list ds => exact absurd rfl (hn ds)
    | _ => rfl
theorem v_call (ha : As K Er ta es) : Vs K Er (tCall (PFt Er.T K (Gr M)) [] Er.e ta) (mCall M es) := fun pn g Γ B σ F H hg I rn Q q => by
  obtain ⟨r1, r2⟩ := rn.bind
  refine ha pn g Γ B σ F H hg I r1 _ fun g1 xs Γ1 vs F1 H1 e1 hg1 n I1 ex1 => ?_
  obtain ⟨r3, _⟩ := (r2 _ e1).bind
  rw [← rn.tt]
  cases hM : M xs with
  | ok d =>
    refine call_core n hg1 I1 hM fun s v F' H' hs I' ex' => q g1 (resS d) Γ1 s v F' H' ?_ hg1 hs I' (ex1.trans ex')
    show (es g).bind _ = _
    rw [e1]; show (M xs).bind _ = _
    rw [hM]; rfl
  | err c =>
    obtain ⟨h1, h2⟩ := Ok.all n.symm I1
    show PFt B.T K (Gr M) (vs ++ []) H1 Q Er.e
    rw [List.append_nil]
    refine ⟨xs, .error c, F1, hM, Ok.exT h2, h1, fun d' s v F' H' e hs I' => (by cases e), fun x F' H' e I' => ?_⟩
    cases e
    exact r3.er c hM F' H' (Ok.drop (h2.after I'))
  | bad => exact absurd hM r3.nb
theorem v_callN (ha : As K Er ta es) : Vs K Er (tCall (PFt Er.T K (Gr M)) [] E1 ta) (mCallN M es) := fun pn g Γ B σ F H hg I rn Q q => by
  obtain ⟨r1, r2⟩ := rn.bind
  refine ha pn g Γ B σ F H hg I r1 _ fun g1 xs Γ1 vs F1 H1 e1 hg1 n I1 ex1 => ?_
  obtain ⟨r3, _⟩ := (r2 _ e1).bind
  rw [← rn.tt]
  cases hM : M xs with
  | ok d =>
    refine call_core n hg1 I1 hM fun s v F' H' hs I' ex' => q g1 (resS d) Γ1 s v F' H' ?_ hg1 hs I' (ex1.trans ex')
    show (es g).bind _ = _
    rw [e1]; show (M xs).noE.bind _ = _
    rw [hM]; rfl
  | err c => exact absurd (show (M xs).noE = .bad by rw [hM]; rfl) r3.nb
  | bad => exact absurd (show (M xs).noE = .bad by rw [hM]; rfl) r3.nb
theorem resS_any {pn pn' : Nat → Addr} {d : PyData} {s : Sl} (h : RelS K pn (resS d) s) : RelS K pn' (resS d) s := by
  cases d with
  | list ds => obtain ⟨p, h, _⟩ := h; exact ⟨p, h, fun z => absurd rfl z⟩
  | _ => exact h
/-! ### a list of one's own handed over first -/
def PO (T : List (Addr × Str)) (K : PySem.W.Frag) (M : List PyData → List PyData → R (List PyData × PyData)) : Sp := fun vs H Q X => ∃ (p : Addr) (c ds c' : List PyData) (d : PyData) (F : Hp), M c ds = .ok (c', d) ∧ Ok ⟨F, H, [p], T⟩ (.own p (oL K) c :: ds.map (Da K)) (vs.map some) F H ∧
  ∀ s v F' H', RelS K (fun _ => p) (resS d) s → Ok ⟨F, H, [p], T⟩ [s, .own p (oL K) c'] [some v, some (.ref p)] F' H' → Q v H'
def mCallO (M : List PyData → List PyData → R (List PyData × PyData)) (i : Nat) (es : Ma) : Mv := fun g => (R.of (ownAt g i)).bind fun _ => (es g).bind fun p => (R.of (ownAt p.1 i)).bind fun c => (M c.2 p.2).noE.bind fun r => .ok (p.1.set i (.ls c.1 r.1), resS r.2)
theorem v_callO {M : List PyData → List PyData → R (List PyData × PyData)} {i : Nat} (ha : As K Er ta es) : Vs K Er (tCall (PO Er.T K M) [] E1 (tCons (tVar i) ta)) (mCallO M i es) := fun pn g Γ B σ F H hg I rn Q q => by
  obtain ⟨r1, r2⟩ := rn.bind
  obtain ⟨c0, h0⟩ := r1.of
  have r3 := r2 c0 (by rw [h0]; rfl)
  obtain ⟨p0, e0, _⟩ := hg.own (own_eq h0)
  have g1' := (I.at_own e0).1
  refine ⟨.ref p0, g1', ?_⟩
  obtain ⟨r4, r5⟩ := r3.bind
  refine ha pn g Γ B σ F H hg I r4 _ fun g1 xs Γ1 vs F1 H1 e1 hg1 n I1 ex1 => ?_
  obtain ⟨r6, r7⟩ := (r5 _ e1).bind
  obtain ⟨⟨tg, c⟩, h1⟩ := r6.of
  obtain ⟨r8, _⟩ := (r7 (tg, c) (by rw [h1]; rfl)).bind
  cases hM : M c xs with
  | err c' => exact absurd (show (M c xs).noE = .bad by rw [hM]; rfl) r8.nb
  | bad => exact absurd (show (M c xs).noE = .bad by rw [hM]; rfl) r8.nb
  | ok r =>
  obtain ⟨c', d⟩ := r
  obtain ⟨p, b, ht⟩ := hg1.own (own_eq h1)
  obtain ⟨hh1, hh2⟩ := Ok.all n.symm I1
  have ep := (hh2.at_own b).1
  rw [g1'] at ep
  cases ep
  rw [← rn.tt]
  show PO B.T K M ((.ref p0 :: vs) ++ []) H1 Q E1
  rw [List.append_nil]
  obtain ⟨x, ex, I3⟩ := hh2.lift b
  rw [g1'] at ex
  cases ex
  have I4 : Ok B (Γ1.set i .no ++ [.own p0 (oL K) c]) (σ.set i none ++ [some (.ref p0)]) F1 H1 := Ok.rot (Δ := [.own p0 (oL K) c]) (τ := [some (.ref p0)]) I3 rfl
  obtain ⟨L, I5⟩ := I4
  have hlen : (σ.set i none).length = (Γ1.set i .no).length := by rw [List.length_set, List.length_set]; exact hh2.lens
  obtain ⟨f₁, f₂, ef, k1, k2⟩ := split hlen I5.sl
  subst ef
  have ef2 : f₂ = [[p0]] := by
    cases k2 with
    | cons a b =>
      cases b
      cases a with
      | own ho => rw [ho.1]
  subst ef2
  have sub : ∀ q ∈ ([[p0]] : List (List Addr)).flatten, q ∈ (f₁ ++ [[p0]]).flatten := fun q z => by rw [List.flatten_append]; exact List.mem_append_right _ z
  have nd := I5.nd
  rw [List.flatten_append, List.nodup_append] at nd
  have base : OkF ⟨F1, H1, [p0], B.T⟩ [.own p0 (oL K) c] [some (.ref p0)] F1 H1 [[p0]] := (OkF.base (B := B) (fps := [[p0]]) ⟨k2, nd.2.1, fun q z => I5.fz q (sub q z), I5.ex, I5.bF, I5.bG, I5.bK, I5.bD, fun q z => I5.bO q (sub q z)⟩)
  have args : ∀ {xs : List PyData} {ws : List V}, DqAll K F1 ws xs → Ok ⟨F1, H1, [p0], B.T⟩ (xs.map (Da K) ++ [.own p0 (oL K) c]) (ws.map some ++ [some (.ref p0)]) F1 H1 := by
    intro xs
    induction xs with
    | nil => intro ws h; cases h; exact ⟨_, base⟩
    | cons x xs ih =>
      intro ws h
      cases h with
      | cons a b => exact (ih b).push a
  refine ⟨p0, c, xs, c', d, F1, hM, Ok.rot (Δ := xs.map (Da K)) (τ := vs.map some) (args hh1) (by simpa using n), fun s v F' H' hs I6 => ?_⟩
  obtain ⟨L6, I7⟩ := OkF.compose (Δ := Γ1.set i .no) (τ := σ.set i none) (fpd := f₁) (fps := [[p0]]) I5 k1 I6
  have I8 : Ok B ([s, .own p0 (oL K) c'] ++ Γ1.set i .no) ([some v, some (.ref p0)] ++ σ.set i none) F' H' := Ok.rot ⟨_, I7⟩ hlen
  have I9 : Ok B (s :: Γ1.set i (.own p0 (oL K) c')) (some v :: σ) F' H' := by
    have z := Ok.lift (i := 1) (s := .own p0 (oL K) c') I8 rfl
    obtain ⟨x, ex, z⟩ := z
    cases ex
    have z2 := Ok.store (i := i + 2) z
    have z3 : Ok B (s :: (Γ1.set i .no).set i (.own p0 (oL K) c')) (some v :: (σ.set i none).set i (some (.ref p0))) F' H' := Ok.drop2 z2
    have e2 : (σ.set i none).set i (some (.ref p0)) = σ := by rw [List.set_set, set_id g1']
    have e3 : (Γ1.set i .no).set i (.own p0 (oL K) c') = Γ1.set i (.own p0 (oL K) c') := by rw [List.set_set]
    rw [e2, e3] at z3
    exact z3
  have eF : Ex F1 F' := by
    obtain ⟨L, I'⟩ := I6
    exact I'.bF
  refine q (g1.set i (.ls tg c')) (resS d) _ s v F' H' ?_ (hg1.set ⟨p0, rfl, ht⟩) (resS_any hs) I9 (ex1.trans eF)
  show (R.of (ownAt g i)).bind _ = _
  rw [h0]; show (es g).bind _ = _
  rw [e1]; show (R.of (ownAt g1 i)).bind _ = _
  rw [h1]; show (M c xs).noE.bind _ = _
  rw [hM]; rfl
end
/-! ### a def -/
def isL : PyData → Bool
  | .list _ => true
  | _ => false
def SD.res : SD → Option PyData
  | .da d => if isL d then none else some d
  | .ls _ ds => some (.list ds)
  | _ => none
theorem res_eq {K : PySem.W.Frag} {pn pn' : Nat → Addr} {x : SD} {d : PyData} {s : Sl} (h : x.res = some d) (hs : RelS K pn x s) : RelS K pn' (resS d) s := by
  cases x with
  | da e =>
    have h' : (if isL e = true then none else some e) = some d := h
    cases e with
    | list ds => cases h'
    | _ => cases h'; exact hs
  | ls t ds =>
    cases h
    obtain ⟨p, hs, _⟩ := hs
    exact ⟨p, hs, fun z => absurd rfl z⟩
  | no => cases h
  | ll _ => cases h
  | ow _ _ _ => cases h
def endD : Fl → R PyData
  | .nx _ => .ok .none
  | .rt _ s => R.of s.res
  | _ => .bad
/-- a def's body run: n slots, np parameters -/
def runD (n np : Nat) (b : Bo) (ds : List PyData) : R PyData := match Nat.beq ds.length np with
  | false => .bad
  | true => (b (ds.map .da ++ List.replicate (n - ds.length) .no)).bind endD
/-- the list handed over, still at its place -/
def own1 (g : En) : Option (List PyData) := match ownAt g 0 with
  | some (1, c) => some c
  | _ => none
theorem own1_eq {g : En} {c : List PyData} (h : own1 g = some c) : ownAt g 0 = some (1, c) := by
  unfold own1 at h
  split at h
  · cases h; assumption
  · cases h
def endO : Fl → R (List PyData × PyData)
  | .nx g => (R.of (own1 g)).bind fun c => .ok (c, .none)
  | .rt g s => (R.of (own1 g)).bind fun c => (R.of s.res).bind fun d => .ok (c, d)
  | _ => .bad
def runO (n np : Nat) (b : Bo) (c ds : List PyData) : R (List PyData × PyData) := match Nat.beq (ds.length + 1) np with
  | false => .bad
  | true => (b (.ls 1 c :: (ds.map .da ++ List.replicate (n - 1 - ds.length) .no))).bind endO
section
variable {P : Program} {w : World} {K : PySem.W.Frag} {mg : Str → Option Value} {base : Heap}
theorem fn_al {T : List (Addr × Str)} {x qual : Str} {params : Arguments} {body : List Stmt} {scope : Scope} {f : Addr} {fd : FuncData} {N ps : List Str} {k : Nat} {b : Bo} (Fd : FunD K x qual params body scope [] [] f fd) (sc : FnScope N ps scope)
    (hbody : ∀ (cdv : Value), FunC K x qual params body scope f cdv → ∀ (A : Around) (outer : List Env) (s : Shared) (H : Hp) (E : XK), Room k (A.deeper (PyProof.Rows.envOfC qual scope s.heap.objs.size f cdv)) →
      ∃ t, PSs (cxOf (L2N.CX P w) P w K mg base N qual scope f cdv A outer s H E) body t ∧ Ss K ⟨E, T⟩ t b) :
    FnOk P w K mg base (L2N.CX P w) (k + 1) f fd ps (PFt T K (Gr (runD N.length ps.length b))) := by
  have len : ∀ ds r, Gr (runD N.length ps.length b) ds r → ds.length = ps.length := fun ds r h => by
    cases e : Nat.beq ds.length ps.length with
    | true => exact Nat.eq_of_beq_eq_true e
    | false =>
      cases r with
      | ok d => have h' : runD N.length ps.length b ds = .ok d := h; unfold runD at h'; rw [e] at h'; cases h'
      | error c => have h' : runD N.length ps.length b ds = .err c := h; unfold runD at h'; rw [e] at h'; cases h'
  refine fn_pfT Fd sc len fun cdv hcc A outer s H E ds r B hT hr hR hE => ?_
  obtain ⟨t, h1, h2⟩ := hbody cdv hcc A outer s H E hr
  have hl := len ds r hR
  have hrun : runD N.length ps.length b ds = (b (ds.map .da ++ List.replicate (N.length - ds.length) .no)).bind endD := by
    unfold runD
    have : Nat.beq ds.length ps.length = true := by rw [hl]; exact Nat.beq_refl _
    rw [this]
  refine ⟨t, h1, h2 (fun _ => 0) _ _ B _ ((Rel.das ds).append (Rel.nos _)) ⟨fun z => ?_, fun c z => ?_, hT⟩ fun fl hf => ?_⟩
  · have e : runD N.length ps.length b ds = .bad := by rw [hrun, z]; rfl
    cases r with
    | ok d => have h' : runD N.length ps.length b ds = .ok d := hR; rw [e] at h'; cases h'
    | error c => have h' : runD N.length ps.length b ds = .err c := hR; rw [e] at h'; cases h'
  · have e : runD N.length ps.length b ds = .err c := by rw [hrun, z]; rfl
    cases r with
    | ok d => have h' : runD N.length ps.length b ds = .ok d := hR; rw [e] at h'; cases h'
    | error c' =>
      have h' : runD N.length ps.length b ds = .err c' := hR
      rw [e] at h'
      cases h'
      exact hE c rfl
  · have e : runD N.length ps.length b ds = endD fl := by rw [hrun, hf]; rfl
    have hok : ∀ d, endD fl = .ok d → r = .ok d := fun d hd => by
      cases r with
      | ok d' => have h' : runD N.length ps.length b ds = .ok d' := hR; rw [e, hd] at h'; cases h'; rfl
      | error c => have h' : runD N.length ps.length b ds = .err c := hR; rw [e, hd] at h'; cases h'
    have hno : endD fl = .bad → False := fun hd => by
      cases r with
      | ok d' => have h' : runD N.length ps.length b ds = .ok d' := hR; rw [e, hd] at h'; cases h'
      | error c => have h' : runD N.length ps.length b ds = .err c := hR; rw [e, hd] at h'; cases h'
    cases fl with
    | nx g => exact fun Γ _ => hok .none rfl
    | rt g s =>
      intro Γ s' _ hs
      cases hz : s.res with
      | none => exact absurd (show endD (.rt g s) = .bad by show R.of s.res = _; rw [hz]; rfl) hno
      | some d =>
        refine ⟨d, hok d (by show R.of s.res = _; rw [hz]; rfl), ?_⟩
        have hs := res_eq (pn' := fun _ => 0) hz hs
        cases d with
        | list ds => obtain ⟨p, rfl, _⟩ := hs; exact .l
        | none => cases hs; exact .o
        | bool _ => cases hs; exact .o
        | int _ => cases hs; exact .o
        | str _ => cases hs; exact .o
        | tuple _ => cases hs; exact .o
        | dict _ => cases hs; exact .o
    | bk g => exact (hno rfl).elim
    | ct g => exact (hno rfl).elim
theorem fn_alo {T : List (Addr × Str)} {x qual : Str} {params : Arguments} {body : List Stmt} {scope : Scope} {f : Addr} {fd : FuncData} {N ps : List Str} {k : Nat} {b : Bo} (Fd : FunD K x qual params body scope [] [] f fd) (sc : FnScope N ps scope) (hN : ps.length ≤ N.length)
    (hbody : ∀ (cdv : Value), FunC K x qual params body scope f cdv → ∀ (A : Around) (outer : List Env) (s : Shared) (H : Hp) (E : XK), Room k (A.deeper (PyProof.Rows.envOfC qual scope s.heap.objs.size f cdv)) →
      ∃ t, PSs (cxOf (L2N.CX P w) P w K mg base N qual scope f cdv A outer s H E) body t ∧ Ss K ⟨E, T⟩ t b) :
    FnOk P w K mg base (L2N.CX P w) (k + 1) f fd ps (PO T K (runO N.length ps.length b)) := by
  have len : ∀ c ds r, runO N.length ps.length b c ds = .ok r → ds.length + 1 = ps.length := fun c ds r h => by
    cases e : Nat.beq (ds.length + 1) ps.length with
    | true => exact Nat.eq_of_beq_eq_true e
    | false => unfold runO at h; rw [e] at h; cases h
  refine okC Fd sc (fun vs H Q E h => ?_) fun cdv hcc A outer s H vs Q E hr h => ?_
  · obtain ⟨p, c, ds, c', d, F, h1, h2, _⟩ := h
    have e := h2.lens
    rw [← len c ds _ h1]
    simpa using e
  · obtain ⟨p, c, ds, c', d, F, h1, h2, h3⟩ := h
    obtain ⟨t, ht, hs⟩ := hbody cdv hcc A outer s H E hr
    refine ⟨t, ht, ?_⟩
    have e := h2.lens
    have el : vs.length = ds.length + 1 := by simpa using e
    have hl := len c ds _ h1
    have I0 : Ok ⟨F, H, [p], T⟩ ((.own p (oL K) c :: ds.map (Da K)) ++ List.replicate (N.length - 1 - ds.length) .no) (L2.start N vs) F H := by
      have z := nos_ok h2 (N.length - vs.length)
      unfold L2.start
      rw [show N.length - 1 - ds.length = N.length - vs.length by omega]
      exact z
    have hrun : runO N.length ps.length b c ds = (b (.ls 1 c :: (ds.map .da ++ List.replicate (N.length - 1 - ds.length) .no))).bind endO := by
      unfold runO
      have : Nat.beq (ds.length + 1) ps.length = true := by rw [hl]; exact Nat.beq_refl _
      rw [this]
    rw [h1] at hrun
    have hg : Rel K (fun _ => p) (.ls 1 c :: (ds.map .da ++ List.replicate (N.length - 1 - ds.length) .no)) ((.own p (oL K) c :: ds.map (Da K)) ++ List.replicate (N.length - 1 - ds.length) .no) := .cons ⟨p, rfl, fun _ => rfl⟩ ((Rel.das ds).append (Rel.nos _))
    have fin : ∀ {Γ' : List Sl} {s : Sl} {v : V} {σ' : St} {F' H' : Hp} {g : En}, Rel K (fun _ => p) g Γ' → RelS K (fun _ => p) (resS d) s → own1 g = some c' → Ok ⟨F, H, [p], T⟩ (s :: Γ') (some v :: σ') F' H' → Q v H' := by
      intro Γ' s v σ' F' H' g hg hs ho I'
      obtain ⟨p2, b, hp2⟩ := hg.own (own_eq (own1_eq ho))
      have e2 := ((Ok.pop I').at_own b).1
      have ep : p2 = p := hp2 (show (1 : Nat) ≠ 0 from Nat.one_ne_zero)
      subst ep
      cases Γ' with
      | nil => simp at b
      | cons a Γ2 =>
        cases σ' with
        | nil => simp at e2
        | cons y σ2 =>
          simp only [List.getElem?_cons_zero, Option.some.injEq] at b e2
          subst b e2
          have I2 : Ok ⟨F, H, [p2], T⟩ [s, .own p2 (oL K) c'] [some v, some (.ref p2)] F' H' := by
            obtain ⟨L, h⟩ := I'
            cases h.sl with
            | @cons _ _ f1 _ _ fps u w =>
              cases w with
              | @cons _ _ f2 _ _ fps2 u2 w2 =>
                have nd := h.nd
                rw [List.flatten_cons, List.flatten_cons, ← List.append_assoc, List.nodup_append] at nd
                refine ⟨[f1, f2], OkF.perm h (.cons u (.cons u2 .nil)) (by simpa using nd.1) fun q hq => ?_⟩
                rw [List.flatten_cons, List.flatten_cons, ← List.append_assoc]
                exact List.mem_append_left _ (by simpa using hq)
          exact h3 s v F' H' hs I2
    refine hs (fun _ => p) _ _ ⟨F, H, [p], T⟩ ⟨fun Γ' => ∃ g, Rel K (fun _ => p) g Γ' ∧ own1 g = some c' ∧ d = .none, fun Γ' s => ∃ g, Rel K (fun _ => p) g Γ' ∧ RelS K (fun _ => p) (resS d) s ∧ own1 g = some c', fun _ => False, fun _ => False⟩ hg ⟨fun z => ?_, fun c z => ?_, rfl⟩ (fun fl hf => ?_) _ F H I0 _ (fun Γ' σ' F' H' ⟨g, a1, a2, a3⟩ I' _ => ?_) (fun Γ' s v σ' F' H' ⟨g, a1, a2, a3⟩ I' _ => fin a1 a2 a3 I') (fun _ _ _ _ z => z.elim) (fun _ _ _ _ z => z.elim)
    · rw [z] at hrun; cases hrun
    · rw [z] at hrun; cases hrun
    · rw [hf] at hrun
      have hrun' : endO fl = .ok (c', d) := hrun.symm
      cases fl with
      | nx g =>
        have z : (R.of (own1 g)).bind (fun c => R.ok (c, PyData.none)) = .ok (c', d) := hrun'
        cases ho : own1 g with
        | none => rw [ho] at z; cases z
        | some c2 =>
          rw [ho] at z
          cases z
          exact fun Γ hg => ⟨g, hg, ho, rfl⟩
      | rt g s =>
        have z : (R.of (own1 g)).bind (fun c => (R.of s.res).bind fun d => R.ok (c, d)) = .ok (c', d) := hrun'
        cases ho : own1 g with
        | none => rw [ho] at z; cases z
        | some c2 =>
          rw [ho] at z
          cases hz : s.res with
          | none => have z2 : (R.of s.res).bind (fun d => R.ok (c2, d)) = .ok (c', d) := z; rw [hz] at z2; cases z2
          | some d2 =>
            have z2 : (R.of s.res).bind (fun d => R.ok (c2, d)) = .ok (c', d) := z
            rw [hz] at z2
            cases z2
            exact fun Γ s' hg hs => ⟨g, hg, res_eq hz hs, ho⟩
      | bk g => cases hrun'
      | ct g => cases hrun'
    · subst a3
      exact fin (v := .non) (s := Da K .none) a1 rfl a2 (I'.push Dq.non)
end
end AL
/-! AL7: lists of lists of one's own; a comprehension with two fors. -/
namespace AL
open PySem L2 TL
open Evl (Ex ex_l ex_t)
def mNils (it : Mi) (j : Nat) : Mv := fun g => (it g).bind fun p => match plainAt p.1 [j] with
  | true => .ok (p.1, .ll (List.replicate p.2.length []))
  | false => .bad
section
variable {K : PySem.W.Frag} {pn : Nat → Addr} {Er : Ec} {E1 E2 : XK} {wi wi1 : TI} {it it1 : Mi} {j i : Nat} {te tj : TE} {e ej : Md} {tt tt1 : TT} {t t1 : Mt} {gT gT1 : TG} {tg tg1 : Mg} {vs vs1 : List Nat}
theorem v_nils (hi : Is K Er wi it) : Vs K Er (tLc wi (gName j) tYes (tLst tNil) [j]) (mNils it j) := fun pn g Γ B σ F H hg I rn Q q => by
  obtain ⟨r1, r2⟩ := rn.bind
  refine hi pn g Γ B σ F H hg I r1 _ fun g0 ds Γ0 J F1 H1 e1 hg0 I1 ex1 tn hz D hD => ?_
  have r3 := r2 _ e1
  cases hp : plainAt g0 [j] with
  | false => exact Rn.bad (by simp only [hp] at r3; exact r3)
  | true =>
  have no := no_own hg0 hp
  have res : mNils it j g = .ok (g0, .ll (List.replicate ds.length [])) := by
    show (it g).bind _ = _
    rw [e1]; simp only [R.ok_bind, hp]
  refine ⟨fun i m H' => m = ds.length - i ∧ i ≤ ds.length ∧ ∃ F', Ok B (.own D (oLL K) (List.replicate i []) :: Γ0) (some (.ref D) :: σ) F' H' ∧ Ex F1 F', ⟨_, rfl, Nat.zero_le _, F1, ?_, Ex.refl _⟩, ?_⟩
  · obtain ⟨L, h⟩ := I1
    exact ⟨_, h.pushO hD ⟨[], rfl, upd_same, rfl, Nat.zero_le _, fun j q ds hj => by simp at hj⟩⟩
  rintro i m H' ⟨rfl, hi', F', I', e'⟩
  by_cases hlt : i < ds.length
  · have hx : ds[i]? = some ds[i] := List.getElem?_eq_getElem hlt
    obtain ⟨go, yl⟩ := (tn i F' H' e' I'.ex).1 ds[i] hx
    generalize ds[i] = d at hx yl
    refine .inr ⟨go, fun H2 => ∃ F2, Ok B (.own D (oLL K) (List.replicate (i + 1) []) :: Γ0) (some (.ref D) :: σ) F2 H2 ∧ Ex F1 F2, fun H2 ⟨F2, a, b⟩ => ⟨ds.length - (i + 1), by omega, rfl, hlt, F2, a, b⟩, fun x H3 hy => ?_⟩
    obtain ⟨F3, carry, e3, dx⟩ := yl x H3 hy
    have I3 := carry _ _ _ I'
    obtain ⟨B', Iw, tB, back⟩ := TL.underT (τ := [some (.ref D)]) (Δ := [.own D (oLL K) (List.replicate i [])]) rfl I3
    have lens := Iw.lens
    refine (gp_name (K := K) (j := j) (vs := [j]) (d := d) (List.mem_singleton.mpr rfl)) B' _ F3 H3 x (Iw.wipe (vs := [j])) dx _ fun σ2 es I4 => ⟨es.trans wipe_wipe, ?_⟩
    have es' : L2.wipe σ2 [j] = L2.wipe σ [j] := es.trans wipe_wipe
    refine tp_yes B' σ2 F3 H3 I4 _ fun Γ5 b F5 H5 ⟨a1, a2⟩ I5 e5 => ?_
    subst a1 a2
    rw [if_pos rfl]
    have I6 := back _ _ _ _ (I5.back (Γ' := Γ0) es' (by show (((Γ0.set j .no).set j (Da K d)).set j .no) = Γ0.set j .no; rw [List.set_set, List.set_set]) lens (Iw.plain no e5))
    refine ⟨Nat.zero_le _, fun q hq => ?_⟩
    have I7 := Ok.pushL (K := K) (ds := []) (xs := []) I6 hq (Nat.zero_le _) .nil
    obtain ⟨acc, hA, hl, I8⟩ := Ok.addLL I7 (by rw [List.length_replicate]; omega)
    refine ⟨acc, hA, by rw [hl, List.length_replicate]; exact Nat.lt_of_lt_of_le hlt (Nat.le_trans hz (by decide)), F5, ?_, (e'.trans e3).trans e5⟩
    rw [List.replicate_succ']
    exact I8
  · have ei : i = ds.length := by omega
    subst ei
    exact .inl ⟨(tn _ F' H' e' I'.ex).2 (Nat.le_refl _), q g0 _ Γ0 _ _ F' H' res hg0 ⟨D, rfl⟩ I' (ex1.trans e')⟩
/-- rows[n].append(x) -/
def SD.ll? : SD → Option (List (List PyData))
  | .ll d => some d
  | _ => none
def llAt (g : En) (i : Nat) : Option (List (List PyData)) := (g[i]?).bind SD.ll?
theorem ll_eq {g : En} {d : List (List PyData)} (h : llAt g i = some d) : g[i]? = some (.ll d) := by
  obtain ⟨x, h1, h2⟩ := Option.bind_eq_some_iff.mp h
  rw [h1]
  cases x <;> first | (cases h2; rfl) | cases h2
def appAt (dss : List (List PyData)) (n : Int) (d : PyData) : Option (List (List PyData)) :=
  if 0 ≤ n then (dss[n.toNat]?).bind fun r => if r.length + 1 ≤ wee ∧ noL d = true then some (dss.set n.toNat (r ++ [d])) else none else none
def mAppLL (i : Nat) (ej e : Md) : Md := fun g => (R.of (llAt g i)).bind fun dss => (ej (frzE g)).noE.bind fun p => (R.of (int? p.2)).bind fun n => (e p.1).noE.bind fun q => (R.of (appAt dss n q.2)).bind fun z => .ok (g.set i (.ll z), .none)
theorem d_appLL (hj : Ds K ⟨E1, Er.T⟩ tj ej) (h : Ds K ⟨E2, Er.T⟩ te e) : Ds K Er (tBM K "list" rAppend (tOp (rIxL K) (tVar i) tj) (tCons te tNil)) (mAppLL i ej e) := fun pn g Γ B σ F H hg I rn Q q => by
  obtain ⟨r1, r2⟩ := rn.bind
  obtain ⟨dss, h0⟩ := r1.of
  obtain ⟨r3, r4⟩ := (r2 dss (by rw [h0]; rfl)).bind
  obtain ⟨s, e0, p, es⟩ := hg.get (ll_eq h0)
  subst es
  obtain ⟨F2, Γ2, hg2, I2, ex2, n2⟩ := frz_all hg I
  obtain ⟨g1, fp, ps0, y0, y1, y2, y3, y4⟩ := I.at_own e0
  refine ⟨_, g1, ?_⟩
  obtain ⟨r5, r5'⟩ := r3.noE (E1 := ⟨E1, Er.T⟩) (B' := ⟨F2, H, [], B.T⟩) rn.tt
  refine hj pn (frzE g) Γ2 ⟨F2, H, [], B.T⟩ σ F2 H hg2 I2 r5 _ fun g3 x Γ3 v F3 H3 e3 hg3 I3 ex3 => ?_
  obtain ⟨r6, r7⟩ := (r4 _ (r5' _ e3)).bind
  obtain ⟨n, hn⟩ := r6.of
  have en := int_eq hn
  subst en
  obtain ⟨r8, r9⟩ := (r7 n (by rw [hn]; rfl)).bind
  obtain ⟨v', ev, hv1⟩ := Ok.head I3
  cases ev
  cases hv1
  have I4 := Ok.pop I3
  have k1 : Kp B.T F H H3 := I3.kp ex2
  obtain ⟨r10, r10'⟩ := r8.noE (E1 := ⟨E2, Er.T⟩) (B' := ⟨F2, H, [], B.T⟩) rn.tt
  -- the place is there whatever is appended
  have pl : 0 ≤ n ∧ n.toNat < dss.length := by
    cases he : e g3 with
    | err c => exact absurd (by show (e g3).noE = .bad; rw [he]; rfl) r8.nb
    | bad => exact absurd (by show (e g3).noE = .bad; rw [he]; rfl) r8.nb
    | ok a =>
      obtain ⟨z, hz⟩ := (r9 a (r10' a he)).bind.1.of
      unfold appAt at hz
      split at hz
      · rename_i c
        refine ⟨c, ?_⟩
        obtain ⟨r, hr, _⟩ := Option.bind_eq_some_iff.mp hz
        exact (List.getElem?_eq_some_iff.mp hr).1
      · cases hz
  have hps : n.toNat < ps0.length := by rw [y2]; exact pl.2
  obtain ⟨xs0, x1, _⟩ := y4 n.toNat ps0[n.toNat] dss[n.toNat] (List.getElem?_eq_getElem hps) (List.getElem?_eq_getElem pl.2)
  refine ⟨p, ps0.map V.ref, n, .ref ps0[n.toNat], rfl, rfl, SqL.of (k1.1 p _ y1 reg_lst.1), ?_, Or.inl ⟨rfl, xs0, SqL.of (k1.1 _ _ x1 reg_lst.1)⟩, ?_⟩
  · rw [atI_nat' pl.1 (by rw [List.length_map]; exact hps), List.getElem_map]
  refine h pn g3 Γ3 ⟨F2, H, [], B.T⟩ σ F3 H3 hg3 I4 r10 _ fun g6 d Γ6 v5 F6 H6 e6 hg6 I6 ex6 => ?_
  obtain ⟨r11, _⟩ := (r9 _ (r10' _ e6)).bind
  obtain ⟨z, hz⟩ := r11.of
  have hz' := hz
  unfold appAt at hz'
  rw [if_pos pl.1] at hz'
  obtain ⟨r, hr, hz'⟩ := Option.bind_eq_some_iff.mp hz'
  split at hz'
  · rename_i c
    cases hz'
    have er : r = dss[n.toNat] := by rw [List.getElem?_eq_getElem pl.2] at hr; exact (Option.some.inj hr).symm
    rw [er] at c hz
    obtain ⟨v', ev, hv5⟩ := Ok.head I6
    cases ev
    have k2 : Kp B.T F H H6 := I6.kp ex2
    obtain ⟨L, hI⟩ := I
    obtain ⟨F'', h7, ex7, t1, _⟩ := thaw (K := K) hI ex2 n2 (Ok.pop I6)
    have I7 : Ok B Γ σ F'' H6 := ⟨L, h7⟩
    obtain ⟨x, ex, I8⟩ := I7.lift e0
    rw [g1] at ex
    cases ex
    obtain ⟨xs, hx, hxl, I9⟩ := Ok.appLL (j := n.toNat) (q := ps0[n.toNat]) I8 (k2.1 p _ y1 reg_lst.1) (by rw [List.getElem?_map, List.getElem?_eq_getElem hps]; rfl) pl.2 (t1 d v5 c.2 hv5) c.1
    refine ⟨ps0[n.toNat], xs, v5, rfl, rfl, hx, ?_, ?_⟩
    · rw [hxl]; exact Nat.lt_of_lt_of_le (Nat.lt_of_succ_le c.1) (by decide)
    · have I10 := Ok.store (i := i) I9
      rw [List.set_set, List.set_set, set_id g1] at I10
      refine q (g.set i (.ll _)) .none _ _ F'' _ ?_ (hg.set ⟨p, rfl⟩) (I10.push Dq.non) ex7
      show (R.of (llAt g i)).bind _ = _
      rw [h0]; show (ej (frzE g)).noE.bind _ = _
      rw [r5' _ e3]; show (e g3).noE.bind _ = _
      rw [r10' _ e6]; show (R.of (appAt dss n d)).bind _ = _
      rw [hz]; rfl
  · cases hz'
/-! ### two fors -/
def lcI (tg1 : Mg) (t1 : Mt) (e : Md) (vs1 : List Nat) : List PyData → En → R (En × List PyData) := lcL tg1 t1 e vs1
def lc2L (tg : Mg) (it1 : Mi) (tg1 : Mg) (t1 : Mt) (e : Md) (vs vs1 : List Nat) : List PyData → En → R (En × List PyData)
  | [], g => .ok (g, [])
  | d :: ds, g => match plainAt g vs with
    | false => .bad
    | true => (R.of (tg d (wipeE g vs))).bind fun g1 => (it1 g1).noE.bind fun p => (lcL tg1 t1 e vs1 p.2 p.1).noE.bind fun q => (lc2L tg it1 tg1 t1 e vs vs1 ds (backE g q.1 vs)).bind fun r => .ok (r.1, q.2 ++ r.2)
def mLc2 (it : Mi) (tg : Mg) (it1 : Mi) (tg1 : Mg) (t1 : Mt) (e : Md) (vs vs1 : List Nat) : Mv := fun g => (it g).bind fun p => (lc2L tg it1 tg1 t1 e vs vs1 p.2 p.1).noE.bind fun q => (R.of (few q.2)).bind fun z => .ok (q.1, .ls 0 z)
theorem okR {α : Type} {x : R α} (h : x.noE ≠ .bad) : ∃ a, x = .ok a := by
  cases x with
  | ok a => exact ⟨a, rfl⟩
  | err c => exact absurd rfl h
  | bad => exact absurd rfl h
theorem noE_ok {α : Type} {x : R α} {a : α} (h : x = .ok a) : x.noE = .ok a := by subst h; rfl
theorem bind_ok {α β : Type} {x : R α} {f : α → R β} {b : β} (h : x.bind f = .ok b) : ∃ a, x = .ok a ∧ f a = .ok b := by
  cases x with
  | ok a => exact ⟨a, rfl, h⟩
  | err c => cases h
  | bad => cases h
theorem noE_inv {α : Type} {x : R α} {a : α} (h : x.noE = .ok a) : x = .ok a := by
  cases x with
  | ok b => exact h
  | err c => cases h
  | bad => cases h
theorem of_inv {α : Type} {x : Option α} {a : α} (h : R.of x = .ok a) : x = some a := by
  cases x with
  | some b => cases h; rfl
  | none => cases h
theorem v_lc2 (hi : Is K Er wi it) (hgt : Gt K gT tg vs) (hi1 : Is K ⟨E1, Er.T⟩ wi1 it1) (hgt1 : Gt K gT1 tg1 vs1) (ht1 : Ts K ⟨E2, Er.T⟩ tt1 t1) (he : Ds K ⟨E2, Er.T⟩ te e) : Vs K Er (tLc2 wi gT tYes wi1 gT1 tt1 te vs vs1) (mLc2 it tg it1 tg1 t1 e vs vs1) := fun pn g Γ B σ F H hg I rn Q q => by
  obtain ⟨r1, r2⟩ := rn.bind
  refine hi pn g Γ B σ F H hg I r1 _ fun g0 ds Γ0 J F1 H1 e1 hg0 I1 ex1 tn hz D hD => ?_
  have r3 := r2 _ e1
  obtain ⟨r3a, r3b⟩ := r3.bind
  obtain ⟨qq, hq⟩ := okR r3a.nb
  have hq' : lc2L tg it1 tg1 t1 e vs vs1 ds g0 = .ok qq := hq
  obtain ⟨r3c, _⟩ := (r3b qq (noE_ok hq)).bind
  obtain ⟨zz, hzz⟩ := r3c.of
  obtain ⟨ezz, lzz⟩ := few_le hzz
  have res : mLc2 it tg it1 tg1 t1 e vs vs1 g = .ok (qq.1, .ls 0 qq.2) := by
    show (it g).bind _ = _
    rw [e1]; show (lc2L tg it1 tg1 t1 e vs vs1 ds g0).noE.bind _ = _
    rw [noE_ok hq]; show (R.of (few qq.2)).bind _ = _
    rw [hzz, ezz]; rfl
  refine ⟨fun i m H' => m = ds.length - i ∧ i ≤ ds.length ∧ ∃ acc g1 Γ1 F' rr, Rel K pn g1 Γ1 ∧ lc2L tg it1 tg1 t1 e vs vs1 (ds.drop i) g1 = .ok rr ∧ qq = (rr.1, acc ++ rr.2) ∧ Ok B (.own D (oL K) acc :: Γ1) (some (.ref D) :: σ) F' H' ∧ Ex F1 F',
    ⟨_, rfl, Nat.zero_le _, [], g0, Γ0, F1, qq, hg0, by rw [List.drop_zero]; exact hq, rfl, I1.pushL hD (Nat.zero_le _) .nil, Ex.refl _⟩, ?_⟩
  rintro i m H' ⟨rfl, hi', acc, g1, Γ1, F', rr, hg1, hv, hqq, I', e'⟩
  by_cases hlt : i < ds.length
  · have hx : ds[i]? = some ds[i] := List.getElem?_eq_getElem hlt
    obtain ⟨go, yl⟩ := (tn i F' H' e' I'.ex).1 ds[i] hx
    rw [List.drop_eq_getElem_cons hlt] at hv
    generalize ds[i] = d at hv hx yl
    refine .inr ⟨go, fun H2 => ∃ acc g1 Γ1 F' rr, Rel K pn g1 Γ1 ∧ lc2L tg it1 tg1 t1 e vs vs1 (ds.drop (i + 1)) g1 = .ok rr ∧ qq = (rr.1, acc ++ rr.2) ∧ Ok B (.own D (oL K) acc :: Γ1) (some (.ref D) :: σ) F' H2 ∧ Ex F1 F', fun H2 w => ⟨ds.length - (i + 1), by omega, rfl, hlt, w⟩, fun x H3 hy => ?_⟩
    obtain ⟨F3, carry, e3, dx⟩ := yl x H3 hy
    have I3 := carry _ _ _ I'
    rw [lc2L] at hv
    cases hp : plainAt g1 vs with
    | false => simp only [hp] at hv; cases hv
    | true =>
    simp only [hp] at hv
    have no := no_own hg1 hp
    obtain ⟨gi, hgi0, hv⟩ := bind_ok hv
    have htg := of_inv hgi0
    obtain ⟨pp, hpp, hv⟩ := bind_ok hv
    have hit1 := noE_inv hpp
    obtain ⟨qi, hqi, hv⟩ := bind_ok hv
    have hlc := noE_inv hqi
    obtain ⟨rn2, hrn2, hv⟩ := bind_ok hv
    cases hv
    obtain ⟨Γi, hgi, hG⟩ := hgt pn d _ gi _ htg (hg1.wipe vs)
    obtain ⟨B', Iw, tB, back⟩ := TL.underT (τ := [some (.ref D)]) (Δ := [.own D (oL K) acc]) rfl I3
    have pl : ∀ {F' H' : Hp}, Ex F3 F' → ∀ j ∈ vs, ∀ s, Γ1[j]? = some s → ∃ x, σ[j]? = some x ∧ SlOk F' H' x s [] := fun e => Iw.plain no e
    have lens := Iw.lens
    refine hG B' _ F3 H3 x (Iw.wipe (vs := vs)) dx _ fun σ2 es I4 => ⟨es.trans wipe_wipe, ?_⟩
    have es' : L2.wipe σ2 vs = L2.wipe σ vs := es.trans wipe_wipe
    have lens2 : σ2.length = σ.length := by
      have := congrArg List.length es'
      rwa [L2.wipe_length, L2.wipe_length] at this
    show wi1 σ2 H3 _
    refine hi1 pn gi Γi B' σ2 F3 H3 hgi I4 (Rn.yes (tB.trans rn.tt) hit1) _ fun g6 ys Γ6 J1 F6 H6 e6 hg6 I6 ex6 tn1 _ => ?_
    rw [hit1] at e6
    cases e6
    have S6 := back _ _ _ _ I6
    refine ⟨fun j k H' => k = ys.length - j ∧ j ≤ ys.length ∧ ∃ part g7 Γ7 F' r7, Rel K pn g7 Γ7 ∧ lcL tg1 t1 e vs1 (ys.drop j) g7 = .ok r7 ∧ qi = (r7.1, part ++ r7.2) ∧ Ok B (.own D (oL K) (acc ++ part) :: Γ7) (some (.ref D) :: σ2) F' H' ∧ Ex F6 F', ⟨_, rfl, Nat.zero_le _, [], g6, Γ6, F6, qi, hg6, by rw [List.drop_zero]; exact hlc, rfl, by rw [List.append_nil]; exact S6, Ex.refl _⟩, ?_⟩
    rintro j k Hj ⟨rfl, hj', part, g7, Γ7, Fj, r7, hg7, hv7, hqi7, Ij, ej⟩
    have eA : Ex F3 Fj := ex6.trans ej
    by_cases hjl : j < ys.length
    · have hy1 : ys[j]? = some ys[j] := List.getElem?_eq_getElem hjl
      obtain ⟨go1, yl1⟩ := (tn1 j Fj Hj ej Ij.ex).1 ys[j] hy1
      rw [List.drop_eq_getElem_cons hjl] at hv7
      generalize ys[j] = y at hv7 hy1 yl1
      refine .inr ⟨go1, fun H2 => ∃ part g7 Γ7 F' r7, Rel K pn g7 Γ7 ∧ lcL tg1 t1 e vs1 (ys.drop (j + 1)) g7 = .ok r7 ∧ qi = (r7.1, part ++ r7.2) ∧ Ok B (.own D (oL K) (acc ++ part) :: Γ7) (some (.ref D) :: σ2) F' H2 ∧ Ex F6 F', fun H2 w => ⟨ys.length - (j + 1), by omega, rfl, hjl, w⟩, fun x1 H7 hy7 => ?_⟩
      obtain ⟨F7, carry1, e7, dx1⟩ := yl1 x1 H7 hy7
      have I7 := carry1 _ _ _ Ij
      rw [lcL] at hv7
      cases hp1 : plainAt g7 vs1 with
      | false => simp only [hp1] at hv7; cases hv7
      | true =>
      simp only [hp1] at hv7
      have no1 := no_own hg7 hp1
      obtain ⟨gj, hgj0, hv7⟩ := bind_ok hv7
      have htg1 := of_inv hgj0
      obtain ⟨pt, hpt, hv7⟩ := bind_ok hv7
      have ht0 := noE_inv hpt
      obtain ⟨Γj, hgj, hGj⟩ := hgt1 pn y _ gj _ htg1 (hg7.wipe vs1)
      obtain ⟨B2, Iv, tB2, back2⟩ := TL.underT (τ := [some (.ref D)]) (Δ := [.own D (oL K) (acc ++ part)]) rfl I7
      have pl2 : ∀ {F' H' : Hp}, Ex F7 F' → ∀ j ∈ vs1, ∀ s, Γ7[j]? = some s → ∃ x, σ2[j]? = some x ∧ SlOk F' H' x s [] := fun e => Iv.plain no1 e
      have lensv := Iv.lens
      refine hGj B2 _ F7 H7 x1 (Iv.wipe (vs := vs1)) dx1 _ fun σ3 es3 I8 => ⟨es3.trans wipe_wipe, ?_⟩
      have es3' : L2.wipe σ3 vs1 = L2.wipe σ2 vs1 := es3.trans wipe_wipe
      have lens3 : σ3.length = σ2.length := by
        have := congrArg List.length es3'
        rwa [L2.wipe_length, L2.wipe_length] at this
      refine ht1 pn gj Γj B2 σ3 F7 H7 hgj I8 (Rn.yes (tB2.trans rn.tt) ht0) _ fun g9 b Γ9 F9 H9 e9 hg9 I9 ex9 => ?_
      rw [ht0] at e9
      cases e9
      have ll9 : Γ7.length = Γ9.length := by rw [← lensv, ← I9.lens, lens3]
      cases b with
      | false =>
        show ∃ part, _
        exact ⟨part, backE g7 g9 vs1, backL Γ7 Γ9 vs1, F9, r7, hg7.back hg9 vs1, hv7, hqi7, back2 _ _ _ _ (I9.back es3' (back_wipe ll9) (by rw [backL_len, ← ll9]; exact lensv) fun j hj s z => pl2 ex9 j hj s (by rw [backL_get ll9, if_pos hj] at z; exact z)), (ej.trans e7).trans ex9⟩
      | true =>
        show te σ3 H9 _
        obtain ⟨pe, hpe, hv7⟩ := bind_ok hv7
        have he0 := noE_inv hpe
        obtain ⟨rl, hrl, hv7⟩ := bind_ok hv7
        cases hv7
        refine he pn g9 Γ9 B2 σ3 F9 H9 hg9 I9 (Rn.yes (tB2.trans rn.tt) he0) _ fun g10 z Γ10 v10 F10 H10 e10 hg10 I10 ex10 => ?_
        rw [he0] at e10
        cases e10
        obtain ⟨z', ez, dz⟩ := Ok.head I10
        cases ez
        have I10' := Ok.pop I10
        have ll10 : Γ7.length = Γ10.length := by rw [← lensv, ← I10'.lens, lens3]
        have I11 := back2 _ _ _ _ (I10'.back es3' (back_wipe ll10) (by rw [backL_len, ← ll10]; exact lensv) fun j hj s z => pl2 (ex9.trans ex10) j hj s (by rw [backL_get ll10, if_pos hj] at z; exact z))
        have lp : (acc ++ part).length + 1 ≤ wee := by
          have a1 := congrArg (fun a => a.2.length) hqq
          have a2 := congrArg (fun a => a.2.length) hqi7
          simp only [List.length_append, List.length_cons] at a1 a2 ⊢
          omega
        obtain ⟨ac, _, hAc, hlc', I12⟩ := Ok.appL I11 dz lp
        refine ⟨ac, hAc, by rw [hlc']; exact Nat.lt_of_lt_of_le (Nat.lt_of_succ_le lp) (by decide), part ++ [z], backE g7 g10 vs1, backL Γ7 Γ10 vs1, F10, rl, hg7.back hg10 vs1, hrl, by rw [hqi7]; simp, ?_, ((ej.trans e7).trans ex9).trans ex10⟩
        rw [← List.append_assoc]
        exact I12
    · have ej2 : j = ys.length := by omega
      subst ej2
      rw [List.drop_length, lcL] at hv7
      cases hv7
      refine .inl ⟨(tn1 _ Fj Hj ej Ij.ex).2 (Nat.le_refl _), ?_⟩
      obtain ⟨B3, Iu, back3⟩ := TL.under (τ := [some (.ref D)]) (Δ := [.own D (oL K) (acc ++ part)]) rfl Ij
      have ll7 : Γ1.length = Γ7.length := by rw [← lens, ← Iu.lens, lens2]
      have hq2 : qi = (g7, part) := by rw [hqi7, List.append_nil]
      subst hq2
      refine ⟨acc ++ part, backE g1 g7 vs, backL Γ1 Γ7 vs, Fj, rn2, hg1.back hg7 vs, hrn2, by rw [hqq]; simp, back3 _ _ _ _ (Iu.back es' (back_wipe ll7) (by rw [backL_len, ← ll7]; exact lens) fun j hj s z => pl eA j hj s (by rw [backL_get ll7, if_pos hj] at z; exact z)), (e'.trans e3).trans eA⟩
  · have ei : i = ds.length := by omega
    subst ei
    rw [List.drop_length, lc2L] at hv
    cases hv
    have hq2 : qq = (g1, acc) := by rw [hqq, List.append_nil]
    refine .inl ⟨(tn _ F' H' e' I'.ex).2 (Nat.le_refl _), q g1 (.ls 0 acc) Γ1 _ _ F' H' (by rw [res, hq2]) hg1 ⟨D, rfl, fun z => absurd rfl z⟩ I' (ex1.trans e')⟩
end
end AL
/-! AL8: [x] * n, a walk down a range, texts. -/
namespace AL
open PySem L2 TL
open Evl (Ex ex_l ex_t)
def rep? (ds : List PyData) (n : Int) : Option (List PyData) := if -9223372036854775808 ≤ n ∧ n < 9223372036854775808 ∧ ds.length * n.toNat ≤ wee then some (List.replicate n.toNat ds).flatten else none
def mRep (a : Mv) (b : Md) : Mv := fun g => (a g).bind fun p => (R.of p.2.ls?).bind fun c => (b p.1).bind fun q => (R.of (int? q.2)).bind fun n => (R.of (rep? c.2 n)).bind fun z => .ok (q.1, .ls 0 z)
section
variable {K : PySem.W.Frag} {pn : Nat → Addr} {Er : Ec} {E1 E2 : XK} {ta tb te : TE} {tr : TA} {a : Mv} {b e : Md} {es : Ma}
theorem v_rep (ha : Vs K Er ta a) (hb : Ds K Er tb b) : Vs K Er (tOp rRep ta tb) (mRep a b) := fun pn g Γ B σ F H hg I rn Q q => by
  obtain ⟨r1, r2⟩ := rn.bind
  refine ha pn g Γ B σ F H hg I r1 _ fun g1 x Γ1 s v F1 H1 e1 hg1 hs I1 ex1 => ?_
  obtain ⟨r3, r4⟩ := (r2 _ e1).bind
  obtain ⟨⟨t, ds⟩, hc⟩ := r3.of
  have r5 := r4 (t, ds) (by rw [hc]; rfl)
  have exx := ls_eq hc
  subst exx
  obtain ⟨p, rfl, _⟩ := hs
  obtain ⟨r6, r7⟩ := r5.bind
  refine hb.under (τ := [some v]) (Δ := [.own p (oL K) ds]) rfl hg1 I1 r6 fun g2 y Γ2 w F2 H2 e2 hg2 I2 ex2 => ?_
  obtain ⟨r8, r9⟩ := (r7 _ e2).bind
  obtain ⟨n, hn⟩ := r8.of
  have r10 := r9 n (by rw [hn]; rfl)
  have en := int_eq hn
  subst en
  obtain ⟨z, hz⟩ := r10.bind.1.of
  have hz' := hz
  unfold rep? at hz'
  split at hz'
  · rename_i c
    cases hz'
    obtain ⟨w', h5, hw⟩ := Ok.head (Ok.pop I2)
    cases h5
    cases hw
    have I5 : Ok B Γ2 σ F2 H2 := Ok.pop (Ok.pop I2)
    obtain ⟨L, I3⟩ := I2
    cases I3.sl with
    | cons u1 u2 =>
      cases u1 with
      | own ho =>
        obtain ⟨_, xs, e3, _, e4⟩ := ho
        have hl : (List.replicate n.toNat ds).flatten.length ≤ wee := by
          rw [List.length_flatten, List.map_replicate, List.sum_replicate_nat, Nat.mul_comm]; exact c.2.2
        refine ⟨p, n, xs, rfl, rfl, e3, by omega, by omega, Nat.le_trans (by rw [e4.len]; exact c.2.2) (by decide), fun p' hp => ?_⟩
        refine q g2 (.ls 0 _) _ _ _ F2 _ ?_ hg2 ⟨p', rfl, fun z => absurd rfl z⟩ (I5.pushL hp hl (rep_all e4)) (ex1.trans ex2)
        show (a g).bind _ = _
        rw [e1]; show (b g1).bind _ = _
        rw [e2]; show (R.of (rep? ds n)).bind _ = _
        rw [hz]; rfl
  · cases hz'
end
end AL
/-! AL9: a dict of one's own from ints to ints. -/
namespace AL
open PySem L2 TL
open Evl (Ex ex_l ex_t)
/-- look-up, storing -/
def vI (l : List (Int × Int)) (k : Int) : Option Int := (l.find? fun z => decide (z.1 = k)).map (·.2)
def pI (l : List (Int × Int)) (k v : Int) : List (Int × Int) :=
  if (l.any fun z => decide (z.1 = k)) = true then l.map (fun z => if z.1 = k then (z.1, v) else z) else l ++ [(k, v)]
theorem valV_I (l : List (Int × Int)) (k : Int) : valV (l.map eKI) (Sum.inl k) = (vI l k).map V.int := by
  induction l with
  | nil => rfl
  | cons z r ih =>
    by_cases h : z.1 = k
    · rw [List.map_cons, valV_pos (by simp [eKI, h])]
      simp [vI, List.find?_cons, h, eKI]
    · rw [List.map_cons, valV_neg (by simp [eKI, h]), ih]
      simp [vI, List.find?_cons, h]
theorem putK_I (l : List (Int × Int)) (k v : Int) : putK (l.map eKI) (Sum.inl k) (V.int v) = (pI l k v).map eKI := by
  have e : ((l.map eKI).any fun kv => decide (kv.1 = Sum.inl k)) = l.any fun z => decide (z.1 = k) := by
    rw [List.any_map]
    congr 1
    funext z
    simp [eKI]
  unfold putK pI
  rw [e]
  split
  · rw [List.map_map, List.map_map]
    apply List.map_congr_left
    intro z _
    by_cases h : z.1 = k
    · simp [eKI, h]
    · simp [eKI, h]
  · rw [List.map_append]; rfl
theorem pI_len (l : List (Int × Int)) (k v : Int) : (pI l k v).length ≤ l.length + 1 := by
  unfold pI
  split
  · rw [List.length_map]; omega
  · rw [List.length_append]; exact Nat.le_refl _
def diL : List (PyData × PyData) → Option (List (Int × Int))
  | [] => some []
  | (.int a, .int b) :: r => (diL r).map ((a, b) :: ·)
  | _ :: _ => none
theorem diL_map (l : List (Int × Int)) : diL (l.map eKD) = some l := by
  induction l with
  | nil => rfl
  | cons z r ih => show (diL (r.map eKD)).map _ = _; rw [ih]; rfl
def di? : PyData → Option (List (Int × Int))
  | .dict kvs => diL kvs
  | _ => none
def mkI (l : List (Int × Int)) : PyData := .dict (l.map eKD)
@[simp] theorem di_mk (l : List (Int × Int)) : di? (mkI l) = some l := diL_map l
def SD.di : SD → Option (Nat × List (Int × Int))
  | .ow t 0 d => (di? d).map fun l => (t, l)
  | _ => none
def diAt (g : En) (i : Nat) : Option (Nat × List (Int × Int)) := (g[i]?).bind SD.di
def fewI (l : List (Int × Int)) : Option (List (Int × Int)) := if l.length ≤ wee then some l else none
theorem fewI_le {xs z : List (Int × Int)} (h : fewI xs = some z) : z = xs ∧ xs.length ≤ wee := by
  unfold fewI at h
  split at h
  · exact ⟨(Option.some.inj h).symm, by assumption⟩
  · cases h
/-- d[k] -/
def mDGet (i : Nat) (e : Md) : Md := fun g => (R.of (diAt g i)).bind fun _ => (e g).bind fun p => (R.of (int? p.2)).bind fun k => (R.of (diAt p.1 i)).bind fun l => (R.of (vI l.2 k)).bind fun v => .ok (p.1, .int v)
/-- {k: v for x in ..} -/
def dcL (tg : Mg) (ek ev : Md) (vs : List Nat) : List PyData → En → List (Int × Int) → R (En × List (Int × Int))
  | [], g, l => .ok (g, l)
  | d :: ds, g, l => match plainAt g vs with
    | false => .bad
    | true => (R.of (tg d (wipeE g vs))).bind fun g1 => (ek g1).noE.bind fun p => (R.of (int? p.2)).bind fun k => (ev p.1).noE.bind fun q => (R.of (int? q.2)).bind fun v => dcL tg ek ev vs ds (backE g q.1 vs) (pI l k v)
def mDc (it : Mi) (tg : Mg) (ek ev : Md) (vs : List Nat) : Mv := fun g => (it g).bind fun p => (dcL tg ek ev vs p.2 p.1 []).noE.bind fun q => .ok (q.1, .ow 0 0 (mkI q.2))
/-- d[k] += v -/
def mDAug (i : Nat) (e ev : Md) : Bo := fun g => (R.of (diAt g i)).bind fun _ => (e g).bind fun p => (R.of (int? p.2)).bind fun k => (R.of (diAt p.1 i)).bind fun l => (R.of (vI l.2 k)).bind fun a => (ev p.1).bind fun q => (R.of (int? q.2)).bind fun b => (R.of (diAt q.1 i)).bind fun m => (R.of (fewI (pI m.2 k (a + b)))).bind fun z => .ok (.nx (q.1.set i (.ow m.1 0 (mkI z))))
section
variable {K : PySem.W.Frag} {pn : Nat → Addr} {Er : Ec} {E1 E2 : XK} {ta tb te ty tv tk : TE} {tr : TA} {e ek ev : Md} {i : Nat} {g : En} {Γ : List Sl} {B : Bs} {σ : St} {F H : Hp} {wi : TI} {it : Mi} {gT : TG} {tg : Mg} {vs : List Nat}
theorem diAt_eq {t : Nat} {l : List (Int × Int)} (h : diAt g i = some (t, l)) : ∃ d, g[i]? = some (.ow t 0 d) ∧ di? d = some l := by
  obtain ⟨x, h1, h2⟩ := Option.bind_eq_some_iff.mp h
  cases x with
  | ow t' n d =>
    cases n with
    | zero =>
      obtain ⟨l', h3, h4⟩ := Option.map_eq_some_iff.mp h2
      cases h4
      exact ⟨d, h1, h3⟩
    | succ n => cases h2
  | no => cases h2
  | da _ => cases h2
  | ls _ _ => cases h2
  | ll _ => cases h2
theorem Rel.di {t : Nat} {l : List (Int × Int)} (hg : Rel K pn g Γ) (h : diAt g i = some (t, l)) : ∃ p d, Γ[i]? = some (.own p (owK K 0) d) ∧ di? d = some l ∧ (t ≠ 0 → p = pn t) := by
  obtain ⟨d, h1, h2⟩ := diAt_eq h
  obtain ⟨s, e1, p, e2, ht⟩ := hg.get h1
  subst e2
  exact ⟨p, d, e1, h2, ht⟩
theorem Ok.atDi {p : Addr} {d : PyData} {l : List (Int × Int)} (I : Ok B Γ σ F H) (e : Γ[i]? = some (.own p (owK K 0) d)) (hd : di? d = some l) : σ[i]? = some (some (.ref p)) ∧ H p = some (.dK (l.map eKI)) ∧ l.length ≤ wee := by
  obtain ⟨h1, fp, _, o, h2, l', h3, h4, h5⟩ := I.at_own e
  subst h3 h4
  rw [show di? (.dict (l'.map eKD)) = some l' from diL_map l'] at hd
  cases hd
  exact ⟨h1, h2, h5⟩
theorem d_dget (h : Ds K Er ty e) : Ds K Er (tDGet (tVar i) ty) (mDGet i e) := fun pn g Γ B σ F H hg I rn Q q => by
  obtain ⟨r1, r2⟩ := rn.bind
  obtain ⟨⟨t0, l0⟩, h0⟩ := r1.of
  have r3 := r2 (t0, l0) (by rw [h0]; rfl)
  obtain ⟨p0, d0, e0, hd0, _⟩ := hg.di h0
  obtain ⟨g1, _⟩ := Ok.atDi I e0 hd0
  refine ⟨.ref p0, g1, ?_⟩
  obtain ⟨r4, r5⟩ := r3.bind
  refine h pn g Γ B σ F H hg I r4 _ fun g4 x Γ1 v F1 H1 e1 hg1 I1 ex1 => ?_
  obtain ⟨r6, r7⟩ := (r5 _ e1).bind
  obtain ⟨k, hk⟩ := r6.of
  have r8 := r7 k (by rw [hk]; rfl)
  have ek := int_eq hk
  subst ek
  obtain ⟨r9, r10⟩ := r8.bind
  obtain ⟨⟨t, l⟩, h1⟩ := r9.of
  obtain ⟨r11, _⟩ := (r10 (t, l) (by rw [h1]; rfl)).bind
  obtain ⟨a, ha⟩ := r11.of
  obtain ⟨v', ev, hv⟩ := Ok.head I1
  cases ev
  cases hv
  have I2 := Ok.pop I1
  obtain ⟨p, d, e2, hd, ht⟩ := hg1.di h1
  obtain ⟨a1, a2, _⟩ := Ok.atDi I2 e2 hd
  rw [g1] at a1
  cases a1
  refine ⟨p0, .int a, rfl, ?_, ?_⟩
  · have := DGet.k (k := Sum.inl k) a2
    rw [valV_I, show vI l k = some a from ha] at this
    exact this
  · refine q g4 (.int a) Γ1 _ F1 H1 ?_ hg1 (I2.push (Dq.int a)) ex1
    show (R.of (diAt g i)).bind _ = _
    rw [h0]; show (e g).bind _ = _
    rw [e1]; show (R.of (diAt g4 i)).bind _ = _
    rw [h1]; show (R.of (vI l k)).bind _ = _
    rw [show vI l k = some a from ha]; rfl
/-- the object in a slot written anew -/
theorem Ok.wrO {p : Addr} {n : Nat} {d d' : PyData} {o : HO} (I : Ok B Γ σ F H) (e : Γ[i]? = some (.own p (owK K n) d)) (h1 : ∀ {H : Hp} {fp : List Addr}, (owK K n).O F H p fp d → fp = [p]) (hO : (owK K n).O F (upd H p o) p [p] d') :
    Ok B (Γ.set i (.own p (owK K n) d')) σ F (upd H p o) := by
  obtain ⟨x, ex, I3⟩ := I.lift e
  have eg := (I.at_own e).1
  rw [ex] at eg
  cases eg
  have I4 : Ok B (.own p (owK K n) d' :: Γ.set i .no) (some (.ref p) :: σ.set i none) F (upd H p o) := by
    obtain ⟨L, h⟩ := I3
    cases h.sl with
    | @cons x s fp σ Γ fps u w =>
      cases u with
      | own ho =>
        have e1 := h1 ho
        subst e1
        refine ⟨[p] :: fps, ?_, h.nd, h.fz, ?_, h.bF, h.bG, ?_, ?_, h.bO⟩
        · refine .cons (.own hO) (w.frame (Ex.refl _) fun q z => upd_ne fun e => ?_)
          have nd := h.nd
          rw [List.flatten_cons, List.nodup_append] at nd
          exact nd.2.2 p (List.mem_singleton.mpr rfl) q z e.symm
        · intro q o z
          have ne : q ≠ p := fun e => by
            have := h.fz p (by rw [List.flatten_cons]; exact List.mem_append_left _ (List.mem_singleton.mpr rfl))
            rw [e, this] at z; cases z
          rw [upd_ne ne]; exact h.ex q o z
        · intro q o a b c
          have ne : q ≠ p := fun e => by
            subst e
            rcases h.bO q (by rw [List.flatten_cons]; exact List.mem_append_left _ (List.mem_singleton.mpr rfl)) with y | y
            · exact b y
            · rw [y] at a; cases a
          rw [upd_ne ne]; exact h.bK q o a b c
        · refine ⟨fun q o a => ?_, by
            obtain ⟨o', e'⟩ := (owK K n).there ho p (List.mem_singleton.mpr rfl)
            exact h.bD.2.upd e' ((owK K n).regs ho p (List.mem_singleton.mpr rfl) o' e')⟩
          by_cases e : q = p
          · subst e; exact ⟨_, upd_same⟩
          · rw [upd_ne e]; exact h.bD.1 q o a
  have I5 := Ok.store (i := i) I4
  rw [List.set_set, List.set_set, set_id ex] at I5
  exact I5
theorem s_daug (h : Ds K Er ty e) (hv : Ds K Er tv ev) : Ss K Er (sDAug (tVar i) ty tv rAdd) (mDAug i e ev) := fun pn g Γ B D hg rn w => fun σ F H I D' hn hr hb hc => by
  obtain ⟨r1, r2⟩ := rn.bind
  obtain ⟨⟨t0, l0⟩, h0⟩ := r1.of
  have r3 := r2 (t0, l0) (by rw [h0]; rfl)
  obtain ⟨p0, d0, e0, hd0, _⟩ := hg.di h0
  obtain ⟨g1, _⟩ := Ok.atDi I e0 hd0
  refine ⟨.ref p0, g1, ?_⟩
  obtain ⟨r4, r5⟩ := r3.bind
  refine h pn g Γ B σ F H hg I r4 _ fun g4 x Γ1 v F1 H1 e1 hg1 I1 ex1 => ?_
  obtain ⟨r6, r7⟩ := (r5 _ e1).bind
  obtain ⟨k, hk⟩ := r6.of
  have r8 := r7 k (by rw [hk]; rfl)
  have ek := int_eq hk
  subst ek
  obtain ⟨r9, r10⟩ := r8.bind
  obtain ⟨⟨t, l⟩, h1⟩ := r9.of
  obtain ⟨r11, r12⟩ := (r10 (t, l) (by rw [h1]; rfl)).bind
  obtain ⟨a, ha⟩ := r11.of
  have r13 := r12 a (by rw [show vI l k = some a from ha]; rfl)
  obtain ⟨v', ev', hv'⟩ := Ok.head I1
  cases ev'
  cases hv'
  have I2 := Ok.pop I1
  obtain ⟨p, d, e2, hd, ht⟩ := hg1.di h1
  obtain ⟨a1, a2, _⟩ := Ok.atDi I2 e2 hd
  rw [g1] at a1
  cases a1
  refine ⟨p0, .int a, rfl, ?_, ?_⟩
  · have := DGet.k (k := Sum.inl k) a2
    rw [valV_I, show vI l k = some a from ha] at this
    exact this
  obtain ⟨r14, r15⟩ := r13.bind
  refine hv pn g4 Γ1 B σ F1 H1 hg1 I2 r14 _ fun g5 y Γ2 u F2 H2 e5 hg2 I5 ex2 => ?_
  obtain ⟨r16, r17⟩ := (r15 _ e5).bind
  obtain ⟨b, hb'⟩ := r16.of
  have r18 := r17 b (by rw [hb']; rfl)
  have eb := int_eq hb'
  subst eb
  obtain ⟨r19, r20⟩ := r18.bind
  obtain ⟨⟨t2, m⟩, h2⟩ := r19.of
  obtain ⟨r21, _⟩ := (r20 (t2, m) (by rw [h2]; rfl)).bind
  obtain ⟨z, hz⟩ := r21.of
  obtain ⟨ez, lz⟩ := fewI_le hz
  obtain ⟨v', ev', hv'⟩ := Ok.head I5
  cases ev'
  cases hv'
  have I6 := Ok.pop I5
  obtain ⟨p2, d2, e6, hd2, ht2⟩ := hg2.di h2
  obtain ⟨b1, b2, b3⟩ := Ok.atDi I6 e6 hd2
  rw [g1] at b1
  cases b1
  refine ⟨a, b, rfl, rfl, upd H2 p0 (.dK (z.map eKI)), ?_, ?_⟩
  · have := DPut.k (k := Sum.inl k) (v := V.int (a + b)) b2 (by rw [List.length_map]; exact Nat.lt_of_le_of_lt b3 (by decide))
    rw [putK_I, ← ez] at this
    exact this
  · refine hn _ σ F2 _ (w (.nx (g5.set i (.ow t2 0 (mkI z)))) ?_ _ (hg2.set ⟨p0, rfl, ht2⟩)) (Ok.wrO (o := .dK (z.map eKI)) I6 e6 (fun ho => ho.1) ⟨rfl, _, upd_same, z, rfl, rfl, by rw [ez]; exact lz⟩) (ex1.trans ex2)
    show (R.of (diAt g i)).bind _ = _
    rw [h0]; show (e g).bind _ = _
    rw [e1]; show (R.of (diAt g4 i)).bind _ = _
    rw [h1]; show (R.of (vI l k)).bind _ = _
    rw [show vI l k = some a from ha]; show (ev g4).bind _ = _
    rw [e5]; show (R.of (diAt g5 i)).bind _ = _
    rw [h2]; show (R.of (fewI (pI m k (a + b)))).bind _ = _
    rw [show fewI (pI m k (a + b)) = some z from hz]; rfl
theorem dcL_len : ∀ {ds : List PyData} {g : En} {l : List (Int × Int)} {r : En × List (Int × Int)}, dcL tg ek ev vs ds g l = .ok r → r.2.length ≤ l.length + ds.length
  | [], g, l, r, h => by cases h; exact Nat.le_refl _
  | d :: ds, g, l, r, h => by
    rw [dcL] at h
    cases hp : plainAt g vs with
    | false => simp only [hp] at h; cases h
    | true =>
      simp only [hp] at h
      obtain ⟨_, _, h⟩ := bind_ok h
      obtain ⟨_, _, h⟩ := bind_ok h
      obtain ⟨k, _, h⟩ := bind_ok h
      obtain ⟨_, _, h⟩ := bind_ok h
      obtain ⟨v, _, h⟩ := bind_ok h
      have := dcL_len h
      have := pI_len l k v
      simp only [List.length_cons]
      omega
theorem v_dc (hi : Is K Er wi it) (hgt : Gt K gT tg vs) (hk : Ds K ⟨E1, Er.T⟩ tk ek) (hv : Ds K ⟨E1, Er.T⟩ tv ev) : Vs K Er (tDc wi gT tYes tk tv vs) (mDc it tg ek ev vs) := fun pn g Γ B σ F H hg I rn Q q => by
  obtain ⟨r1, r2⟩ := rn.bind
  refine hi pn g Γ B σ F H hg I r1 _ fun g0 ds Γ0 J F1 H1 e1 hg0 I1 ex1 tn hz D hD => ?_
  obtain ⟨r3, _⟩ := (r2 _ e1).bind
  obtain ⟨qq, hq⟩ := okR r3.nb
  have hq' : dcL tg ek ev vs ds g0 [] = .ok qq := hq
  have res : mDc it tg ek ev vs g = .ok (qq.1, .ow 0 0 (mkI qq.2)) := by
    show (it g).bind _ = _
    rw [e1]; show (dcL tg ek ev vs ds g0 []).noE.bind _ = _
    rw [noE_ok hq']; rfl
  refine ⟨fun i m H' => m = ds.length - i ∧ i ≤ ds.length ∧ ∃ l g1 Γ1 F', l.length ≤ i ∧ Rel K pn g1 Γ1 ∧ dcL tg ek ev vs (ds.drop i) g1 l = .ok qq ∧ Ok B (.own D (owK K 0) (mkI l) :: Γ1) (some (.ref D) :: σ) F' H' ∧ Ex F1 F',
    ⟨_, rfl, Nat.zero_le _, [], g0, Γ0, F1, Nat.zero_le _, hg0, by rw [List.drop_zero]; exact hq', ?_, Ex.refl _⟩, ?_⟩
  · obtain ⟨L, h⟩ := I1
    exact ⟨_, h.pushO hD ⟨rfl, _, upd_same, [], rfl, rfl, Nat.zero_le _⟩⟩
  rintro i m H' ⟨rfl, hi', l, g1, Γ1, F', hl, hg1, hvv, I', e'⟩
  by_cases hlt : i < ds.length
  · have hx : ds[i]? = some ds[i] := List.getElem?_eq_getElem hlt
    obtain ⟨go, yl⟩ := (tn i F' H' e' I'.ex).1 ds[i] hx
    rw [List.drop_eq_getElem_cons hlt] at hvv
    generalize ds[i] = d at hvv hx yl
    refine .inr ⟨go, fun H2 => ∃ l g1 Γ1 F', l.length ≤ i + 1 ∧ Rel K pn g1 Γ1 ∧ dcL tg ek ev vs (ds.drop (i + 1)) g1 l = .ok qq ∧ Ok B (.own D (owK K 0) (mkI l) :: Γ1) (some (.ref D) :: σ) F' H2 ∧ Ex F1 F', fun H2 w => ⟨ds.length - (i + 1), by omega, rfl, hlt, w⟩, fun x H3 hy => ?_⟩
    obtain ⟨F3, carry, e3, dx⟩ := yl x H3 hy
    have I3 := carry _ _ _ I'
    rw [dcL] at hvv
    cases hp : plainAt g1 vs with
    | false => simp only [hp] at hvv; cases hvv
    | true =>
    simp only [hp] at hvv
    have no := no_own hg1 hp
    obtain ⟨gi, hgi0, hvv⟩ := bind_ok hvv
    have htg := of_inv hgi0
    obtain ⟨pk, hpk, hvv⟩ := bind_ok hvv
    have hek := noE_inv hpk
    obtain ⟨k, hkk, hvv⟩ := bind_ok hvv
    have ekk := int_eq (of_inv hkk)
    obtain ⟨pv, hpv, hvv⟩ := bind_ok hvv
    have hev := noE_inv hpv
    obtain ⟨v, hvk, hvv⟩ := bind_ok hvv
    have evk := int_eq (of_inv hvk)
    obtain ⟨Γi, hgi, hG⟩ := hgt pn d _ gi _ htg (hg1.wipe vs)
    obtain ⟨B', Iw, tB, back⟩ := TL.underT (τ := [some (.ref D)]) (Δ := [.own D (owK K 0) (mkI l)]) rfl I3
    have pl : ∀ {F' H' : Hp}, Ex F3 F' → ∀ j ∈ vs, ∀ s, Γ1[j]? = some s → ∃ x, σ[j]? = some x ∧ SlOk F' H' x s [] := fun e => Iw.plain no e
    have lens := Iw.lens
    refine hG B' _ F3 H3 x (Iw.wipe (vs := vs)) dx _ fun σ2 es I4 => ⟨es.trans wipe_wipe, ?_⟩
    have es' : L2.wipe σ2 vs = L2.wipe σ vs := es.trans wipe_wipe
    have lens2 : σ2.length = σ.length := by
      have := congrArg List.length es'
      rwa [L2.wipe_length, L2.wipe_length] at this
    show tk σ2 H3 _
    refine hk pn gi Γi B' σ2 F3 H3 hgi I4 (Rn.yes (tB.trans rn.tt) hek) _ fun g5 y Γ5 w5 F5 H5 e5 hg5 I5 ex5 => ?_
    rw [hek] at e5
    cases e5
    obtain ⟨v', ev', hv'⟩ := Ok.head I5
    cases ev'
    have I5' := Ok.pop I5
    refine hv pn g5 Γ5 B' σ2 F5 H5 hg5 I5' (Rn.yes (tB.trans rn.tt) hev) _ fun g6 y6 Γ6 w6 F6 H6 e6 hg6 I6 ex6 => ?_
    rw [hev] at e6
    cases e6
    obtain ⟨v'', ev'', hv''⟩ := Ok.head I6
    cases ev''
    have I6' := Ok.pop I6
    have ky : w5 = .int k := by
      have ek2 : y = .int k := ekk
      subst ek2
      cases hv'; rfl
    have vy : w6 = .int v := by
      have ev2 : y6 = .int v := evk
      subst ev2
      cases hv''; rfl
    subst ky vy
    have ll6 : Γ1.length = Γ6.length := by rw [← lens, ← I6'.lens, lens2]
    have I7 := back _ _ _ _ (I6'.back es' (back_wipe ll6) (by rw [backL_len, ← ll6]; exact lens) fun j hj s z => pl (ex5.trans ex6) j hj s (by rw [backL_get ll6, if_pos hj] at z; exact z))
    have at7 := Ok.atDi (i := 0) (l := l) I7 rfl (di_mk l)
    refine ⟨l.map eKI, Sum.inl k, rfl, at7.2.1, by rw [List.length_map]; exact Nat.lt_of_le_of_lt at7.2.2 (by decide), ?_⟩
    rw [putK_I]
    refine ⟨pI l k v, backE g1 g6 vs, backL Γ1 Γ6 vs, F6, Nat.le_trans (pI_len _ _ _) (by omega), hg1.back hg6 vs, hvv, ?_, ((e'.trans e3).trans ex5).trans ex6⟩
    have lw : (pI l k v).length ≤ wee := Nat.le_trans (pI_len l k v) (by omega)
    have := Ok.wrO (i := 0) (o := .dK ((pI l k v).map eKI)) (d' := mkI (pI l k v)) I7 rfl (fun ho => ho.1) ⟨rfl, _, upd_same, pI l k v, rfl, rfl, lw⟩
    exact this
  · have ei : i = ds.length := by omega
    subst ei
    rw [List.drop_length, dcL] at hvv
    cases hvv
    exact .inl ⟨(tn _ F' H' e' I'.ex).2 (Nat.le_refl _), q g1 (.ow 0 0 (mkI l)) Γ1 _ _ F' H' res hg1 ⟨D, rfl, fun z => absurd rfl z⟩ I' (ex1.trans e')⟩
/-- x + e, x a list of one's own -/
def mCatO (i : Nat) (b : Md) : Mv := fun g => (R.of (ownAt g i)).bind fun _ => (b g).bind fun p => (R.of (lst? p.2)).bind fun es => (R.of (ownAt p.1 i)).bind fun c => (R.of (few (c.2 ++ es))).bind fun z => .ok (p.1, .ls 0 z)
theorem v_catO {b : Md} (hb : Ds K Er tb b) : Vs K Er (tOp (rCatS K) (tVar i) tb) (mCatO i b) := fun pn g Γ B σ F H hg I rn Q q => by
  obtain ⟨r1, r2⟩ := rn.bind
  obtain ⟨c0, h0⟩ := r1.of
  have r3 := r2 c0 (by rw [h0]; rfl)
  obtain ⟨p0, e0, _⟩ := hg.own (own_eq h0)
  have g1 := (I.at_own e0).1
  refine ⟨_, g1, ?_⟩
  obtain ⟨r4, r5⟩ := r3.bind
  refine hb pn g Γ B σ F H hg I r4 _ fun g4 x Γ1 v F1 H1 e1 hg1 I1 ex1 => ?_
  obtain ⟨r6, r7⟩ := (r5 _ e1).bind
  obtain ⟨es, hes⟩ := r6.of
  have r8 := r7 es (by rw [hes]; rfl)
  have ex := lst_eq hes
  subst ex
  obtain ⟨r9, r10⟩ := r8.bind
  obtain ⟨⟨t, ds⟩, h1⟩ := r9.of
  obtain ⟨r11, _⟩ := (r10 (t, ds) (by rw [h1]; rfl)).bind
  obtain ⟨z, hz⟩ := r11.of
  obtain ⟨ez, lz⟩ := few_le hz
  obtain ⟨v', ev, hv⟩ := Ok.head I1
  cases ev
  have I2 := Ok.pop I1
  obtain ⟨p, e2, ht⟩ := hg1.own (own_eq h1)
  obtain ⟨a1, fp, _, xs, a2, a3, a4⟩ := I2.at_own e2
  rw [g1] at a1
  cases a1
  cases hv with
  | @lst b zs _ h3 h5 h4 =>
    have lz' : ds.length + es.length ≤ wee := by rw [List.length_append] at lz; exact lz
    refine ⟨p0, b, xs, zs, rfl, rfl, SqL.of a2, ex_l I2.ex h3, Nat.le_trans (by rw [a4.len, h4.len]; exact lz') (by decide), fun p2 hp => q g4 (.ls 0 z) Γ1 _ _ F1 _ ?_ hg1 ⟨p2, by rw [ez], fun z => absurd rfl z⟩ (I2.pushL hp lz (a4.append h4)) ex1⟩
    show (R.of (ownAt g i)).bind _ = _
    rw [h0]; show (R.bind _ _ : R _) = _
    rw [e1]; show (R.of (ownAt g4 i)).bind _ = _
    rw [h1]; show (R.of (few (ds ++ es))).bind _ = _
    rw [hz]; rfl
end
end AL
/-! AL10: a new list handed over first; range downwards; sorted pairs. -/
namespace AL
open PySem L2 TL
open Evl (Ex ex_l ex_t)
def mCallOE (M : List PyData → List PyData → R (List PyData × PyData)) (a : Mv) (es : Ma) : Mv := fun g => (a g).bind fun p => match p.2 with
  | .ls _ c => (es p.1).bind fun q => (M c q.2).noE.bind fun r => .ok (q.1, resS r.2)
  | _ => .bad
section
variable {K : PySem.W.Frag} {pn : Nat → Addr} {Er : Ec} {E1 : XK} {ta : TE} {tr : TA} {a : Mv} {es : Ma}
theorem v_callOE {M : List PyData → List PyData → R (List PyData × PyData)} (h : Vs K Er ta a) (ha : As K Er tr es) : Vs K Er (tCall (PO Er.T K M) [] E1 (tCons ta tr)) (mCallOE M a es) := fun pn g Γ B σ F H hg I rn Q q => by
  obtain ⟨r1, r2⟩ := rn.bind
  refine h pn g Γ B σ F H hg I r1 _ fun g1 x Γ1 s0 v0 F1 H1 e1 hg1 hs1 I1 ex1 => ?_
  have r3 := r2 _ e1
  cases x with
  | no => exact Rn.bad r3
  | da _ => exact Rn.bad r3
  | ll _ => exact Rn.bad r3
  | ow _ _ _ => exact Rn.bad r3
  | ls t c =>
  obtain ⟨p0, rfl, _⟩ := hs1
  have ev : v0 = .ref p0 := by
    obtain ⟨L, z⟩ := I1
    cases z.sl with
    | cons a b => cases a; rfl
  subst ev
  have r3' : Rn K Er B ((es g1).bind fun q => (M c q.2).noE.bind fun r => .ok (q.1, resS r.2)) := r3
  obtain ⟨r4, r5⟩ := r3'.bind
  refine ha.under (τ := [some (.ref p0)]) (Δ := [.own p0 (oL K) c]) rfl hg1 I1 r4 fun g2 xs Γ2 vs F2 H2 e2 hg2 n I2 ex2 => ?_
  obtain ⟨r8, _⟩ := (r5 _ e2).bind
  cases hM : M c xs with
  | err c' => exact absurd (show (M c xs).noE = .bad by rw [hM]; rfl) r8.nb
  | bad => exact absurd (show (M c xs).noE = .bad by rw [hM]; rfl) r8.nb
  | ok r =>
  obtain ⟨c', d⟩ := r
  have I3 : Ok B ((xs.map (Da K) ++ Γ2) ++ [.own p0 (oL K) c]) ((vs.map some ++ σ) ++ [some (.ref p0)]) F2 H2 := Ok.rot (Δ := [.own p0 (oL K) c]) (τ := [some (.ref p0)]) I2 rfl
  rw [List.append_assoc, List.append_assoc] at I3
  obtain ⟨hh1, I4⟩ := Ok.all n.symm I3
  rw [← rn.tt]
  show PO B.T K M ((.ref p0 :: vs) ++ []) H2 Q E1
  rw [List.append_nil]
  have hlen : σ.length = Γ2.length := by
    have := I4.lens
    simp only [List.length_append, List.length_cons, List.length_nil] at this
    omega
  obtain ⟨L, I5⟩ := I4
  obtain ⟨f₁, f₂, ef, k1, k2⟩ := split hlen I5.sl
  subst ef
  have ef2 : f₂ = [[p0]] := by
    cases k2 with
    | cons a b =>
      cases b
      cases a with
      | own ho => rw [ho.1]
  subst ef2
  have sub : ∀ q ∈ ([[p0]] : List (List Addr)).flatten, q ∈ (f₁ ++ [[p0]]).flatten := fun q z => by rw [List.flatten_append]; exact List.mem_append_right _ z
  have nd := I5.nd
  rw [List.flatten_append, List.nodup_append] at nd
  have base : OkF ⟨F2, H2, [p0], B.T⟩ [.own p0 (oL K) c] [some (.ref p0)] F2 H2 [[p0]] := (OkF.base (B := B) (fps := [[p0]]) ⟨k2, nd.2.1, fun q z => I5.fz q (sub q z), I5.ex, I5.bF, I5.bG, I5.bK, I5.bD, fun q z => I5.bO q (sub q z)⟩)
  have args : ∀ {xs : List PyData} {ws : List V}, DqAll K F2 ws xs → Ok ⟨F2, H2, [p0], B.T⟩ (xs.map (Da K) ++ [.own p0 (oL K) c]) (ws.map some ++ [some (.ref p0)]) F2 H2 := by
    intro xs
    induction xs with
    | nil => intro ws h; cases h; exact ⟨_, base⟩
    | cons x xs ih =>
      intro ws h
      cases h with
      | cons a b => exact (ih b).push a
  refine ⟨p0, c, xs, c', d, F2, hM, Ok.rot (Δ := xs.map (Da K)) (τ := vs.map some) (args hh1) (by simpa using n), fun s v F' H' hs I6 => ?_⟩
  obtain ⟨L6, I7⟩ := OkF.compose (Δ := Γ2) (τ := σ) (fpd := f₁) (fps := [[p0]]) I5 k1 I6
  have I8 : Ok B ([s, .own p0 (oL K) c'] ++ Γ2) ([some v, some (.ref p0)] ++ σ) F' H' := Ok.rot ⟨_, I7⟩ hlen
  have I9 : Ok B (s :: Γ2) (some v :: σ) F' H' := Ok.drop2 I8
  have eF : Ex F2 F' := by
    obtain ⟨L, I'⟩ := I6
    exact I'.bF
  refine q g2 (resS d) _ s v F' H' ?_ hg2 (resS_any hs) I9 ((ex1.trans ex2).trans eF)
  show (a g).bind _ = _
  rw [e1]; show (es g1).bind _ = _
  rw [e2]; show (M c xs).noE.bind _ = _
  rw [hM]; rfl
end
def rngD (a b : Int) : List Int := (List.range (a - b).toNat).map fun i => a - (i : Nat)
section
variable {K : PySem.W.Frag} {pn : Nat → Addr} {Er : Ec} {Γ : List Sl} {tr : TA} {es : Ma}
theorem turns_rngD {lo hi : Int} {F1 : Hp} : Turns K (Itc lo (-1) (lo - hi).toNat) F1 ((rngD lo hi).map PyData.int) := fun i F2 H2 e2 e3 => by
  have hl : ((rngD lo hi).map PyData.int).length = (lo - hi).toNat := by simp [rngD]
  refine ⟨fun d hd => ?_, fun hn => by rw [hl] at hn; exact hn⟩
  have hi' : i < (lo - hi).toNat := by rw [← hl]; exact (List.getElem?_eq_some_iff.mp hd).1
  refine ⟨hi', fun x H3 hy => ?_⟩
  obtain ⟨eH, ex⟩ := hy
  subst eH ex
  refine ⟨F2, fun _ _ _ z => z, Ex.refl _, ?_⟩
  have ed : d = .int (lo + (i : Nat) * (-1)) := by
    simp only [rngD, List.map_map, List.getElem?_map, List.getElem?_range hi', Option.map_some, Function.comp] at hd
    rw [← Option.some.inj hd]
    congr 1
    omega
  subst ed
  exact Dq.int _
def rgD? (m n : Int) : Option (List PyData) := if -4611686018427387904 ≤ m ∧ m < 4611686018427387904 ∧ -4611686018427387904 ≤ n ∧ n < 4611686018427387904 ∧ m - n ≤ 4096 then some ((rngD m n).map .int) else none
def fRg3 : List PyData → Option (List PyData)
  | [.int m, .int n, .int (-1)] => rgD? m n
  | _ => none
theorem ip_rngD {ta : TA} {m n : Int} {ds : List PyData} (h : AP ta Γ [Da K (.int m), Da K (.int n), Da K (.int (-1))]) (e : rgD? m n = some ds) : IP K (iRng3 ta) Γ ds := fun B σ F H I R q => h B σ F H I _ fun Γ1 ss ws F1 H1 ⟨a, b⟩ hn I1 e1 => by
  unfold rgD? at e
  split at e
  · rename_i c
    cases e
    subst a b
    obtain ⟨ha, I2⟩ := Ok.all (xs := [PyData.int m, PyData.int n, PyData.int (-1)]) (by simpa using hn) I1
    cases ha with
    | cons hv hr =>
      cases hr with
      | cons hv2 hr2 =>
        cases hr2 with
        | cons hv3 hr3 =>
          cases hr3
          cases hv
          cases hv2
          cases hv3
          exact ⟨m, n, -1, _, rfl, RgC.neg (by omega) (by omega) (by omega) (by omega), q _ F1 H1 I2 e1 turns_rngD (by rw [List.length_map]; unfold rngD; rw [List.length_map, List.length_range]; exact (by omega : (m - n).toNat ≤ 4096))⟩
  · cases e
theorem is_rng3 (h : As K Er tr es) : Is K Er (iRng3 tr) (mIA fRg3 es) := i_ofA (fun xs ds hx ta Γ ha => by
  unfold fRg3 at hx
  split at hx
  · exact ip_rngD (by exact ha) hx
  · cases hx) h
end
/-- what is called lets nothing out -/
theorem passN {X : Cx} : Passes (L2N.CX X.prog X.w) X E0 := fun _ _ _ _ _ _ _ h => by
  obtain ⟨_, _, _, _, _, _, _, _, _, _, _, _, z⟩ := h
  exact z.elim
end AL
/-! PairSort: pairs of ints in order (plain Lean, for sorted of pairs). -/
namespace TL
def leP (a b : Int × Int) : Prop := a.1 < b.1 ∨ (a.1 = b.1 ∧ a.2 ≤ b.2)
instance (a b : Int × Int) : Decidable (leP a b) := inferInstanceAs (Decidable (_ ∨ _))
theorem leP_tot {a b : Int × Int} (h : ¬ leP a b) : leP b a := by unfold leP at *; omega
theorem leP_trans {a b c : Int × Int} (h : leP a b) (g : leP b c) : leP a c := by unfold leP at *; omega
theorem leP_anti {a b : Int × Int} (h : leP a b) (g : leP b a) : a = b := by
  unfold leP at *
  exact Prod.ext (by omega) (by omega)
def insP (a : Int × Int) : List (Int × Int) → List (Int × Int)
  | [] => [a]
  | b :: r => if leP a b then a :: b :: r else b :: insP a r
def sortP : List (Int × Int) → List (Int × Int)
  | [] => []
  | a :: r => insP a (sortP r)
theorem insP_perm {a : Int × Int} : ∀ {l : List (Int × Int)}, (insP a l).Perm (a :: l)
  | [] => .refl _
  | b :: r => by
    unfold insP
    split
    · exact .refl _
    · exact (insP_perm.cons b).trans (.swap a b r)
theorem sortP_perm : ∀ {l : List (Int × Int)}, (sortP l).Perm l
  | [] => .refl _
  | a :: r => insP_perm.trans (sortP_perm.cons a)
theorem insP_asc {a : Int × Int} : ∀ {l : List (Int × Int)}, l.Pairwise leP → (insP a l).Pairwise leP
  | [], _ => List.pairwise_singleton _ _
  | b :: r, h => by
    obtain ⟨h1, h2⟩ := List.pairwise_cons.mp h
    unfold insP
    split
    · rename_i hab
      refine List.pairwise_cons.mpr ⟨fun x hx => ?_, h⟩
      rcases List.mem_cons.mp hx with e | hx
      · rw [e]; exact hab
      · exact leP_trans hab (h1 x hx)
    · rename_i hab
      refine List.pairwise_cons.mpr ⟨fun x hx => ?_, insP_asc h2⟩
      rcases List.mem_cons.mp (insP_perm.mem_iff.mp hx) with e | hx
      · rw [e]; exact leP_tot hab
      · exact h1 x hx
theorem sortP_asc : ∀ {l : List (Int × Int)}, (sortP l).Pairwise leP
  | [] => .nil
  | a :: r => insP_asc sortP_asc
theorem leP_eq : ∀ {l m : List (Int × Int)}, l.Pairwise leP → m.Pairwise leP → l.Perm m → l = m
  | [], m, _, _, h => (List.nil_perm.mp h).symm ▸ rfl
  | a :: l, [], _, _, h => nomatch (h.mem_iff.mp (List.mem_cons_self (a := a) (l := l)))
  | a :: l, b :: m, h1, h2, h => by
    obtain ⟨p1, p2⟩ := List.pairwise_cons.mp h1
    obtain ⟨q1, q2⟩ := List.pairwise_cons.mp h2
    have e : a = b := by
      have x1 : a ∈ b :: m := h.mem_iff.mp List.mem_cons_self
      have x2 : b ∈ a :: l := h.mem_iff.mpr List.mem_cons_self
      rcases List.mem_cons.mp x1 with e | x1
      · exact e
      · rcases List.mem_cons.mp x2 with e | x2
        · exact e.symm
        · exact leP_anti (p1 b x2) (q1 a x1)
    subst e
    rw [leP_eq p2 q2 h.cons_inv]
end TL
/-! AL11: sorted of a list of pairs of ints. -/
namespace AL
open PySem PySem.Spec PyProof.Rows L2 TL
open Evl (Ex ex_l ex_t)
/-- x is a pair p -/
def IsP (K : PySem.W.Frag) (H : Hp) (x : V) (p : Int × Int) : Prop := ∃ t, x = V.ref t ∧ SqT K H t [.int p.1, .int p.2]
inductive Alls {α β : Type} (r : α → β → Prop) : List α → List β → Prop
  | nil : Alls r [] []
  | cons {a : α} {b : β} {l : List α} {m : List β} : r a b → Alls r l m → Alls r (a :: l) (b :: m)
theorem Alls.mem {α β : Type} {r : α → β → Prop} {l : List α} {m : List β} (h : Alls r l m) : ∀ x ∈ l, ∃ y, r x y := by
  induction h with
  | nil => exact fun x hx => nomatch hx
  | cons a b ih =>
    intro x hx
    rcases List.mem_cons.mp hx with e | hx
    · rw [e]; exact ⟨_, a⟩
    · exact ih x hx
theorem Alls.map {α β : Type} {r : α → β → Prop} {l : List α} {m : List β} {f : α → β} (h : Alls r l m) (u : ∀ x y z, r x y → r x z → y = z) (k : ∀ x ∈ l, r x (f x)) : l.map f = m := by
  induction h with
  | nil => rfl
  | cons a b ih =>
    rw [List.map_cons, ih fun x hx => k x (List.mem_cons_of_mem _ hx), u _ _ _ a (k _ List.mem_cons_self)]
theorem alls_of {α β : Type} {r : α → β → Prop} {f : α → β} : ∀ {l : List α}, (∀ x ∈ l, r x (f x)) → Alls r l (l.map f)
  | [], _ => .nil
  | x :: l, h => .cons (h x List.mem_cons_self) (alls_of fun y hy => h y (List.mem_cons_of_mem _ hy))
def rSortP (K : PySem.W.Frag) : List V → Hp → VK → Prop := fun vs H Q => ∃ (a : Addr) (xs : List V) (ps : List (Int × Int)) (r : V → Int × Int → Prop), vs = [V.ref a] ∧ SqL K H a xs ∧ (∀ x p, r x p → IsP K H x p) ∧ Alls r xs ps ∧
  ∀ ys qs p, Alls r ys qs → qs.Perm ps → qs.Pairwise leP → H p = none → Q (.ref p) (upd H p (.lst ys))
section
variable {X : Cx}
theorem pair_uniq {pins : List (Addr × Obj)} {σ : L2.St} {H : Hp} {s : Shared} (I : Inv X pins σ H s) {x : V} {p q : Int × Int} : IsP X.K H x p → IsP X.K H x q → p = q := by
  rintro ⟨t, rfl, h1⟩ ⟨t', e, h2⟩
  cases e
  have := I.tuple_inj h1 h2
  simp only [List.cons.injEq, V.int.injEq, and_true] at this
  exact Prod.ext this.1 this.2
/-- a choice of the pairs -/
theorem pick_fn {r : V → Int × Int → Prop} {xs : List V} {ps : List (Int × Int)} (h : Alls r xs ps) : ∃ k : V → Int × Int, ∀ x ∈ xs, r x (k x) := by
  have c : ∀ x : V, ∃ p, x ∈ xs → r x p := fun x => by
    by_cases m : x ∈ xs
    · exact (h.mem x m).imp fun _ z _ => z
    · exact ⟨(0, 0), fun z => absurd z m⟩
  exact ⟨fun x => Classical.choose (c x), fun x => Classical.choose_spec (c x)⟩
/-- sorted, of pairs that stand anywhere -/
theorem cr_sortP : CallR X (.builtin "sorted") (rSortP X.K) := by
  rintro pins s σ H _ us Q I rv ⟨a, xs, ps, r, rfl, hs, isP, al, q⟩
  obtain ⟨k, hk⟩ := pick_fn al
  have ek : xs.map k = ps := al.map (fun x y z h1 h2 => pair_uniq I (isP _ _ h1) (isP _ _ h2)) hk
  obtain ⟨its, ri, li, lz⟩ := I.list hs
  have refs : ∀ x ∈ xs, ∃ t, x = V.ref t := fun x m => (isP x _ (hk x m)).imp fun t z => z.1
  obtain ⟨b1, b2⟩ := refs_back ri refs
  match us, rv with
  | [_], .cons ra .nil =>
    cases ra
    refine SrtO.sorted_pairsO (k := fun u => k (backV u)) li.isList (by rw [← ri.length]; exact lz) (fun v hv => ?_) fun h' d out so st kp fresh hd => ?_
    · obtain ⟨t, rfl⟩ := b2 v hv
      have m : V.ref t ∈ xs := b1.symm ▸ List.mem_map.mpr ⟨_, hv, rfl⟩
      obtain ⟨t', e, ht⟩ := isP _ _ (hk _ m)
      cases e
      obtain ⟨vs, rr, ⟨o, e1, e2, n, e3⟩, _⟩ := I.tuple ht
      match vs, rr with
      | [_, _], .cons r1 (.cons r2 .nil) =>
        obtain ⟨t1, rfl⟩ := r1
        obtain ⟨t2, rfl⟩ := r2
        exact ⟨t, o, t1, t2, n, rfl, e1, e2, e3⟩
    · have stb : SrtO.Stb (ltP k) (out.map backV) xs := by rw [b1]; exact st.map (ltP_swo k) backV
      have pm : (out.map backV).Perm xs := stb.perm
      obtain ⟨n, hn⟩ := hd
      have made : ObjOk X.prog X.w (upd H d (.lst (out.map backV))) h' d (.lst (out.map backV)) := ⟨by rw [pm.length_eq]; exact lz, out, n, vals_back (fun u hu => b2 u (st.perm.mem_iff.mp hu)), hn⟩
      have inOrd : SrtO.Srtd (ltP k) (out.map backV) := SrtO.srtd_map so
      have asc : ((out.map backV).map k).Pairwise leP := by
        refine List.Pairwise.map k (fun x y h => ?_) inOrd
        have := SrtO.lexB_no.mp h
        unfold leP
        omega
      exact ⟨.ref d, _, I.laid (t' := s.toks) kp fresh made, rfl, q _ _ d (alls_of fun x m => hk x (pm.mem_iff.mp m)) (ek ▸ pm.map k) asc (I.hok.fresh fresh)⟩
theorem kSortP (K : PySem.W.Frag) (h : X.K = K := by rfl) : CallR X (.builtin "sorted") (rSortP K) := by subst h; exact cr_sortP
end
def pairD (p : Int × Int) : PyData := .tuple [.int p.1, .int p.2]
def pairs? : List PyData → Option (List (Int × Int))
  | [] => some []
  | .tuple [.int a, .int b] :: r => (pairs? r).map ((a, b) :: ·)
  | _ => none
theorem pairs_eq : ∀ {ds : List PyData} {ps : List (Int × Int)}, pairs? ds = some ps → ds = ps.map pairD := by
  intro ds
  induction ds with
  | nil => intro ps h; cases h; rfl
  | cons d r ih =>
    intro ps h
    unfold pairs? at h
    split at h
    · rename_i e; cases e
    · rename_i a b r' e
      cases e
      obtain ⟨qs, h1, h2⟩ := Option.map_eq_some_iff.mp h
      subst h2
      rw [ih h1]; rfl
    · cases h
def fSortP : List PyData → Option (List PyData)
  | [.list ds] => (pairs? ds).bind fun ns => if ns.length ≤ wee then some ((sortP ns).map pairD) else none
  | _ => none
section
variable {K : PySem.W.Frag}
theorem dq_isP {F H : Hp} (e : Ex F H) {x : V} {p : Int × Int} (h : Dq K F x (pairD p)) : IsP K H x p := by
  cases h with
  | tup h1 h2 h3 =>
    cases h3 with
    | cons c1 c2 =>
      cases c2 with
      | cons c3 c4 =>
        cases c4
        cases c1
        cases c3
        exact ⟨_, rfl, ex_t e h1⟩
theorem dq_alls {F : Hp} : ∀ {ps : List (Int × Int)} {xs : List V}, DqAll K F xs (ps.map pairD) → Alls (fun x p => Dq K F x (pairD p)) xs ps
  | [], _, h => by cases h; exact .nil
  | p :: ps, _, h => by
    cases h with
    | cons a b => exact .cons a (dq_alls b)
theorem alls_dq {F : Hp} {ps : List (Int × Int)} {xs : List V} (h : Alls (fun x p => Dq K F x (pairD p)) xs ps) : DqAll K F xs (ps.map pairD) := by
  induction h with
  | nil => exact .nil
  | cons a b ih => exact .cons a ih
theorem c_sortP : ∀ xs z, fSortP xs = some z → CO K (rSortP K) xs z := fun xs z e => by
  unfold fSortP at e
  split at e
  · obtain ⟨ps, h1, h2⟩ := Option.bind_eq_some_iff.mp e
    have := pairs_eq h1
    subst this
    split at h2
    · rename_i hz
      cases h2
      intro B Γ σ F H vs I hv Q q
      cases hv with
      | cons a b =>
        cases b
        cases a with
        | @lst a xs ds h1 h2 h3 =>
          refine ⟨a, xs, ps, _, rfl, ex_l I.exT.1 h1, fun x p => dq_isP I.exT.1, dq_alls h3, fun ys qs p hy hp hs hn => ?_⟩
          have eq : qs = sortP ps := leP_eq hs sortP_asc (hp.trans sortP_perm.symm)
          subst eq
          exact q p _ (I.pushL hn (by rw [List.length_map, sortP_perm.length_eq]; exact hz) (alls_dq hy))
    · cases h2
  · cases e
end
end AL
/-! AL12: a tuple backwards. -/
namespace RevT
open PySem PySem.Spec PyProof.Rows HT L2
section
variable {prog : Program} {w : World} {A : Around} {E : Value → Shared → Prop} {s : Shared}
theorem fm_congr {α β : Type _} {f g : α → Option β} : ∀ {l : List α}, (∀ x ∈ l, f x = g x) → l.filterMap f = l.filterMap g
  | [], _ => rfl
  | x :: r, h => by rw [List.filterMap_cons, List.filterMap_cons, h x List.mem_cons_self, fm_congr fun y hy => h y (List.mem_cons_of_mem _ hy)]
theorem adjust_rev (n : Nat) : Builtin.Slice.sliceAdjust none none (-1) (n : Int) = ((n : Int) - 1, -1) := by
  unfold Builtin.Slice.sliceAdjust
  simp
theorem places_rev (n : Nat) : Builtin.Slice.slicePlaces ((n : Int) - 1) (-1) (-1) = n := by
  unfold Builtin.Slice.slicePlaces
  simp
  omega
theorem pick_rev (xs : Array Value) : ((List.range xs.size).filterMap fun (m : Nat) => xs[((xs.size : Int) - 1 + (m : Int) * (-1)).toNat]?).toArray = xs.toList.reverse.toArray := by
  congr 1
  have e : ∀ l : List Value, (List.range l.length).filterMap (fun (m : Nat) => l[((l.length : Int) - 1 + (m : Int) * (-1)).toNat]?) = l.reverse := by
    intro l
    apply List.ext_getElem?
    intro i
    have h1 : (List.range l.length).filterMap (fun (m : Nat) => l[((l.length : Int) - 1 + (m : Int) * (-1)).toNat]?) = (List.range l.length).map (fun m => l[l.length - 1 - m]?.getD default) := by
      rw [← List.filterMap_eq_map]
      refine fm_congr fun m hm => ?_
      have hm := List.mem_range.mp hm
      show _ = some (l[l.length - 1 - m]?.getD default)
      rw [show ((l.length : Int) - 1 + (m : Int) * (-1)).toNat = l.length - 1 - m by omega, List.getElem?_eq_getElem (by omega)]
      rfl
    rw [h1, List.getElem?_map]
    by_cases hi : i < l.length
    · rw [List.getElem?_range hi, List.getElem?_reverse hi]
      show some (l[l.length - 1 - i]?.getD default) = _
      rw [List.getElem?_eq_getElem (by omega)]
      rfl
    · rw [List.getElem?_eq_none (by rw [List.length_range]; omega), List.getElem?_eq_none (by rw [List.length_reverse]; omega)]
      rfl
  have := e xs.toList
  rw [Array.length_toList] at this
  rw [← this]
  refine fm_congr fun m _ => ?_
  rw [Array.getElem?_toList]
theorem applied_rev {sl : Addr} {vk : Value} {n : Nat} {Q : Int × Int × Nat → Shared → Prop} (hs : s.heap.IsSliceOf sl .none .none vk) (pk : IsPart vk (some (-1)))
    (h : Q ((n : Int) - 1, -1, n) s) : wpAny (model prog w) A (Builtin.Slice.sliceApplied (.ref sl) (pure (n : Int))) Q E s := by
  obtain ⟨o, ho, hc, hd⟩ := hs
  unfold Builtin.Slice.sliceApplied Builtin.Slice.sliceFields
  refine wpAny_bind (wpAny_bind (wpAny_field ho hd (x := .none) rfl (wpAny_bind (wpAny_field ho hd (x := .none) rfl (wpAny_bind (wpAny_field ho hd (x := vk) rfl (wpAny_pure ?_)))))))
  refine wpAny_bind (slicePart_ pk ?_)
  show wpAny _ _ (if ((-1 : Int) == 0) = true then _ else _) _ _ s
  rw [if_neg (by decide)]
  refine wpAny_bind (slicePart_none (wpAny_bind (slicePart_none (wpAny_bind (wpAny_pure ?_)))))
  show wpAny _ _ (match Builtin.Slice.sliceAdjust none none (-1) (n : Int) with | (lo, hi) => pure (lo, (-1 : Int), Builtin.Slice.slicePlaces lo hi (-1))) _ _ s
  rw [adjust_rev]
  show wpAny _ _ (pure ((n : Int) - 1, (-1 : Int), Builtin.Slice.slicePlaces ((n : Int) - 1) (-1) (-1))) _ _ s
  rw [places_rev]
  exact wpAny_pure h
/-- t[::-1], t a tuple -/
theorem item_rev {t sl : Addr} {items : Array Value} {vk : Value} {Q : Value → Shared → Prop} (ht : IsTup s.heap t items) (hs : s.heap.IsSliceOf sl .none .none vk) (pk : IsPart vk (some (-1))) (small : items.size ≤ sizeLine)
    (q : Q (.ref s.heap.objs.size) { s with heap := s.heap.push { cls := .type "tuple", data := .seq items.toList.reverse.toArray } }) : wpAny (model prog w) A (getItem (.ref t) (.ref sl)) Q E s := by
  have fits : sizeOk (.seq items.toList.reverse.toArray) := by
    show items.toList.reverse.toArray.size ≤ sizeLine
    rw [List.size_toArray, List.length_reverse, Array.length_toList]
    exact small
  have ty : s.TypeIs (.ref sl) "slice" := by
    obtain ⟨o, ho, hc, _⟩ := hs
    exact ⟨o, ho, hc⟩
  unfold getItem
  refine wpAny_holding (wpAny_bind (wpAny_sequenceKey ht.typeIs (by decide) ?_))
  refine wpAny_bind (wpAny_callSpecial?_slot (name := Str.ofString "__getitem__") ht.typeIs PyProof.Rows.slot_tuple_getitem (wpAny_call_entry PyProof.Rows.slot_tuple_getitem ht.typeIs entry_tuple_getitem ?_ (args_tuple_getitem _ _)))
  show wpAny _ _ (Builtin.Tuple.tupleItemsOf (.ref t) >>= _) _ _ s
  refine wpAny_bind (tupleItemsOf_ ht (wpAny_bind (wpAny_typeOf ty ?_)))
  rw [if_pos (by decide)]
  refine wpAny_bind (applied_rev hs pk ?_)
  have no : ¬ ((((items.size : Int) - 1) == 0 && (-1 : Int) == 1 && items.size == items.size) = true) := by simp
  show wpAny _ _ (if (((items.size : Int) - 1) == 0 && (-1 : Int) == 1 && items.size == items.size) = true then _ else _) _ _ s
  rw [if_neg no, pick_rev]
  first
    | exact wpAny_bind (m := Builtin.Tuple.tupleExact _) (wpAny_newObj_type (wpAny_pure ⟨_, rfl, wpAny_pure q⟩) fits)
    | exact wpAny_bind (m := Builtin.Tuple.tupleExact _) (wpAny_newObj_type (wpAny_bind (wpAny_pure (wpAny_pure ⟨_, rfl, wpAny_pure q⟩))) fits)
end
section
variable {X : Cx}
def tRevT (K : PySem.W.Frag) (te : TE) : TE := fun σ H Q => te σ H fun x H1 => ∃ a xs, x = .ref a ∧ SqT K H1 a xs ∧ ∀ p, H1 p = none → Q (.ref p) (upd H1 p (.tup xs.reverse))
theorem pe_revT {e : Expr} {te : TE} {k : Nat} {p1 p2 p3 pos : Pos} (he : PE X e te) : PE X (.Subscript e (.Slice none none (some (.UnaryOp .USub (.Constant (.int 1) k p1) p2)) p3) pos) (tRevT X.K te) := by
  refine ⟨fun pins s σ H Q I h => Subscript_ (thn (he.run pins s σ H _ I h) fun v s1 ⟨x, H1, I1, r1, a, xs, ex, hx, q⟩ => ?_)⟩
  subst ex
  cases r1
  have down : PO X (some (.UnaryOp .USub (.Constant (.int 1) k p1) p2)) (tPart (tUn (rU fun i => .int (-i)) (tC (.int 1)))) := po_some (pe_un un_neg pe_int)
  refine wpAny_Slice (thn (po_none.run pins s1 σ H1 (fun o H2 => o = none ∧ H2 = H1) I1 ⟨rfl, rfl⟩) fun v1 s2 ⟨o1, H2, I2, g1, e1, e2⟩ => ?_)
  subst e1 e2
  refine thn (po_none.run pins s2 σ H2 (fun o H3 => o = none ∧ H3 = H2) I2 ⟨rfl, rfl⟩) fun v2 s3 ⟨o2, H3, I3, g2, e3, e4⟩ => ?_
  subst e3 e4
  refine thn (down.run pins s3 σ H3 (fun o H4 => o = some (-1) ∧ H4 = H3) I3 ⟨1, rfl, -1, rfl, rfl, rfl⟩) fun v3 s4 ⟨o3, H4, I4, g3, e5, e6⟩ => ?_
  subst e5 e6
  cases g1
  cases g2
  obtain ⟨cut, hcut⟩ : ∃ cut : Obj, cut = { cls := .type "slice", data := .fields #[.none, .none, v3] } := ⟨_, rfl⟩
  have I5 : Inv X pins σ H4 { s4 with heap := s4.heap.push cut } := I4.kept (t' := s4.toks) fun b ob z => Heap.get?_push_of_some _ z
  obtain ⟨its, rv, pt, hz⟩ := I5.tuple hx
  have len := rv.length
  subst hcut
  show wpAny (model X.prog X.w) X.A (subscriptTail e (.Slice none none (some (.UnaryOp .USub (.Constant (.int 1) k p1) p2)) p3) (.ref a) (.ref s4.heap.objs.size)) (EP X pins σ Q) X.xe _
  refine tail_any (ops := [.ref a, .ref s4.heap.objs.size]) pt.typeIs PyProof.Rows.slot_tuple_getitem.lookup ?_ (by with_unfolding_all rfl)
  refine item_rev pt (Heap.IsSliceOf.new _ .none .none v3) g3 (by rw [List.size_toArray]; omega) ?_
  refine ⟨.ref _, _, I5.laid (t' := s4.toks) (o := .tup xs.reverse) (fun b ob z => Heap.get?_push_of_some _ z) (Nat.le_refl _) ⟨by rw [List.length_reverse]; exact hz, its.reverse, rv.reverse, ?_⟩, rfl, q _ (I5.hok.fresh (Nat.le_refl _))⟩
  exact IsTup.new _ _
end
end RevT
namespace AL
open PySem L2 TL RevT
open Evl (Ex ex_l ex_t)
section
variable {X : Cx}
theorem kRevT (K : PySem.W.Frag) {e : Expr} {te : TE} {k : Nat} {p1 p2 p3 pos : Pos} (he : PE X e te) (h : X.K = K := by rfl) : PE X (.Subscript e (.Slice none none (some (.UnaryOp .USub (.Constant (.int 1) k p1) p2)) p3) pos) (tRevT K te) := by
  subst h
  exact pe_revT he
end
def mRevT (e : Md) : Md := fun g => (e g).bind fun p => (R.of (tup? p.2)).bind fun ds => .ok (p.1, .tuple ds.reverse)
theorem d_revT {K : PySem.W.Frag} {Er : Ec} {te : TE} {e : Md} (he : Ds K Er te e) : Ds K Er (tRevT K te) (mRevT e) := fun pn g Γ B σ F H hg I rn Q q => by
  obtain ⟨r1, r2⟩ := rn.bind
  refine he pn g Γ B σ F H hg I r1 _ fun g1 x Γ1 v F1 H1 e1 hg1 I1 ex1 => ?_
  obtain ⟨r3, _⟩ := (r2 _ e1).bind
  obtain ⟨ds, hd⟩ := r3.of
  cases tup_eq hd
  obtain ⟨v', h1, hv⟩ := Ok.head I1
  cases h1
  cases hv with
  | @tup p xs _ h3 hz h4 =>
    refine ⟨p, xs, rfl, ex_t I1.ex h3, fun p' hp => ?_⟩
    have I2 := Ok.pop I1
    have eF : Ex F1 (upd F1 p' (.tup xs.reverse)) := Ex.new (I2.nF hp)
    refine q g1 (.tuple ds.reverse) Γ1 _ _ _ ?_ hg1 ((I2.alloc hp).push (Dq.tup (.inl (.inl upd_same)) (by rw [List.length_reverse]; exact hz) (DqAll.mono eF _ _ h4.reverse))) (ex1.trans eF)
    show (e g).bind _ = _
    rw [e1]; rfl
/-! ### a target in a target: x, (y, z, u) -/
def g23 (i j k l : Nat) : Mg := fun d g => match d with
  | .tuple [a, .tuple [x, y, z]] => some ((((g.set i (.da a)).set j (.da x)).set k (.da y)).set l (.da z))
  | _ => none
theorem gp_tup23 {K : PySem.W.Frag} {vs : List Nat} {Γ : List Sl} {i j k l : Nat} {a x y z : PyData} (hi : i ∈ vs) (hj : j ∈ vs) (hk : k ∈ vs) (hl : l ∈ vs) : GP K (gTup K 2 (gCons (gName i) (gCons (gTup K 3 (gCons (gName j) (gCons (gName k) (gCons (gName l) gNil)))) gNil))) (.tuple [a, .tuple [x, y, z]]) vs Γ ((((Γ.set i (Da K a)).set j (Da K x)).set k (Da K y)).set l (Da K z)) := fun B σ F H v I hv Q q => by
  cases hv with
  | @tup p xs _ hs hz hc =>
    cases hc with
    | @cons u us _ _ h1 hc =>
      cases hc with
      | @cons w ws _ _ h2 hc =>
        cases hc
        cases h2 with
        | @tup p2 ys _ hs2 hz2 hc2 =>
          cases hc2 with
          | @cons u1 us1 _ _ k1 hc2 =>
            cases hc2 with
            | @cons u2 us2 _ _ k2 hc2 =>
              cases hc2 with
              | @cons u3 us3 _ _ k3 hc2 =>
                cases hc2
                refine ⟨p, [u, .ref p2], rfl, ex_t I.ex hs, rfl, u, [.ref p2], rfl, .ref p2, [], rfl, p2, [u1, u2, u3], rfl, ex_t I.ex hs2, rfl, u1, [u2, u3], rfl, u2, [u3], rfl, u3, [], rfl, rfl, rfl, ?_⟩
                exact q _ (by rw [wipe_set hl, wipe_set hk, wipe_set hj, wipe_set hi]) ((((I.setv (.val h1)).setv (.val k1)).setv (.val k2)).setv (.val k3))
theorem gt_23 {K : PySem.W.Frag} {vs : List Nat} {i j k l : Nat} (hi : i ∈ vs := by decide) (hj : j ∈ vs := by decide) (hk : k ∈ vs := by decide) (hl : l ∈ vs := by decide) : Gt K (gTup K 2 (gCons (gName i) (gCons (gTup K 3 (gCons (gName j) (gCons (gName k) (gCons (gName l) gNil)))) gNil))) (g23 i j k l) vs := fun pn d g g' Γ e hg => by
  unfold g23 at e
  split at e
  · rename_i a x y z
    cases e
    exact ⟨_, (((hg.set (x := .da a) (s := Da K a) rfl).set (x := .da x) (s := Da K x) rfl).set (x := .da y) (s := Da K y) rfl).set (x := .da z) (s := Da K z) rfl, gp_tup23 hi hj hk hl⟩
  · cases e
/-! ### x, y = a, b where one of the names is a cell: a tuple is made, and taken apart; things of one's own stay so -/
theorem s_asgW {K : PySem.W.Frag} {Er : Ec} {tr : TA} {i j : Nat} {es : Mw} (h : Ws K Er tr es) : Ss K Er (tAsg (tTup tr) (gTup K 2 (gCons (gName i) (gCons (gName j) gNil)))) (mPar i j es) := fun pn g Γ B D hg rn w => fun σ F H I D' hn hr hb hc => by
  obtain ⟨r1, r2⟩ := rn.bind
  refine h pn g Γ B σ F H hg I r1 _ fun g1 xs Γ1 ss vs F1 H1 e1 hg1 hs n I1 ex1 => ?_
  have r3 := r2 _ e1
  match xs, vs, hs, n, r3 with
  | [a, b], [v, u], .cons (s := s) ha (.cons (s := s2) hb .nil), _, _ =>
    refine ⟨by show 2 ≤ PySem.sizeLine; decide, fun p hp => ?_⟩
    have I1 : Ok B (s :: s2 :: Γ1) (some v :: some u :: σ) (upd F1 p (.tup [v, u])) (upd H1 p (.tup [v, u])) := Ok.alloc I1 hp
    have eF : Ex F1 (upd F1 p (.tup [v, u])) := Ex.new (Ok.nF (by assumption) hp)
    have I2 : Ok B (s2 :: Γ1.set i s) (some u :: σ.set i (some v)) (upd F1 p (.tup [v, u])) (upd H1 p (.tup [v, u])) := Ok.store (i := i + 1) I1
    refine ⟨p, [v, u], rfl, .inl (.inl upd_same), rfl, v, [u], rfl, u, [], rfl, rfl, ?_⟩
    refine hn _ _ _ _ (w (.nx ((g1.set i a).set j b)) ?_ _ ((hg1.set ha).set hb)) I2.store (ex1.trans eF)
    show (es g).bind _ = _
    rw [e1]; rfl
  | [], _, _, _, r3 => exact Rn.bad r3
  | [_], _, _, _, r3 => exact Rn.bad r3
  | _ :: _ :: _ :: _, _, _, _, r3 => exact Rn.bad r3
end AL
/-! HL1: a lambda is made: what is kept of the heap's cells, told in full. -/
namespace HT
open PySem PySem.Spec PyProof.Rows L2 LamX
/-- H1 is H with more: only the tables of T may differ -/
structure Grown (T : List (Addr × Str)) (H H1 : Hp) : Prop where
  ext : ExtN H H1
  tabs : Tabs T H1
  same : ∀ b o, H b = some o → (∀ z ∈ T, z.1 ≠ b) → H1 b = some o
  cells : ∀ b o, H b = some o → ∃ o1, H1 b = some o1
theorem Grown.refl {T : List (Addr × Str)} {H : Hp} (h : Tabs T H) : Grown T H H := ⟨ExtN.refl H, h, fun _ _ e _ => e, fun _ o e => ⟨o, e⟩⟩
/-- the table at P gets three more values, the code object c is new -/
def grow (H : Hp) (P c : Addr) (q : Str) (ps : Array Value) (pos : Pos) : Hp := upd (upd H P (.tbl (ps ++ #[rawInt pos.line, rawInt pos.col, .ref c]))) c (CodeO c q)
section
variable {T : List (Addr × Str)} {H : Hp} {P c : Addr} {q : Str} {ps : Array Value} {pos : Pos}
theorem grow_c : grow H P c q ps pos c = some (CodeO c q) := upd_same
theorem grow_P (n : P ≠ c) : grow H P c q ps pos P = some (.tbl (ps ++ #[rawInt pos.line, rawInt pos.col, .ref c])) := (upd_ne n).trans upd_same
theorem grow_o {b : Addr} (n : b ≠ c) (m : b ≠ P) : grow H P c q ps pos b = H b := (upd_ne n).trans (upd_ne m)
/-- what the heap keeps by it -/
theorem grown (hT : Tabs T H) (hP : H P = some (.tbl ps)) (hc : H c = none) (ht : TriplesOk ps.toList) (hm : (P, q) ∈ T) (hu : ∀ z ∈ T, z.1 = P → z.2 = q) (ha : ∀ p v, codeAmong p ps.toList = some v → ∃ d, v = .ref d ∧ H d = some (CodeO d q)) : Grown T H (grow H P c q ps pos) := by
  have ne : ∀ {b : Addr} {o : HO}, H b = some o → b ≠ c := fun e z => by rw [z, hc] at e; cases e
  have keep : ∀ b o, H b = some o → b ≠ P → grow H P c q ps pos b = some o := fun b o e n => (grow_o (ne e) n).trans e
  have code : ∀ {d : Addr} {r : Str}, H d = some (CodeO d r) → grow H P c q ps pos d = some (CodeO d r) := fun {d r} e =>
    keep d _ e fun z => by
      rw [z, hP] at e
      exact codeO_ne ps (Option.some.inj e).symm
  refine ⟨fun b o e n => keep b o e fun z => n ps ?_, fun z hz => ?_, fun b o e n => keep b o e fun y => n _ hm y.symm, fun b o e => ?_⟩
  · rw [z, hP] at e
    exact (Option.some.inj e).symm
  · by_cases y : z.1 = P
    · have l3 : (ps ++ #[rawInt pos.line, rawInt pos.col, Value.ref c]).toList = ps.toList ++ [rawInt pos.line, rawInt pos.col, .ref c] := by simp
      rw [y, hu z hz y]
      refine ⟨_, grow_P (ne hP), ?_, fun p v hv => ?_⟩
      · rw [l3]; exact PySem.TriplesOk_snoc _ _ _ _ ht
      · rw [l3] at hv
        cases among_app _ ht hv with
        | inl w =>
          obtain ⟨d, e1, e2⟩ := ha p v w
          exact ⟨d, e1, code e2⟩
        | inr w => exact ⟨c, w, grow_c⟩
    · obtain ⟨qs, a1, a2, a3⟩ := hT z hz
      exact ⟨qs, keep _ _ a1 y, a2, fun p v hv => (a3 p v hv).imp fun d w => ⟨w.1, code w.2⟩⟩
  · by_cases y : b = P
    · subst y; exact ⟨_, grow_P (ne hP)⟩
    · exact ⟨o, keep b o e y⟩
end
/-- a lambda's function object stands at f, its code object at d -/
structure LamAt (X : Cx) (params : Arguments) (body : Expr) (scope : Scope) (f d : Addr) (H : Hp) (s : Shared) : Prop where
  obj : ∃ pm ctv, s.heap.get? f = some (PySem.W.kla_obj "<lambda>" (X.env.qual ++ "<lambda>") params body scope (cloFrom X.env.cells scope.names []) pm d ctv)
  un : H f = none
  nofr : f ∉ frs X.stack
  code : H d = some (CodeO d (X.env.qual ++ "<lambda>"))
section
variable {X : Cx} {pins : List (Addr × Obj)} {σ : L2.St} {H : Hp} {s : Shared}
theorem far_frs (I : Inv X pins σ H s) {f : Addr} (h : s.heap.objs.size ≤ f) : f ∉ frs X.stack := fun z => by
  cases List.mem_cons.mp (I.stkSub _ z) with
  | inl e => exact absurd h (Nat.not_le.mpr (e ▸ I.lt))
  | inr e => exact I.nofs h e
theorem lam_new {T : List (Addr × Str)} {c P : Addr} {params : Arguments} {body : Expr} {scope : Scope} {pos : Pos} {E Q : Value → Shared → Prop} (I : Inv X pins σ H s) (TB : TabB X.base X.mg c P) (hcode : X.env.code = .ref c) (hm : (P, X.env.qual ++ "<lambda>") ∈ T) (hu : ∀ z ∈ T, z.1 = P → z.2 = X.env.qual ++ "<lambda>") (hT : Tabs T H)
    (hdef : defaultsOf params X.env = ([], [])) (hfree : ∀ y ∈ scope.names, y.2 = .free → ∃ c, X.env.cells.lookup y.1 = some c)
    (k : ∀ (f d : Addr) (H1 : Hp) (s' : Shared), Inv X pins σ H1 s' → Grown T H H1 → LamAt X params body scope f d H1 s' → Q (.ref f) s') : wpAny (model X.prog X.w) X.A (eval (.Lambda params body scope pos) X.env) Q E s := by
  obtain ⟨ps, hP, ht, ha⟩ := hT _ hm
  have bms := TB.bm.keeps I.bk
  have tab : s.heap.get? P = some { cls := .none, data := .fields ps } := I.hok P _ hP
  have cl := closure_ok hfree
  have gs := I.mod.glob.keeps I.bk
  have cds := TB.code.keeps I.bk
  apply PySem.W.kla_eval hdef
  cases hc : codeAmong pos ps.toList with
  | some v =>
    obtain ⟨d, e, hd⟩ := ha pos v hc
    subst e
    apply PySem.W.kla_makeFunctionHit (mg := X.mg) (c := c) (P := P) (ps := ps) cl I.ok.glob gs hcode cds tab ht hc bms
    intro ctv h' tk kp hs
    exact k h'.objs.size d H _ (I.kept (t' := tk) fun b o e => Heap.get?_push_of_some _ (kp b o e)) (.refl hT) ⟨⟨_, ctv, Heap.get?_push_size _ rfl⟩, I.hok.fresh hs, far_frs I hs, hd⟩
  | none =>
    apply PySem.W.kla_makeFunction (mg := X.mg) (c := c) (P := P) (ps := ps) cl I.ok.glob gs hcode cds tab ht hc TB.gP bms
    intro c' ctv h' tk kp hge hlt ⟨c2, oc, vs, t, e2, hoc, hd, hv⟩ htb
    cases e2
    have up := fun b o (e : h'.get? b = some o) => Heap.get?_push_of_some (PySem.W.kla_obj "<lambda>" (X.env.qual ++ "<lambda>") params body scope (cloFrom X.env.cells scope.names []) ((X.mg "__name__").getD .none) c' ctv) e
    have nc := I.hok.fresh hge
    have far : s.heap.objs.size ≤ h'.objs.size := Nat.le_trans hge (Nat.le_of_lt hlt)
    have I1 := inv_table (t' := tk) I hP (fun b o n e => up b o (kp b o n e)) (up P _ htb) hge ⟨oc, vs, t, up _ _ hoc, hd, hv⟩
    refine k h'.objs.size c' _ _ I1 (grown hT hP nc ht hm hu ha) ⟨⟨_, ctv, Heap.get?_push_size _ rfl⟩, ?_, far_frs I far, grow_c⟩
    have n2 : h'.objs.size ≠ P := Nat.ne_of_gt (Nat.lt_of_lt_of_le (Heap.lt_size tab) far)
    exact (grow_o (q := X.env.qual ++ "<lambda>") (ps := ps) (pos := pos) (Nat.ne_of_gt hlt) n2).trans (I.hok.fresh far)
end
end HT
/-! HL2: a lambda called by the def that got it; what it raises has no context and is told at the slots of the call. -/
namespace HT
open PySem PySem.Spec PyProof.Rows L2 LamX
/-- the library's context of a lambda's body, with what leaves it by L2N.CX -/
def lamN (X : Cx) (A : Around) (outer : List Env) (s : Shared) (H : Hp) (E : XK) (scope : Scope) (f d : Addr) : Cx :=
  { LamX.lamCx X A outer s H E scope f d with
    xe := fun e s' => wpAny (model X.prog X.w) (A.deeper (lamEnv X scope s.heap.objs.size f d)) (leaving (lamEnv X scope s.heap.objs.size f d) e) (fun _ t => L2N.CX X.prog X.w outer H s E e t) (fun e' t => L2N.CX X.prog X.w outer H s E e' t) s' }
/-- the reading of the body, for any E that may be let out -/
def BodyN (X : Cx) (k : Nat) (scope : Scope) (body : Expr) (f d : Addr) (t : XK → TE) : Prop :=
  ∀ (E : XK) (A : Around) (outer : List Env) (s : Shared) (H : Hp), Room k (A.deeper (lamEnv X scope s.heap.objs.size f d)) → PE (lamN X A outer s H E scope f d) body (t E)
/-- no argument is taken -/
def Bare (params : Arguments) : Prop := ∀ (q : Str) (body : Expr) (scope : Scope) (cl : List (Str × Addr)) (pm cv ctv : Value), bindArgs (PySem.W.kla_fn "<lambda>" q params body scope cl pm cv ctv) ⟨[], []⟩ = pure []
section
variable {X Z : Cx} {pins pinsZ : List (Addr × Obj)} {σ σZ : L2.St} {H HZ : Hp} {s s1 : Shared} {params : Arguments} {body : Expr} {scope : Scope} {f d : Addr} {k : Nat} {t : XK → TE}
/-- the object called, wherever Z stands above X -/
theorem lam_run {E : XK} {Q : VK} (I : Inv X pins σ H s) (L : LamS X.env.scope scope) (La : LamAt X params body scope f d H s) (hp : Bare params) (hb : BodyN X k scope body f d t)
    (hP : Z.prog = X.prog) (hw : Z.w = X.w) (hK : Z.K = X.K) (hm : Z.mg = X.mg) (hB : Z.base = X.base) (hd : Z.A.handled = none) (hr : Room (k + 1) Z.A) (IZ : Inv Z pinsZ σZ HZ s1) (un : Un (frs X.stack) [] H HZ s.heap s1.heap)
    (hc : HZ d = some (CodeO d (X.env.qual ++ "<lambda>"))) (h : t E σ HZ Q) : codeAny (model X.prog X.w) Z.A (.call (.ref f) ⟨[], []⟩) (CR (L2N.CX X.prog X.w) Z.stack X.prog X.w HZ s1 Q E) s1 := by
  obtain ⟨pm, ctv, ho⟩ := La.obj
  have ho1 := un.keep f _ ho La.un La.nofr (fun z => nomatch z)
  obtain ⟨⟨oc, vs, tk, r1, r2, r3⟩, _⟩ := IZ.hok d _ hc
  apply PySem.W.kla_callFunE hr.depth ho1 rfl L.co L.gen rfl ⟨d, oc, vs, tk, rfl, r1, r2, r3⟩
  rw [hp]
  apply wpAny_pure
  refine wpAny_newFunctionEnv (fun y hy => (L.own y hy).2) (fun y hy => nomatch hy) (fun h₁ hns hsb => ⟨IZ.nolimit.fresh _ hsb, ?_⟩) L.kind
  have kp : ∀ b o, s1.heap.get? b = some o → h₁.get? b = some o := fun b o e => hsb.extBut b o (Nat.ne_of_lt (Heap.lt_size e)) (Heap.get?_push_of_some _ e)
  have e0 := IZ.env0
  rw [hP, hw, hK, hm, hB] at e0
  have J : Inv (lamN X Z.A Z.stack s1 HZ E scope f d) [] σ HZ { s1 with heap := h₁, toks := s1.toks + ([] : List (Str × Value)).length } :=
    (lam_start2 (E := E) (f := f) (c' := d) (tk := s1.toks + ([] : List (Str × Value)).length) I L e0 hd un hns kp).wish _
  apply PySem.W.kla_codeExpr
  refine wpAny_mono ((hb E Z.A Z.stack s1 HZ (hr.deeper _)).run [] _ σ HZ Q J h) (fun u s' ⟨v, H2, J2, rv, q⟩ => ?_) fun _ _ z => z
  exact ⟨v, H2, J2.os, J2.bare, J2.base, J2.hok, rv, q⟩
end
/-- the def that gets the door: its body's wish, told with the door's reading tl (E : what the door lets out) -/
def GivesTo (k : Nat) (X : Cx) (Ng : List Str) (x : Str) (sg : Scope) (g : Addr) (cdg : Value) (bg : List Stmt) (a q : Str) (TT : (XK → Hp → VK → Prop) → Hp → VK → Prop) : Prop :=
  ∀ (f d : Addr) (s : Shared) (H : Hp) (Q : VK) (tl : XK → Hp → VK → Prop), Room (k + 1) (X.A.deeper (envOfC x sg s.heap.objs.size g cdg)) →
    (∀ (W : WX) (pn : List (Addr × Obj)) (xe : Value → Shared → Prop) (p1 p2 : Pos), L2N.Takes ((cxOf C8.CX0 X.prog X.w X.K X.mg X.base Ng x sg g cdg X.A X.stack s H C8.E0).tr pn xe) W →
      PE ((cxOf C8.CX0 X.prog X.w X.K X.mg X.base Ng x sg g cdg X.A X.stack s H C8.E0).tr pn xe) (.Call (.Name a p1) [] [] p2) (fun τ G R => τ[0]? = some (some (.ref f)) ∧ G d = some (CodeO d q) ∧ tl (fun cls e H1 => W cls e τ H1) G R)) →
    H d = some (CodeO d q) → TT tl H Q →
    ∃ t, PSs (cxOf C8.CX0 X.prog X.w X.K X.mg X.base Ng x sg g cdg X.A X.stack s H C8.E0).nox bg t ∧ t { nx := fun _ H' => Q .non H', rt := Q } (L2.start Ng [.ref f]) H
/-- g(lambda: body) -/
def tLam (T : List (Addr × Str)) (TT : (XK → Hp → VK → Prop) → Hp → VK → Prop) (t : XK → TE) : TE := fun σ H Q => Tabs T H ∧ ∀ H1, Grown T H H1 → TT (fun E G R => t E σ G R) H1 Q
section
variable {X : Cx}
/-- the def x that takes a door as a -/
structure TakesDoor (X : Cx) (x a : Str) (g : Addr) (Ng : List Str) (sg : Scope) (cdv : Value) (bg : List Stmt) : Prop where
  glob : Gl X x
  at_ : X.mg x = some (.ref g)
  keep : PySem.W.keepIn X.K (.ref g) = true
  code : PySem.W.codeIn X.K cdv x = true
  obj : ∃ pg dV kV doc pm ct oc an od osl, X.K.lookup g = some ⟨oc, od, .func (PySem.W.fnOf x x pg bg sg dV kV doc pm an cdv ct), osl⟩ ∧ L2.Binds X.K (PySem.W.fnOf x x pg bg sg dV kV doc pm an cdv ct) [a] []
  scope : FnScope Ng [a] sg
  first : Ng[0]? = some a
  vis : Vis sg a
  name : (x == ("__debug__" : Str)) = false := by decide
  par : (a == ("__debug__" : Str)) = false ∧ (a == ("__classdict__" : Str)) = false := by decide
/-- a lambda without parameters, made by X's def, whose code object stands at c, its table at P -/
structure LamOk (X : Cx) (T : List (Addr × Str)) (c P : Addr) (params : Arguments) (scope : Scope) : Prop where
  tab : TabB X.base X.mg c P
  code : X.env.code = .ref c
  mem : (P, X.env.qual ++ "<lambda>") ∈ T
  one : ∀ z ∈ T, z.1 = P → z.2 = X.env.qual ++ "<lambda>"
  names : LamS X.env.scope scope
  dfl : defaultsOf params X.env = ([], [])
  bare : Bare params
theorem pe_lamcall {T : List (Addr × Str)} {TT : (XK → Hp → VK → Prop) → Hp → VK → Prop} {x a : Str} {g c P : Addr} {k : Nat} {Ng : List Str} {sg : Scope} {cdv : Value} {bg : List Stmt} {params : Arguments} {body : Expr} {scope : Scope} {t : XK → TE} {p lpos pos : Pos}
    (Dd : TakesDoor X x a g Ng sg cdv bg) (Lo : LamOk X T c P params scope) (hG : GivesTo k X Ng x sg g cdv bg a (X.env.qual ++ "<lambda>") TT) (hr : Room (k + 2) X.A) (hbody : ∀ f d, BodyN X k scope body f d t) : PE X (.Call (.Name x p) [.Lambda params body scope lpos] [] pos) (tLam T TT t) := by
  obtain ⟨hg, hm, hk, hcg, ⟨pg, dV, kV, doc, pm, ct, oc, an, od, osl, lk, hb⟩, Sg, hNg, hva, hdb, hd, hcd⟩ := Dd
  obtain ⟨TB, hcode, hmT, hu, L, hdef, hp⟩ := Lo
  constructor
  intro pins s σ H Q I ⟨hT, h⟩
  apply wpAny_Call_Name_kw (ld_glob I hg hm ?_ hdb)
  apply PySem.W.callWith_K (h₀ := X.base) I.ok.mod.kin hk ?_ (by rfl) (by rfl)
  show wpAny _ _ (spliced ((false, eval (.Lambda params body scope lpos) X.env) :: backTo pos (starEach [] X.env))) _ _ s
  apply Calls.spliced_cons
  refine lam_new I TB hcode hmT hu hT hdef (L.has I.ok) fun f d H1 s1 I1 G La => ?_
  refine Calls.spliced_nil ⟨I1.kIn, wpAny_call (codeAny_mono (run_ofS (CX := C8.CX0) (E := C8.E0) (Q := Q) (N := Ng) (ps := [a]) (us := [.ref f]) (vs := [.ref f]) lk hcg Sg hr I1.env0 (hb s1 [.ref f] I1.kIn rfl) (.cons rfl .nil) rfl fun hr2 => ?_) fun r s2 hq => ?_)⟩
  · obtain ⟨u, h1, h2⟩ := hG f d s1 H1 Q (fun E G R => t E σ G R) hr2 (fun W pn xe p1 p2 tk => ⟨fun pinsZ sZ τ GZ R IZ ⟨w1, w2, w3⟩ =>
      wpAny_Call_Name_kw (thn ((pe_var (pos := p1) (i := 0) hNg hva hd hcd).run pinsZ sZ τ GZ (fun v H2 => v = .ref f ∧ H2 = GZ) IZ ⟨_, w1, rfl, rfl⟩) fun v s3 hv => by
        obtain ⟨w, H3, I3, rw3, e1, e2⟩ := hv
        subst e1 e2
        obtain rfl : v = Value.ref f := rw3
        obtain ⟨pm', ctv', ho⟩ := La.obj
        have un : Un (frs X.stack) [] H1 H3 s1.heap s3.heap := I3.base
        refine PySem.W.callWith_F0 ⟨_, _, _, _, un.keep f _ ho La.un La.nofr fun z => nomatch z⟩ (wpAny_call (codeAny_mono (lam_run (X := X) (Z := (cxOf C8.CX0 X.prog X.w X.K X.mg X.base Ng x sg g cdv X.A X.stack s1 H1 C8.E0).tr pn xe) (E := fun cls e H1 => W cls e τ H1) (Q := R) I1 L La hp (hbody f d) rfl rfl rfl rfl rfl hr2.hd hr2 I3 un w2 w3) fun r s4 hq => ?_))
        cases r with
        | error e => exact L2N.passAt tk τ pinsZ H3 s3 e s4 I3 hq
        | ok fl => cases fl with
          | ret u => exact I3.after hq
          | _ => exact hq.elim)⟩) La.code (h H1 G)
    exact ⟨u, h1.nox, h2⟩
  · cases r with
    | error e => exact (show False from hq).elim
    | ok fl => cases fl with
      | ret u => exact I1.after hq
      | _ => exact (show False from hq).elim
end
end HT
/-! HL3: a def called in an except suite with the exception that is handled; isinstance of it there. -/
namespace HT
open PySem PySem.Spec PyProof.Rows L2 LamX HotX L2H
/-- the def fd at f, called where p is handled, does what sp asks of p -/
def FnX (P : Program) (w : World) (K : PySem.W.Frag) (mg : Str → Option Value) (base : Heap) (CX : CXT) (k : Nat) (f : Addr) (a : Str) (fd : FuncData) (sp : Addr × Obj → V → Hp → VK → Prop) : Prop :=
  ∀ (A : Around) (outer : List Env) (s : Shared) (H : Hp) (u : Value) (v : V) (Q : VK) (E : XK) (p : Addr × Obj), RoomH k A → Hot1 A p → PinOk outer H s p → Env0 P w K mg base A outer s H → BindsTo s fd ⟨[u], []⟩ [(a, u)] → RelV v u → sp p v H Q →
    codeAny (model P w) A (.call (.ref f) ⟨[u], []⟩) (CR CX outer P w H s Q E) s
section
variable {CX : CXT} {P : Program} {w : World} {K : PySem.W.Frag} {mg : Str → Option Value} {base : Heap} {k : Nat} {f : Addr} {x qual a : Str} {params : Arguments} {body : List Stmt} {scope : Scope} {fd : FuncData} {N : List Str} {sp : Addr × Obj → V → Hp → VK → Prop}
theorem fn_ofX (Fd : FunD K x qual params body scope [] [] f fd) (S : FnScope N [a] scope)
    (hbody : ∀ (cdv : Value) (A : Around) (outer : List Env) (s : Shared) (H : Hp) (v : V) (Q : VK) (E : XK) (p : Addr × Obj), Hot1 A p → RoomH k (A.deeper (envOfC qual scope s.heap.objs.size f cdv)) → sp p v H Q →
      ∃ t, PSs (cxH CX P w K mg base N qual scope f cdv A outer s H E p) body t ∧ t { nx := fun _ H' => Q .non H', rt := Q } (L2.start N [v]) H) : FnX P w K mg base CX (k + 1) f a fd sp := by
  obtain ⟨oc, od, dV, kV, doc, pm, an, cdv, ct, osl, rfl, lk, hcd, _, _⟩ := Fd.ex
  intro A outer s H u v Q E p hr hot hpin e0 hb rv h
  have kin := e0.mod.kin.keeps fun b o e => (e0.bs b o e).1
  have noLim := e0.mod.nolimit.keeps fun b o e => (e0.bs b o e).1
  have kinds : ∀ y ∈ [(a, u)], scope.names.lookup y.1 = some .local ∨ (scope.names.lookup y.1 = some .cell ∧ ((cellsFrom (s.heap.objs.size + 1) scope.names []).lookup y.1).isSome = true) := by
    intro y hy
    cases List.mem_singleton.mp hy
    exact (S.par a List.mem_cons_self).imp id fun q => ⟨q, PySem.W.cellsFrom_some _ _ _ (.inl q)⟩
  apply codeAny_call_function hr.depth (kin _ _ lk) rfl S.co S.gen rfl (PySem.W.codeRec_of kin hcd) (hb _ _ _ _ ?_)
  apply wpAny_newFunctionEnv_cells S.kind kinds
  rintro env rfl s1 x1
  refine ⟨noLim.keeps x1.toInCall.keep, codeAny_func ?_⟩
  obtain ⟨t, ht, hq⟩ := hbody cdv A outer s H v Q E p hot (hr.deeper _) h
  have I := inv_startH (CX := CX) (E := E) (us := [u]) (vs := [v]) S hpin e0 rfl (.cons rv .nil) x1
  refine wpAny_mono (ht.run [] s1 _ H _ I hq) (fun fl s' hs => ?_) fun _ _ z => z
  cases fl with
  | next => obtain ⟨τ, G, J, q⟩ := hs; exact ⟨V.non, G, J.os, J.bare, J.base, J.hok, rfl, q⟩
  | ret r => obtain ⟨y, τ, G, J, ry, q⟩ := hs; exact ⟨y, G, J.os, J.bare, J.base, J.hok, ry, q⟩
  | brk => obtain ⟨τ, G, J, q⟩ := hs; exact q.elim
  | cont => obtain ⟨τ, G, J, q⟩ := hs; exact q.elim
end
section
variable {X : Cx} {CX : CXT} {k : Nat} {f : Addr} {x a : Str} {q pos : Pos} {e : Expr} {te : TE} {fd : FuncData} {sp : Addr × Obj → V → Hp → VK → Prop} {p : Addr × Obj} {E : XK}
/-- one argument handed over -/
def tAsk (sp : Addr × Obj → V → Hp → VK → Prop) (p : Addr × Obj) (te : TE) : TE := fun σ H Q => tCons te tNil σ H fun vs H1 => ∃ v, vs = [v] ∧ sp p v H1 Q
/-- x(e), p handled in X; nothing is let out -/
theorem pe_callX (F : FnX X.prog X.w X.K X.mg X.base C8.CX0 k f a fd sp) (hr : RoomH k X.A) (hot : Hot1 X.A p) (hp : p ∈ X.pn) (hg : Gl X x) (hm : X.mg x = some (.ref f)) (hk : PySem.W.keepIn X.K (.ref f) = true) (hb : L2.Binds X.K fd [a] []) (he : PE X e te)
    (hdb : (x == ("__debug__" : Str)) = false := by decide) (hst : starEach [e] X.env = (false, eval e X.env) :: starEach [] X.env := by rfl) (hpl : (backTo pos (starEach [] X.env)).any (·.1) = false := by rfl) :
    PE X (.Call (.Name x q) [e] [] pos) (tAsk sp p te) := by
  constructor
  intro pins s σ H Q I h
  have ha : PA X [e] (tCons te tNil) := pa_cons he pa_nil hst
  apply wpAny_Call_Name_kw (ld_glob I hg hm ?_ hdb)
  apply PySem.W.callWith_K (h₀ := X.base) I.ok.mod.kin hk (thn (ha.run pos pins s σ H _ I h) fun us s1 hus => ?_) hst hpl
  obtain ⟨vs, H1, I1, r, v, e1, w⟩ := hus
  subst e1
  cases r with
  | cons rv rn =>
    cases rn
    obtain ⟨g1, g2, g3, g4, g5⟩ := I1.pin p (List.mem_append_left _ hp)
    have po : PinOk X.stack H1 s1 p := ⟨g1, g2, fun m => (List.mem_cons.mp (I1.stkSub p.1 m)).elim g3 g4, g5⟩
    refine ⟨I1.kIn, wpAny_call (codeAny_mono (F X.A X.stack s1 H1 _ v Q C8.E0 p hr hot po I1.env0 (hb s1 _ I1.kIn rfl) rv w) fun o s2 ho => ?_)⟩
    cases o with
    | error _ => exact (show False from ho).elim
    | ok fl => cases fl with
      | ret y => exact I1.after ho
      | _ => exact (show False from ho).elim
end
/-- isinstance(e, c), e the exception p of the context -/
theorem call_isX {X : Cx} {p : Addr × Obj} {D : Addr} (hp : p ∈ X.pn) (C : L2.ExcC X.K D) (hz : Zc (.ref D) none p.2) (hf : ∃ vs, p.2.data = .fields vs) : CallR X (.builtin "isinstance") (rIsE X.K D p.1) := by
  rintro pins s σ H _ us Q I r ⟨c, cv, b, rfl, hcv, hk, q⟩
  obtain ⟨a, oc, od, dat, sl⟩ := p
  obtain ⟨rfl, rfl⟩ : oc = _ ∧ od = _ := hz
  obtain ⟨vs, rfl⟩ : ∃ vs, dat = _ := hf
  cases r with
  | cons r1 r2 => cases r2 with
    | cons r3 r4 =>
      cases r4
      cases r1
      cases hcv _ r3
      have inst : PySem.W.InstAt s.heap a _ D none := ⟨(I.pin _ (List.mem_append_left _ hp)).1, rfl, rfl, trivial⟩
      refine PySem.W.kia_one (PySem.W.handS_kitx_exc C.hg C.hk C.hs C.hd C.ha C.hn C.ht C.hm) I.kIn inst hk (fun z => nomatch z) fun tk => ?_
      exact ⟨.bl b, H, I.kept (t' := tk) fun _ _ z => z, rfl, q⟩
end HT
/-! HL4: iterators that end while an exception is handled. -/
namespace HT
open PySem PySem.Spec PyProof.Rows HotX
section
variable {prog : Program} {w : World} {A : Around} {E : Value → Shared → Prop} {s : Shared}
theorem hot_keep {x1 : Addr} {h h' : Heap} (t : HotAt A x1 h) (k : ∀ o, h.get? x1 = some o → h'.get? x1 = some o) : HotAt A x1 h' :=
  ⟨t.1, let ⟨o, vs, b, c⟩ := t.2; ⟨o, vs, k o b, c⟩⟩
/-- StopIteration made and raised -/
theorem stopped {α : Type} {x1 : Addr} {Q : α → Shared → Prop} (hot : HotAt A x1 s.heap)
    (hE : ∀ h' e, (∀ b o, s.heap.get? b = some o → h'.get? b = some o) → (∃ o, h'.get? e = some o ∧ o.cls = .type "StopIteration") → E (.ref e) { s with heap := h' }) :
    wpAny (model prog w) A ((newExc (.type "StopIteration") [] >>= fun e => raiseNew e) : Sem α) Q E s := by
  have up : ∀ (o1 o2 : Obj), ∀ b o, s.heap.get? b = some o → ((s.heap.push o1).push o2).get? b = some o := fun o1 o2 b o e => Heap.get?_push_of_some _ (Heap.get?_push_of_some _ e)
  apply wpAny_bind
  unfold newExc newTuple
  apply wpAny_bind
  refine wpAny_newObj_type ?_ (by size_fits)
  refine wpAny_bind (m := firstArgMember _ _) (wpAny_of_eq (a := Value.none) (by first | rfl | (simp only [firstArgMember]; rfl)) ?_)
  refine wpAny_newObj_type ?_ (by size_fits)
  obtain ⟨o1, vs1, g1, _⟩ := hot.2
  refine raiseNew_hot (x1 := x1) (hot_keep hot fun o e => up _ _ x1 o e) (Nat.ne_of_lt (Heap.lt_size (Heap.get?_push_of_some _ g1))) (Heap.get?_push_size _ rfl) rfl (by first | (simp; done) | (simp; omega) | (simp only [Array.size_append]; simp; omega)) ?_
  refine hE _ _ (fun b o e => ?_) ⟨_, Heap.get?_update_self _ (Heap.get?_push_size _ rfl) rfl, rfl⟩
  exact (Heap.get?_update_other _ _ (Nat.ne_of_gt (Heap.lt_size (Heap.get?_push_of_some _ e)))).trans (up _ _ b o e)
/-- a list iterator at its list's end, seen by its slot -/
theorem list_stop {it l x1 : Addr} {i : Nat} {items : Array Value} {Q : Fin → Shared → Prop} (hot : HotAt A x1 s.heap) (ne : x1 ≠ it) (hit : s.heap.IsListIter it l i) (hl : s.heap.IsList l items) (hx : items[i]? = none)
    (hE : ∀ h' e, Heap.ExtBut it s.heap h' → (∃ o, h'.get? e = some o ∧ o.cls = .type "StopIteration") → E (.ref e) { s with heap := h' }) :
    wpAny (model prog w) A (Builtin.«list_iterator.__next__» ⟨[.ref it], []⟩) Q E s := by
  obtain ⟨o, ho, _, hd⟩ := hit
  obtain ⟨p, hp, _, n, hdp⟩ := hl
  show wpAny _ _ (field (.ref it) 0 >>= _) _ _ s
  apply wpAny_bind
  apply wpAny_field ho hd (x := .ref l) rfl
  show wpAny _ _ (if (Value.ref l == Value.none) = true then _ else _) _ _ s
  rw [if_neg (show ¬ ((Value.ref l == Value.none) = true) from Bool.false_ne_true)]
  show wpAny _ _ (field (.ref it) 1 >>= _) _ _ s
  apply wpAny_bind
  apply wpAny_field ho hd (x := .int i 0) rfl
  show wpAny _ _ (seqItems? (.ref l) >>= _) _ _ s
  apply wpAny_bind
  apply wpAny_seqItems hp hdp
  simp only [Int.toNat_natCast, hx]
  apply wpAny_bind
  apply wpAny_rule
  apply wpAny_bind
  apply wpAny_setField ho hd (by simp)
  have oth : ∀ b, b ≠ it → (s.heap.update it (Obj.mapFields fun x => x.setIfInBounds 0 Value.none)).get? b = s.heap.get? b := fun b n => Heap.get?_update_other _ _ (Ne.symm n)
  refine stopped (hot_keep hot fun o e => (oth x1 ne).trans e) fun h' e k z => ?_
  exact hE h' e (fun b o n q => k b o ((oth b n).trans q)) z
/-- .. asked by nextOf -/
theorem nextOf_stop {it l x1 : Addr} {i : Nat} {items : Array Value} {Q : Value → Shared → Prop} (hot : HotAt A x1 s.heap) (ne : x1 ≠ it) (hit : s.heap.IsListIter it l i) (hl : s.heap.IsList l items) (hx : items[i]? = none)
    (hE : ∀ h' e, Heap.ExtBut it s.heap h' → (∃ o, h'.get? e = some o ∧ o.cls = .type "StopIteration") → E (.ref e) { s with heap := h' }) : wpAny (model prog w) A (Builtin.SmallTypes.nextOf (.ref it)) Q E s := by
  unfold Builtin.SmallTypes.nextOf
  apply wpAny_bind
  apply wpAny_callSpecial?_slot (name := Str.ofString "__next__") hit.typeIs slot_listiter_next
  exact wpAny_call_entry slot_listiter_next hit.typeIs entry_listiter_next (list_stop (A := A.in1) hot ne hit hl hx hE) (args_listiter_next _)
/-- a tuple iterator at its end -/
theorem tup_stop {it t x1 : Addr} {i : Nat} {items : Array Value} {Q : Option Value → Shared → Prop} (hot : HotAt A x1 s.heap) (ne : x1 ≠ it) (hit : IsTupIter s.heap it t i) (ht : IsTup s.heap t items) (hx : items[i]? = none)
    (hQ : ∀ h', Heap.ExtBut it s.heap h' → Q none { s with heap := h' }) : wpAny (model prog w) A (pyNext (.ref it)) Q E s := by
  have run : ∀ {Q' : Fin → Shared → Prop} {E' : Value → Shared → Prop}, (∀ h' e, Heap.ExtBut it s.heap h' → (∃ o, h'.get? e = some o ∧ o.cls = .type "StopIteration") → E' (.ref e) { s with heap := h' }) → wpAny (model prog w) A.in1 (Builtin.«tuple_iterator.__next__» ⟨[.ref it], []⟩) Q' E' s := by
    intro Q' E' hE
    obtain ⟨o, ho, _, hd⟩ := id hit
    obtain ⟨p, hp, _, n, hdp⟩ := ht
    show wpAny _ _ (field (.ref it) 0 >>= _) _ _ s
    apply wpAny_bind
    apply wpAny_field ho hd (x := .ref t) rfl
    show wpAny _ _ (if (Value.ref t == Value.none) = true then _ else _) _ _ s
    rw [if_neg (show ¬ ((Value.ref t == Value.none) = true) from Bool.false_ne_true)]
    show wpAny _ _ (field (.ref it) 1 >>= _) _ _ s
    apply wpAny_bind
    apply wpAny_field ho hd (x := .int i 0) rfl
    show wpAny _ _ (seqItems? (.ref t) >>= _) _ _ s
    apply wpAny_bind
    apply wpAny_seqItems hp hdp
    simp only [Int.toNat_natCast, hx]
    apply wpAny_bind
    apply wpAny_rule
    apply wpAny_bind
    apply wpAny_setField ho hd (by simp)
    have oth : ∀ b, b ≠ it → (s.heap.update it (Obj.mapFields fun x => x.setIfInBounds 0 Value.none)).get? b = s.heap.get? b := fun b n => Heap.get?_update_other _ _ (Ne.symm n)
    refine stopped (x1 := x1) (hot_keep (A := A.in1) hot fun o e => (oth x1 ne).trans e) fun h' e k z => ?_
    exact hE h' e (fun b o n q => k b o ((oth b n).trans q)) z
  unfold pyNext
  apply wpAny_bind
  apply wpAny_attempt
  apply wpAny_callSpecial?_slot (name := Str.ofString "__next__") hit.typeIs slot_tupleiter_next
  refine wpAny_call_entry slot_tupleiter_next hit.typeIs entry_tupleiter_next (run fun h' e k ⟨o, z1, z2⟩ => ?_) (args_tupleiter_next _)
  exact wpAny_bind (wpAny_isInstance (T := "StopIteration") (b := true) ⟨o, z1, z2⟩ isSubtype_stop (wpAny_pure (hQ h' k)))
/-- a tuple's items taken apart -/
theorem items_hot {t x1 : Addr} {items : Array Value} {Q : List Value → Shared → Prop} (hot : HotAt A x1 s.heap) (ht : IsTup s.heap t items)
    (hQ : ∀ h', (∀ b o, s.heap.get? b = some o → h'.get? b = some o) → Q items.toList { s with heap := h' }) : wpAny (model prog w) A (unpackItems (.ref t) items.size none) Q E s := by
  have old : ∀ {b : Addr} {o : Obj}, s.heap.get? b = some o → b ≠ s.heap.objs.size := fun e => Nat.ne_of_lt (Heap.lt_size e)
  have nt : t ≠ s.heap.objs.size := let ⟨_, e, _⟩ := ht; old e
  have nx : x1 ≠ s.heap.objs.size := let ⟨_, _, _, e, _⟩ := hot; old e
  unfold unpackItems notIterableAtAll
  refine wpAny_bind (wpAny_bind (wpAny_specialOf ht.typeIs slot_tuple_iter.lookup (wpAny_pure ?_)))
  rw [if_neg Bool.false_ne_true]
  apply wpAny_bind
  apply wpAny_holding
  apply iter_tuple ht
  apply wpAny_bind
  apply wpAny_holding
  refine draw_tuple nt items.size 0 _ _ ⟨_, Heap.get?_push_size _ rfl, rfl, rfl⟩ (ht.push _) (by omega) fun h1 it1 sb => ?_
  have k1 : ∀ b o, s.heap.get? b = some o → h1.get? b = some o := fun b o e => sb.extBut b o (old e) (Heap.get?_push_of_some _ e)
  rw [List.drop_zero, List.take_of_length_le (by simp), if_neg (by simp)]
  apply wpAny_bind
  apply wpAny_holding
  refine tup_stop (hot_keep hot fun o e => k1 x1 o e) nx it1 ((ht.push _).extBut sb.extBut nt) (by simp) fun h2 k2 => ?_
  exact wpAny_pure (hQ h2 fun b o e => k2 b o (old e) (k1 b o e))
end
end HT
/-! HL5: contexts in which an exception is handled; targets there. -/
namespace HT
open PySem PySem.Spec PyProof.Rows L2 HotX L2H
/-- in every state of the context the handled exception stands, its context None -/
def HotG (X : Cx) : Prop := ∃ (x1 : Addr) (o : Obj) (vs : Array Value) (D : Addr), X.A.handled = some (.ref x1) ∧ o.cls = .ref D ∧ o.data = .fields vs ∧ vs[2]? = some .none ∧ ∀ pins σ H s, Inv X pins σ H s → s.heap.get? x1 = some o
/-- .. it is pinned -/
def HotP (X : Cx) : Prop := ∃ (p : Addr × Obj) (D : Addr), Hot1 X.A p ∧ p.2.cls = .ref D ∧ p ∈ X.pn
theorem HotP.g {X : Cx} (h : HotP X) : HotG X := by
  obtain ⟨p, D, ⟨a, vs, b, c⟩, d, e⟩ := h
  exact ⟨p.1, p.2, vs, D, a, d, b, c, fun pins σ H s I => (I.pin p (List.mem_append_left _ e)).1⟩
theorem HotG.at {X : Cx} (h : HotG X) {pins : List (Addr × Obj)} {σ : L2.St} {H : Hp} {s : Shared} (I : Inv X pins σ H s) : ∃ x1, HotAt X.A x1 s.heap ∧ ∀ b o, s.heap.get? b = some o → (∀ D, o.cls ≠ .ref D) → x1 ≠ b := by
  obtain ⟨x1, o, vs, D, a, b, c, d, e⟩ := h
  refine ⟨x1, ⟨a, o, vs, e pins σ H s I, c, d⟩, fun b' o' h1 h2 z => ?_⟩
  subst z
  rw [e pins σ H s I] at h1
  cases h1
  exact h2 D b
/-- a block of such a context -/
theorem HotP.blk {X : Cx} (h : HotP X) {pins : List (Addr × Obj)} {σ : L2.St} {H : Hp} {s : Shared} {scope : Scope} {cenv : Env} {fp : List Addr} (I : Inv X pins σ H s) (hf : ∀ b ∈ fp, FpOk X pins H b) : HotG (X.blk s H scope cenv fp) := by
  obtain ⟨p, D, ⟨a, vs, b, c⟩, d, e⟩ := h
  obtain ⟨g1, g2, g3, g4, _⟩ := I.pin p (List.mem_append_left _ e)
  refine ⟨p.1, p.2, vs, D, a, d, b, c, fun pins' σ' H' s' I' => ?_⟩
  refine I'.base.keep p.1 p.2 g1 g2 (fun hm => ?_) fun hm => (hf p.1 hm).2.2.2.2.2 p (List.mem_append_left _ e) rfl
  exact (List.mem_cons.mp (I.stkSub p.1 hm)).elim g3 g4
/-- (a, b, ..) = a tuple, there -/
theorem pg_tupG {X : Cx} {pos : Pos} {es : List Expr} {k : Nat} {t : TGs} {n : Nat} (hc : HotG X) (h : PGs X es t) (hn : (assignEach es X.env).length = n := by rfl) (hst : (assignEach es X.env).findIdx? (·.1) = none := by rfl) : PG X (.Tuple es k pos) (gTup X.K n t) := by
  constructor
  rintro pins s σ H _ u Q I r ⟨a, xs, rfl, hq, hl, hw⟩
  cases r
  obtain ⟨its, rv, ht, _⟩ := I.tuple hq
  obtain ⟨x1, hot, _⟩ := hc.at I
  have hsz : (assignEach es X.env).length = its.toArray.size := by rw [hn, ← hl, rv.length, List.size_toArray]
  rw [assign_Tuple]
  apply wpAny_bind
  apply wpAny_standAt
  unfold unpack
  rw [hsz, hst]
  apply wpAny_bind
  apply wpAny_holding
  refine items_hot hot ht fun h' kp => ?_
  exact h.run pins _ σ H xs its Q (I.kept (t' := s.toks) kp) rv hw
end HT
/-! HL6: the end of a zip while an exception is handled. -/
namespace HT
open PySem PySem.Spec PyProof.Rows HotX
section
variable {prog : Program} {w : World} {A : Around} {E : Value → Shared → Prop} {s : Shared}
/-- all but the zip's own four cells is as it was -/
def Zk (z TO i1 i2 : Addr) (h h' : Heap) : Prop := ∀ c o, c ≠ z → c ≠ TO → c ≠ i1 → c ≠ i2 → h.get? c = some o → h'.get? c = some o
theorem zip_stop {z TI TO i1 i2 l1 l2 x1 : Addr} {k1 k2 : Nat} {xs ys : Array Value} {a b : Value} {Q : Fin → Shared → Prop} (hot : HotAt A x1 s.heap) (n1 : x1 ≠ z) (n2 : x1 ≠ TO) (n3 : x1 ≠ i1) (n4 : x1 ≠ i2) (D : ZipApart z TI TO i1 i2 l1 l2)
    (hz : IsZip s.heap z TI TO .none) (hTI : IsPair s.heap TI (.ref i1) (.ref i2)) (hTO : IsPair s.heap TO a b) (h1 : s.heap.IsListIter i1 l1 k1) (h2 : s.heap.IsListIter i2 l2 k2) (hl1 : s.heap.IsList l1 xs) (hl2 : s.heap.IsList l2 ys) (hend : xs[k1]? = none ∨ ys[k2]? = none)
    (hE : ∀ h' e, Zk z TO i1 i2 s.heap h' → (∃ o, h'.get? e = some o ∧ o.cls = .type "StopIteration") → E (.ref e) { s with heap := h' }) : wpAny (model prog w) A (Builtin.«zip.__next__» ⟨[.ref z], []⟩) Q E s := by
  -- what is done when a draw raises: the flag is put back
  have back : ∀ {h h' : Heap} {e c : Addr}, IsZip h z TI TO .ellipsis → Zk z TO i1 i2 s.heap h → Heap.ExtBut c h h' → c ≠ z → (c = i1 ∨ c = i2) → (∃ o, h'.get? e = some o ∧ o.cls = .type "StopIteration") →
      wpAny (model prog w) A (setField (.ref z) 0 .none) (fun _ s'' => E (.ref e) s'') E { s with heap := h' } := fun {h h' e c} iz kz ex ncz hci ⟨oe, ge, ce⟩ => by
    have iz' : IsZip h' z TI TO .ellipsis := ex z _ (Ne.symm ncz) iz
    have nez : e ≠ z := fun y => by
      rw [y] at ge
      have q := Option.some.inj (ge.symm.trans iz')
      rw [q] at ce
      simp at ce
    refine wpAny_setField_rec (s := { s with heap := h' }) iz' (by simp) fun h3 _ sb => hE h3 e (fun c' o m1 m2 m3 m4 g => ?_) ⟨oe, sb.extBut _ _ nez ge, ce⟩
    refine sb.extBut _ _ m1 (ex c' o ?_ (kz c' o m1 m2 m3 m4 g))
    rcases hci with y | y
    · rw [y]; exact m3
    · rw [y]; exact m4
  show wpAny _ _ (field (.ref z) 2 >>= _) _ _ _
  apply wpAny_bind
  apply wpAny_field hz rfl (x := .bool false) rfl
  show wpAny _ _ (field (.ref z) 3 >>= _) _ _ _
  apply wpAny_bind
  apply wpAny_field hz rfl (x := .ref TI) rfl
  apply wpAny_bind
  apply wpAny_seqItems hTI rfl
  show wpAny _ _ (Builtin.SmallTypes.ownedTupleIsFree (.ref z) >>= _) _ _ _
  apply wpAny_bind
  unfold Builtin.SmallTypes.ownedTupleIsFree
  apply wpAny_bind
  apply wpAny_field hz rfl (x := .none) rfl
  apply wpAny_pure
  rw [if_pos rfl]
  apply wpAny_bind
  apply wpAny_rule
  apply wpAny_bind
  apply wpAny_field hz rfl (x := .ref TO) rfl
  apply wpAny_bind
  refine wpAny_setField_rec hz (by simp) fun g1 iz1 b1 => ?_
  have iz1 : IsZip g1 z TI TO .ellipsis := iz1
  have K1 : Zk z TO i1 i2 s.heap g1 := fun c o m _ _ _ e => b1.extBut _ _ m e
  apply wpAny_bind
  simp only [List.zipIdx_cons, List.zipIdx_nil, List.forIn_cons, List.forIn_nil]
  have r1 : g1.IsListIter i1 l1 k1 := h1.extBut b1.extBut D.i1z
  have m1 : g1.IsList l1 xs := hl1.extBut b1.extBut D.l1z
  have hot1 : HotAt A x1 g1 := hot_keep hot fun o e => b1.extBut _ _ n1 e
  apply wpAny_bind
  apply wpAny_bind
  apply wpAny_onRaise
  show wpAny _ _ (Builtin.SmallTypes.nextOf (.ref i1) >>= _) _ _ _
  apply wpAny_bind
  cases hx : xs[k1]? with
  | none => exact nextOf_stop (s := { s with heap := g1 }) hot1 n3 r1 m1 hx fun h' e ex st => back iz1 K1 ex D.i1z (.inl rfl) st
  | some x =>
    have hy : ys[k2]? = none := hend.resolve_left fun y => by rw [hx] at y; cases y
    refine wpAny_nextOf_list_item (s := { s with heap := g1 }) r1 m1 hx fun g2 _ b2 => wpAny_pure ?_
    have t2 : IsPair g2 TO a b := b2.extBut _ _ D.TOi1 (b1.extBut _ _ D.TOz hTO)
    apply wpAny_bind
    apply wpAny_seqItems (s := { s with heap := g2 }) t2 rfl
    apply wpAny_bind
    refine wpAny_updateSeq_pair (s := { s with heap := g2 }) t2 fun g3 _ b3 => ?_
    apply wpAny_bind
    apply wpAny_letGo
    apply wpAny_pure
    have up : ∀ {c o}, c ≠ z → c ≠ i1 → c ≠ TO → s.heap.get? c = some o → g3.get? c = some o := fun p q r e => b3.extBut _ _ r (b2.extBut _ _ q (b1.extBut _ _ p e))
    have iz3 : IsZip g3 z TI TO .ellipsis := b3.extBut _ _ D.TOz.symm (b2.extBut _ _ D.i1z.symm iz1)
    have r3 : g3.IsListIter i2 l2 k2 := ((h2.extBut b1.extBut D.i2z).extBut b2.extBut D.i12.symm).extBut b3.extBut D.TOi2.symm
    have m3 : g3.IsList l2 ys := ((hl2.extBut b1.extBut D.l2z).extBut b2.extBut D.l2i1).extBut b3.extBut D.l2TO
    apply wpAny_bind
    apply wpAny_bind
    apply wpAny_onRaise
    show wpAny _ _ (Builtin.SmallTypes.nextOf (.ref i2) >>= _) _ _ _
    apply wpAny_bind
    exact nextOf_stop (s := { s with heap := g3 }) (hot_keep hot fun o e => up n1 n3 n2 e) n4 r3 m3 hy fun h' e ex st => back iz3 (fun c o p q r _ g => up p r q g) ex D.i2z (.inr rfl) st
end
end HT
/-! HL7: a zip walked while an exception is handled. -/
namespace HT
open PySem PySem.Spec PyProof.Rows L2 HotX L2H
/-- an iterator's turns, there -/
structure TurnG (P : Program) (w : World) (K : PySem.W.Frag) (tg : Expr) (J : It) (fp : List Addr) (it : Addr) (tn : Nat → Heap → Prop) : Prop where
  cold : Turn P w K tg J fp it tn
  item : ∀ (X : Cx), X.prog = P → X.w = w → X.K = K → HotG X → ∀ (i : Nat) (pins : List (Addr × Obj)) (s : Shared) (σ : L2.St) (H : Hp) (E : Value → Shared → Prop), Inv X pins σ H s → (∀ b ∈ fp, FpOk X pins H b) → tn i s.heap → J.go i H →
    wpAny (model P w) X.A (pyNext (.ref it)) (fun r s1 => ∃ u, r = some u ∧ wpAny (model P w) X.A (letOwnedTupleGo tg (.ref it) u) (fun _ s2 => ∃ x H', Inv X pins σ H' s2 ∧ RelV x u ∧ J.yld i H x H' ∧ tn (i + 1) s2.heap ∧ ∀ b ∈ fp, H' b = none) E s1) E s
  done : ∀ (X : Cx), X.prog = P → X.w = w → X.K = K → HotG X → ∀ (i : Nat) (pins : List (Addr × Obj)) (s : Shared) (σ : L2.St) (H : Hp) (E : Value → Shared → Prop), Inv X pins σ H s → (∀ b ∈ fp, FpOk X pins H b) → tn i s.heap → J.stop i H →
    wpAny (model P w) X.A (pyNext (.ref it)) (fun r s1 => r = none ∧ Inv X pins σ H s1) E s
/-- what a zip of the lists at a and b is at its i-th turn -/
abbrev ZipAt (z TI TO i1 i2 a b : Addr) (i : Nat) (h : Heap) : Prop := IsZip h z TI TO .none ∧ IsPair h TI (.ref i1) (.ref i2) ∧ (∃ x y, IsPair h TO x y) ∧ h.IsListIter i1 a i ∧ h.IsListIter i2 b i
section
variable {P : Program} {w : World} {K : PySem.W.Frag} {elts : List Expr} {kk : Nat} {tpos : Pos} {a b z TI TO i1 i2 : Addr}
theorem zip_item (D : ZipApart z TI TO i1 i2 a b) {X : Cx} {i : Nat} {pins : List (Addr × Obj)} {s : Shared} {σ : L2.St} {H : Hp} {E : Value → Shared → Prop} (I : Inv X pins σ H s) (hf : ∀ c ∈ [z, TI, TO, i1, i2], FpOk X pins H c) (st : ZipAt z TI TO i1 i2 a b i s.heap) (hg : (Itz X.K a b).go i H) :
    wpAny (model X.prog X.w) X.A (pyNext (.ref z)) (fun r s1 => ∃ u, r = some u ∧ wpAny (model X.prog X.w) X.A (letOwnedTupleGo (.Tuple elts kk tpos) (.ref z) u) (fun _ s2 => ∃ x H', Inv X pins σ H' s2 ∧ RelV x u ∧ (Itz X.K a b).yld i H x H' ∧ ZipAt z TI TO i1 i2 a b (i + 1) s2.heap ∧ ∀ c ∈ [z, TI, TO, i1, i2], H' c = none) E s1) E s := by
  obtain ⟨c1, c2, ⟨u0, v0, c3⟩, c4, c5⟩ := st
  obtain ⟨xs, ys, x, y, q1, q2, q3, q4⟩ := hg
  obtain ⟨us, ru, pu, _⟩ := I.list q1
  obtain ⟨vs, rv, pv, _⟩ := I.list q2
  obtain ⟨u, hu, r1⟩ := ru.get q3
  obtain ⟨v, hv, r2⟩ := rv.get q4
  have low : ∀ c ∈ [z, TI, TO, i1, i2], c < s.heap.objs.size := by
    intro c hc
    obtain ⟨o, e, _⟩ := (turn_zip (P := X.prog) (w := X.w) (K := X.K) (elts := elts) (kk := kk) (tpos := tpos) D).obj i s.heap ⟨c1, c2, ⟨u0, v0, c3⟩, c4, c5⟩ c hc
    exact Heap.lt_size e
  refine wpAny_pyNext_zip_item D c1 c2 c3 c4 c5 pu.isList pv.isList (x := u) (y := v) (by simpa using hu) (by simpa using hv) fun g d1 d2 d3 d4 d5 _ d6 => ⟨_, rfl, wpAny_letOwnedTupleGo_zip (s := { s with heap := g }) d1 fun g2 d7 sb => ?_⟩
  have here : g2.get? s.heap.objs.size = some { cls := .type "tuple", data := .seq #[u, v] } := (sb.2 _ (Nat.ne_of_gt (low z (by simp)))).trans d5
  have made : ObjOk X.prog X.w (upd H s.heap.objs.size (.tup [x, y])) g2 s.heap.objs.size (.tup [x, y]) := ⟨(by show 2 ≤ sizeLine; decide), [u, v], .cons r1 (.cons r2 .nil), _, here, rfl, _, rfl⟩
  have stay : ∀ c o, c ∉ [z, TI, TO, i1, i2] → s.heap.get? c = some o → g2.get? c = some o := fun c o n e => by
    have m : c ≠ z ∧ c ≠ TI ∧ c ≠ TO ∧ c ≠ i1 ∧ c ≠ i2 := by simpa using n
    exact (sb.2 c m.1).trans (d6 c o m.1 m.2.2.1 m.2.2.2.1 m.2.2.2.2 e)
  have J := I.turnedNew (t' := s.toks) stay hf (Nat.le_refl _) made
  refine ⟨.ref s.heap.objs.size, _, J, rfl, ⟨_, x, y, rfl, I.hok.fresh (Nat.le_refl _), rfl, fun l hl => (I.list_inj hl q1).symm ▸ q3, fun l hl => (I.list_inj hl q2).symm ▸ q4⟩, ⟨d7, (sb.2 _ D.TIz).trans (d6 _ _ D.TIz D.TITO D.TIi1 D.TIi2 c2), ⟨u, v, (sb.2 _ D.TOz).trans d2⟩, d3.at fun o e => (sb.2 _ D.i1z).trans e, d4.at fun o e => (sb.2 _ D.i2z).trans e⟩, fun c hc => ?_⟩
  exact (upd_ne (Nat.ne_of_lt (low c hc))).trans (hf c hc).1
theorem zip_done (D : ZipApart z TI TO i1 i2 a b) {X : Cx} (hot : HotG X) {i : Nat} {pins : List (Addr × Obj)} {s : Shared} {σ : L2.St} {H : Hp} {E : Value → Shared → Prop} (I : Inv X pins σ H s) (hf : ∀ c ∈ [z, TI, TO, i1, i2], FpOk X pins H c) (st : ZipAt z TI TO i1 i2 a b i s.heap) (hg : (Itz X.K a b).stop i H) :
    wpAny (model X.prog X.w) X.A (pyNext (.ref z)) (fun r s1 => r = none ∧ Inv X pins σ H s1) E s := by
  obtain ⟨c1, c2, ⟨u0, v0, c3⟩, c4, c5⟩ := st
  obtain ⟨xs, ys, q1, q2, q3⟩ := hg
  obtain ⟨us, ru, pu, _⟩ := I.list q1
  obtain ⟨vs, rv, pv, _⟩ := I.list q2
  have e1 := ru.length
  have e2 := rv.length
  obtain ⟨x1, hx, far⟩ := hot.at I
  have tyI : ∀ {c l : Addr} {j : Nat}, s.heap.IsListIter c l j → x1 ≠ c := fun ⟨o, g1, g2, _⟩ => far _ o g1 fun _ y => by rw [g2] at y; cases y
  have tyZ : s.TypeIs (.ref z) "zip" := ⟨_, c1, rfl⟩
  unfold pyNext
  apply wpAny_bind
  apply wpAny_attempt
  apply wpAny_callSpecial?_slot (name := Str.ofString "__next__") tyZ F.slot_zip_next
  refine wpAny_call_entry F.slot_zip_next tyZ F.entry_zip_next (zip_stop (A := X.A.in1) hx (far z _ c1 fun _ y => nomatch y) (far TO _ c3 fun _ y => nomatch y) (tyI c4) (tyI c5) D c1 c2 c3 c4 c5 pu.isList pv.isList (q3.imp (fun h => by simp; omega) (fun h => by simp; omega)) fun g e k ⟨o, g1, g2⟩ => ?_) (F.args_zip_next_1 _)
  refine wpAny_bind (wpAny_isInstance (T := "StopIteration") (b := true) ⟨o, g1, g2⟩ isSubtype_stop (wpAny_pure ⟨rfl, I.turnedL (t' := s.toks) (ch := [z, TI, TO, i1, i2]) (fun c o n q => ?_) hf⟩))
  have m : c ≠ z ∧ c ≠ TI ∧ c ≠ TO ∧ c ≠ i1 ∧ c ≠ i2 := by simpa using n
  exact k c o m.1 m.2.2.1 m.2.2.2.1 m.2.2.2.2 q
theorem turn_zipG (D : ZipApart z TI TO i1 i2 a b) : TurnG P w K (.Tuple elts kk tpos) (Itz K a b) [z, TI, TO, i1, i2] z (ZipAt z TI TO i1 i2 a b) where
  cold := turn_zip D
  item := by rintro X rfl rfl rfl _ i pins s σ H E I hf st hg; exact zip_item D I hf st hg
  done := by rintro X rfl rfl rfl hot i pins s σ H E I hf st hg; exact zip_done D hot I hf st hg
end
end HT
/-! HL8: a list comprehension over a zip while an exception is handled. -/
namespace HT
open PySem PySem.Spec PyProof.Rows L2 HotX L2H
/-- an iterator has come, there -/
def CameG (X : Cx) (pins : List (Addr × Obj)) (σ : L2.St) (tg : Expr) (R : It → Hp → Prop) (v : Value) (s : Shared) : Prop :=
  ∃ (it : Addr) (fp : List Addr) (tn : Nat → Heap → Prop) (J : It) (H : Hp), v = .ref it ∧ Inv X pins σ H s ∧ TurnG X.prog X.w X.K tg J fp it tn ∧ tn 0 s.heap ∧ (∀ b ∈ fp, FpOk X pins H b) ∧ R J H
def PIG (X : Cx) (tg iter : Expr) (wi : TI) : Prop := ∀ (pins : List (Addr × Obj)) (s : Shared) (σ : L2.St) (H : Hp) (R : It → Hp → Prop), Inv X pins σ H s → wi σ H R →
  wpAny (model X.prog X.w) X.A (eval iter X.env) (fun v s1 => wpAny (model X.prog X.w) X.A (pyIter v) (CameG X pins σ tg R) X.xe s1) X.xe s
theorem pi_zipG {X : Cx} {e e2 : Expr} {ta : TA} {p pos tpos : Pos} {elts : List Expr} {kk : Nat} (hg : Gl X "zip") (hm : X.mg "zip" = none) (ha : PA X [e, e2] ta)
    (hs : starEach [e, e2] X.env = (false, eval e X.env) :: starEach [e2] X.env := by rfl) (hpl : (backTo pos (starEach [e2] X.env)).any (·.1) = false := by rfl) : PIG X (.Tuple elts kk tpos) (.Call (.Name "zip" p) [e, e2] [] pos) (iZip X.K ta) := by
  intro pins s σ H R I h
  refine Call_ (ld_blt I hg hm boot_zip ?_)
  refine callWith_type1 (thn (ha.run pos pins s σ H _ I h) fun us s1 hus => ?_) hs hpl
  obtain ⟨_, H1, I1, r, a, b, xs, ys, rfl, q1, q2, q3⟩ := hus
  match us, r with
  | [_, _], .cons ra (.cons rb .nil) =>
    cases ra
    cases rb
    obtain ⟨_, _, pa, _⟩ := I1.list q1
    obtain ⟨_, _, pb, _⟩ := I1.list q2
    refine call_zip_2 pa.isList pb.isList fun g c1 c2 c3 c4 c5 _ kp => wpAny_pyIter_zip c1 ?_
    refine ⟨_, [s1.heap.objs.size + 4, s1.heap.objs.size + 2, s1.heap.objs.size + 3, s1.heap.objs.size, s1.heap.objs.size + 1], _, _, H1, rfl, I1.kept (t' := s1.toks) kp, turn_zipG (PySem.W.ktu_apart s1.heap.objs.size a b pa.lt pb.lt), ⟨c1, c2, ⟨_, _, c3⟩, c4, c5⟩, fun c hc => ?_, q3⟩
    have le : s1.heap.objs.size ≤ c := by
      simp only [List.mem_cons, List.not_mem_nil, or_false] at hc
      rcases hc with y | y | y | y | y <;> (rw [y]; first | exact Nat.le_refl _ | exact Nat.le_add_right _ _)
    exact I1.fpOk le (I1.hok.fresh le)
section
variable {X : Cx} {elt tg iter : Expr} {ifs : List Expr} {scope : Scope} {pos : Pos} {g : TG} {tt : TT} {te : TE}
/-- one step of the wish -/
abbrev Turns1 (J : It) (g : TG) (tt : TT) (te : TE) (σ0 : L2.St) (vs : List Nat) (D : Addr) (Qd : Hp → Prop) (W : Nat → Nat → Hp → Prop) : Prop := ∀ i m H, W i m H →
  (J.stop i H ∧ Qd H) ∨ (J.go i H ∧ ∃ Nx : Hp → Prop, (∀ H', Nx H' → ∃ m', m' < m ∧ W (i + 1) m' H') ∧ ∀ x H', J.yld i H x H' → g x σ0 H' fun σ2 H2 => wipe σ2 vs = σ0 ∧ tt σ2 H2 fun b H3 =>
    if b = true then te σ2 H3 fun y H4 => ∃ acc, H4 D = some (.lst acc) ∧ acc.length < sizeLine ∧ Nx (upd H4 D (.lst (acc ++ [y]))) else Nx H3)
/-- the loop, in the block -/
theorem blk_loop {s0 : Shared} {H0 : Hp} {ce : Env} {fp : List Addr} {it D : Addr} {tn : Nat → Heap → Prop} {J : It} {σ0 : L2.St} {vs : List Nat} {Qd : Hp → Prop} {W : Nat → Nat → Hp → Prop} {R : Result → Shared → Prop} (hot : HotG (X.blk s0 H0 scope ce fp)) (T : TurnG X.prog X.w X.K tg J fp it tn)
    (pg : PG (X.blk s0 H0 scope ce fp) tg g) (pt : PTs (X.blk s0 H0 scope ce fp) ifs tt) (pe : PE (X.blk s0 H0 scope ce fp) elt te) (turn : Turns1 J g tt te σ0 vs D Qd W)
    (done : ∀ H' s', Inv (X.blk s0 H0 scope ce fp) [] σ0 H' s' → Qd H' → R (.ok .next) s') (m : Nat) (s : Shared) (h : ∃ i H, Inv (X.blk s0 H0 scope ce fp) [] σ0 H s ∧ tn i s.heap ∧ (∀ b ∈ fp, H b = none) ∧ W i m H) :
    codeAny (model X.prog X.w) X.A (.compLoop (.ListComp elt [⟨tg, iter, ifs, 0⟩] scope pos) 0 (.ref it) (.ref D) ce) R s := by
  refine compLoop_any (fun n s' => ∃ i H, Inv (X.blk s0 H0 scope ce fp) [] σ0 H s' ∧ tn i s'.heap ∧ (∀ b ∈ fp, H b = none) ∧ W i n H) (fun n s5 ⟨i, H5, I5, st5, n5, w5⟩ => ?_) m h
  have ok5 : ∀ b ∈ fp, FpOk (X.blk s0 H0 scope ce fp) [] H5 b := fun b hb =>
    ⟨n5 b hb, (I5.ok.exf b hb).1, I5.ok.exfs b hb, .inl hb, fun x c e => (I5.ok.exf b hb).2 x c e, fun p hp => nomatch hp⟩
  rcases turn i n H5 w5 with ⟨stop, q⟩ | ⟨go, Nx, less, step⟩
  · refine thnF (T.done (X.blk s0 H0 scope ce fp) rfl rfl rfl hot i [] s5 σ0 H5 (fun _ _ => False) I5 ok5 st5 stop) fun r s6 hr => ?_
    obtain ⟨rfl, I6⟩ := hr
    exact done H5 s6 I6 q
  · refine thnF (T.item (X.blk s0 H0 scope ce fp) rfl rfl rfl hot i [] s5 σ0 H5 (fun _ _ => False) I5 ok5 st5 go) fun r s6 hr => ?_
    obtain ⟨u, rfl, hr⟩ := hr
    refine thnF hr fun _ s7 ⟨x, H7, I7, rx, y7, st7, n7⟩ => ?_
    have ok7 : ∀ b ∈ fp, FpOk (X.blk s0 H0 scope ce fp) [] H7 b := fun b hb => ⟨n7 b hb, (ok5 b hb).2⟩
    have P7 := I7.pinned ok7 (T.cold.obj _ _ st7)
    refine thnF (pg.run _ s7 σ0 H7 x u _ P7 rx (step x H7 y7)) fun _ s8 ⟨σ8, H8, I8, e8, q8⟩ => ?_
    -- a turn's end
    have next : ∀ {s' : Shared} {H' : Hp}, Inv (X.blk s0 H0 scope ce fp) ([] ++ pinsAt fp s7.heap) σ8 H' s' → Nx H' → ∃ m', m' < n ∧ ∃ i H, Inv (X.blk s0 H0 scope ce fp) [] σ0 H s' ∧ tn i s'.heap ∧ (∀ b ∈ fp, H b = none) ∧ W i m' H := by
      intro s' H' I' nx
      obtain ⟨m', lt, w'⟩ := less H' nx
      have held : ∀ b ∈ fp, ∀ o, s7.heap.get? b = some o → s'.heap.get? b = some o ∧ H' b = none := fun b hb o e =>
        (I'.pin (b, o) (List.mem_append_right _ (List.mem_append_right _ (mem_pinsAt hb e)))).imp id fun z => z.1
      refine ⟨m', lt, i + 1, H', (I'.unpinned (pins := [])).weak (by rw [← e8, wipe_length]) (fun j v e => ?_), T.cold.keep _ _ _ st7 fun b hb o e => (held b hb o e).1, fun b hb => ?_, w'⟩
      · rw [← e8] at e
        exact (wipe_some e).1
      · obtain ⟨o, e, _⟩ := T.cold.obj _ _ st7 b hb
        exact (held b hb o e).2
    refine thnF (pt.run _ s8 σ8 H8 _ I8 q8) fun ok s9 ⟨H9, I9, q9⟩ => ?_
    cases ok
    · exact next I9 q9
    · refine thnF (pe.run _ s9 σ8 H9 _ I9 q9) fun v s10 ⟨y, H10, I10, ry, acc, a1, a2, a3⟩ => ?_
      exact app_ok (X := X.blk s0 H0 scope ce fp) I10 a1 a2 ry fun s11 I11 => next I11 a3
end
end HT
/-! HL9: name = [elt for .. in zip(..) if ..] while an exception is handled. -/
namespace HT
open PySem PySem.Spec PyProof.Rows L2 HotX L2H
section
variable {X : Cx} {elt tg iter : Expr} {ifs : List Expr} {scope : Scope} {own : List (Str × Nat)} {pos : Pos} {wi : TI} {g : TG} {tt : TT} {te : TE}
/-- what is known of the parts, in each block -/
structure LcParts (X : Cx) (elt tg : Expr) (ifs : List Expr) (scope : Scope) (g : TG) (tt : TT) (te : TE) : Prop where
  tgt : ∀ (s : Shared) (H : Hp) (C : Addr) (cl : List (Str × Addr)) (fp : List Addr), HotG (X.blk s H scope (compEnvC scope cl C X.env) fp) → PG (X.blk s H scope (compEnvC scope cl C X.env) fp) tg g
  ifs : ∀ (s : Shared) (H : Hp) (C : Addr) (cl : List (Str × Addr)) (fp : List Addr), PTs (X.blk s H scope (compEnvC scope cl C X.env) fp) ifs tt
  elt : ∀ (s : Shared) (H : Hp) (C : Addr) (cl : List (Str × Addr)) (fp : List Addr), PE (X.blk s H scope (compEnvC scope cl C X.env) fp) elt te
theorem lc_run {pins : List (Addr × Obj)} {s : Shared} {σ : L2.St} {H : Hp} {Q : VK} {pos' : Pos} {use : Option (Value → Sem Unit)} {Qf : Value → Shared → Prop} (hc : HotP X) (hN : X.N.Nodup) (I : Inv X pins σ H s) (hi : PIG X tg iter wi) (ok : BlkOk X.N X.env.scope scope own) (ps : LcParts X elt tg ifs scope g tt te)
    (hs : ∀ x, foldedSetIterable iter X.env x = pure x) (h : tLc wi g tt te (own.map (·.2)) σ H Q)
    (fin : ∀ D C s' m H', Inv X pins σ H' s' → Q (.ref D) H' → s'.heap.Ns C m → FpOk X pins H' C → compPost (model X.prog X.w) X.A X.xe use Qf (.ref D) C (.ok .next) s') :
    wpAny (model X.prog X.w) X.A (comprehension (.ListComp elt [⟨tg, iter, ifs, 0⟩] scope pos) scope X.env pos' (newList []) false (eval iter X.env) use) Qf X.xe s := by
  have free : ∀ y ∈ scope.names, y.2 = .free → ∃ c, X.env.cells.lookup y.1 = some c := fun y hy e => I.ok.has _ (ok.free y hy e)
  refine wpAny_comprehension_free (use := use) rfl hs (closure_ok free) ok.kind (fun y hy e => by rw [ok.uniq y hy, e]) (thn (hi pins s σ H _ I h) fun xv s1 hx => thn hx fun itv s2 came => ?_)
  obtain ⟨it, fp, tn, J, H2, rfl, I2, T, t2, f2, q⟩ := came
  refine wpAny_newObj_type (newEnv_comp ?_) (Nat.zero_le _)
  obtain ⟨D, hD⟩ : ∃ D, D = s2.heap.objs.size := ⟨_, rfl⟩
  have nD : H2 D = none := I2.hok.fresh (Nat.le_of_eq hD.symm)
  obtain ⟨W, ⟨m0, w0⟩, turn⟩ := q D nD
  -- with the new list
  obtain ⟨h3, eh⟩ : ∃ h3, h3 = s2.heap.push { cls := .type "list", data := .seq ([] : List Value).toArray } := ⟨_, rfl⟩
  have kp3 : ∀ b o, s2.heap.get? b = some o → h3.get? b = some o := fun b o e => by rw [eh]; exact Heap.get?_push_of_some _ e
  have I3 : Inv X pins σ (upd H2 D (.lst [])) { s2 with heap := h3 } :=
    I2.laid (t' := s2.toks) kp3 (Nat.le_of_eq hD.symm) ⟨Nat.zero_le _, [], 0, .nil, by rw [eh, hD]; exact Heap.get?_push_size _ rfl⟩
  have f3 : ∀ b ∈ fp, FpOk X pins (upd H2 D (.lst [])) b ∧ b < h3.objs.size := fun b hb => by
    obtain ⟨o, e, _⟩ := T.cold.obj _ _ t2 b hb
    have lt := Heap.lt_size e
    refine ⟨⟨(upd_ne (by rw [hD]; exact Nat.ne_of_lt lt)).trans (f2 b hb).1, (f2 b hb).2⟩, ?_⟩
    rw [eh, Heap.size_push]
    exact Nat.lt_succ_of_lt lt
  have t3 : tn 0 h3 := T.cold.keep _ _ _ t2 fun b _ o e => kp3 b o e
  have I4 := block_start I3 ok hN f3
  have hot := hc.blk (scope := scope) (cenv := compEnvC scope (cellsFrom (h3.objs.size + 1) scope.names (cloFrom X.env.cells scope.names [])) h3.objs.size X.env) I3 fun b hb => (f3 b hb).1
  have pg := ps.tgt _ _ _ _ _ hot
  have t4 : tn 0 (pushCells (h3.push { cls := .type "dict", data := .dict #[] }) scope.names) := T.cold.keep _ _ _ t3 fun b _ o e => pushCells_keeps _ _ _ _ (Heap.get?_push_of_some _ e)
  rw [← hD, ← eh]
  have loop := blk_loop (iter := iter) (pos := pos) (R := compPost (model X.prog X.w) X.A X.xe use Qf (.ref D) h3.objs.size) hot T pg (ps.ifs _ _ _ _ _) (ps.elt _ _ _ _ _) turn (fun H' s' J' w => ?_) m0 _ ⟨0, _, I4, t4, fun b hb => (f3 b hb).1.1, w0⟩
  · exact codeAny_compStart_list loop (T.cold.self X.A 0 _ _ _ t4 loop)
  · have back : Inv X pins σ H' s' := I3.call' (ch := fp) J'.os J'.base J'.hok J'.bare fun b hb => let z := (f3 b hb).1.2; ⟨z.2.2.1, z.1, z.2.2.2.1, z.2.2.2.2⟩
    obtain ⟨mm, ns, _⟩ := J'.loc
    exact fin D h3.objs.size s' mm H' back w ns (I3.fpOk (Nat.le_refl _) J'.free)
/-- name = [..], the name a local -/
theorem ps_setLcG {i : Nat} {y : Str} {py spos : Pos} (hc : HotP X) (hN : X.N.Nodup) (hy : X.N[i]? = some y) (hyl : X.env.scope.names.lookup y = some .local)
    (hsw : swapsWith (.ListComp elt [⟨tg, iter, ifs, 0⟩] scope pos) (some (.Name y py)) spos.line X.env = pure true) (hi : PIG X tg iter wi) (ok : BlkOk X.N X.env.scope scope own) (ps : LcParts X elt tg ifs scope g tt te) (hs : ∀ x, foldedSetIterable iter X.env x = pure x := by intro _; rfl) :
    PS X (.Assign [.Name y py] (.ListComp elt [⟨tg, iter, ifs, 0⟩] scope pos) spos) (tAsg (tLc wi g tt te (own.map (·.2))) (gName i)) := by
  constructor
  intro pins s σ H D I h
  rw [exec_Assign_Name_used _ _ _ _ hsw]
  apply wpAny_bind
  apply wpAny_standAt
  apply wpAny_bind
  show wpAny _ X.A (do let _ ← comprehension (.ListComp elt [⟨tg, iter, ifs, 0⟩] scope pos) scope X.env (firstIterPos [⟨tg, iter, ifs, 0⟩] pos) (newList []) false (eval iter X.env) (some (assign (.Name y py) X.env))) _ _ s
  apply wpAny_bind
  refine thn (lc_run (Q := fun x H1 => gName i x σ H1 D.nx) (Qf := fun _ s' => SP X pins D .next s') hc hN I hi ok ps hs h fun L C s' m H' J q ns fp => ?_) fun _ s' hq => wpAny_pure (wpAny_pure hq)
  show wpAny _ _ (assign (.Name y py) X.env (.ref L)) _ _ _
  apply wpAny_assign_Name
  refine store_ok2 (v := V.ref L) J hN hy (.inl hyl) rfl (fun s2 J2 ⟨a, sb, ha⟩ => ?_) (.inr hyl)
  have apart : C ≠ a := ha.elim (fun z => z ▸ fp.2.1) fun z e => fp.2.2.2.2.1 y a z e.symm
  exact ⟨m, ns.sameBut sb apart, fun h3 sb3 => ⟨_, H', J2.turned (t' := s2.toks) (fun b o n e => (sb3.2 b n).trans e) fp.1 fp.2.1 fp.2.2.2.1 fp.2.2.2.2.1 fp.2.2.2.2.2, q⟩⟩
end
end HT
/-! HT4: the name of a caught error's class; what a door told, or that name: rules for them in the typed layer. -/
namespace HT
open PySem L2 TL
open Evl (Ex)
/-- the program's own error classes, the words for them -/
def ECs : List Str := ["InvalidPiece", "InvalidChoir", "InvalidRows", "InvalidNumber", "InvalidSinger", "InvalidTired", "NotPossible", "OtherPiece", "OutOfBreath", "TooFew", "NothingToUndo"]
def EWs : List Str := ["Piece", "Choir", "Rows", "Number", "Singer", "Tired", "Not", "Other", "Out", "Few", "Undo"]
def isE (c : Str) : Bool := ECs.contains c
def hits (c : Str) : List Bool := ECs.map fun x => decide (x = c)
def nmX (c : Str) : Str := match ((EWs.zip (hits c)).filter (·.2)).map (·.1) with
  | [x] => x ++ ("+" : Str)
  | _ => Str.empty
/-- what the classes must say -/
def exC (K : PySem.W.Frag) (c : Str) : Bool :=
  decide (PySem.W.findIn K (.ref (He.ga K c)) "__getattribute__" = some (some (.builtin "BaseException.__getattribute__"))) &&
  (decide (PySem.W.findIn K (.ref (He.ga K c)) "__getattr__" = some none) &&
  (decide (PySem.W.subIn K (.ref (He.ga K c)) (.type "BaseException") = some true) &&
  (decide (PySem.W.hasDictIn K (He.ga K c) = true) &&
  (decide (PySem.W.findIn K (.ref (He.ga K c)) "__class__" = some (some (.builtin "object.__class__"))) &&
  (decide (PySem.W.specialIn K (.builtin "object.__class__") "__get__" = some (some (.builtin "getset_descriptor.__get__"))) &&
  (decide (PySem.W.takesIn K (.builtin "object.__class__") = some true) &&
  (decide (PySem.W.mroIn K (He.ga K c) (.type "object") = some true) &&
  (decide (PySem.W.kitOne K (.ref (He.ga K c)) (.type "ValueError") = some true) &&
  (decide (PySem.W.exmOne K (.ref (He.ga K c)) (.ref (He.ga K "ChoirError")) = some true) &&
  ECs.all fun x => decide (PySem.W.kitOne K (.ref (He.ga K c)) (.ref (He.ga K x)) = some (decide (x = c)))))))))))) 
def exB (K : PySem.W.Frag) : Bool := ECs.all (exC K)
theorem exB_c {K : PySem.W.Frag} {c : Str} (h : exB K = true) (hc : isE c = true) : exC K c = true :=
  List.all_eq_true.mp h c (List.contains_iff_mem.mp hc)
section
variable {K : PySem.W.Frag} {c : Str}
theorem exC_C (h : exC K c = true) : L2.ExcC K (He.ga K c) ∧ PySem.W.kitOne K (.ref (He.ga K c)) (.type "ValueError") = some true ∧ PySem.W.exmOne K (.ref (He.ga K c)) (.ref (He.ga K "ChoirError")) = some true ∧
    ∀ x ∈ ECs, PySem.W.kitOne K (.ref (He.ga K c)) (.ref (He.ga K x)) = some (decide (x = c)) := by
  unfold exC at h
  simp only [Bool.and_eq_true, decide_eq_true_eq, List.all_eq_true] at h
  obtain ⟨h1, h2, h3, h4, h5, h6, h7, h8, h9, h10, h11⟩ := h
  exact ⟨⟨h1, h2, h3, h4, h5, h6, h7, h8⟩, h9, h10, h11⟩
end
/-- the exception itself -/
def rX (a : Addr) : Rp Unit := ⟨fun _ v _ => v = .ref a, fun _ h => h⟩
section
variable {K : PySem.W.Frag} {B : Bs} {Γ : List Sl} {σ : L2.St} {F H : Hp} {a D : Addr} {i : Nat} {b : Bool} {cv : V} {u : Value} {te to ta : TE} {t : TS} {Dn : AD}
theorem ep_isX (e : Γ[i]? = some (.val (rX a) ())) (hc : ∀ u', RelV cv u' → u' = u) (hk : PySem.W.kitOne K (.ref D) u = some b) : EP (tCB (rIsE K D a) (tCons (tVar i) (tCons (tC cv) tNil))) Γ (Da K (.bool b)) := fun B σ F H I Q q => by
  obtain ⟨v, ev, hv⟩ := I.at_ e
  have hv' : v = .ref a := hv
  subst hv'
  exact ⟨_, ev, cv, u, b, rfl, hc, hk, q _ _ _ F H ⟨rfl, rfl⟩ (I.push (Dq.bl b)) (Ex.refl F)⟩
theorem rel_ref {p : Addr} {u' : Value} (h : RelV (.ref p) u') : u' = .ref p := by
  first
  | exact h
  | (cases h; rfl)
theorem rel_ty {n : String} {u' : Value} (h : RelV (.ty n) u') : u' = .type n := by
  first
  | exact h
  | (cases h; rfl)
theorem strs_inv {F : Hp} : ∀ {ys : List Str} {vs : List V}, DqAll K F vs (ys.map PyData.str) → vs = ys.map V.str
  | [], _, h => by cases h; rfl
  | y :: ys, _, h => by
    cases h with
    | cons a b => cases a; rw [strs_inv b]; rfl
/-- sep.join(words) -/
theorem ep_join {x : Str} {ys : List Str} (ho : EP to Γ (Da K (.str x))) (he : EP te Γ (Da K (.list (ys.map .str)))) (hz : (ys.map (·.length)).sum + ys.length * x.length ≤ 16777216) :
    EP (tM1 (fun x xs H Q => ∃ a p, ∃ ys : List Str, x = .str a ∧ xs = [.ref p] ∧ (SqL K H p (ys.map V.str) ∨ SqT K H p (ys.map V.str)) ∧ (ys.map (·.length)).sum + ys.length * a.length ≤ 16777216 ∧ Q (.str (Txt.join a ys)) H) to te) Γ (Da K (.str (Txt.join x ys))) := fun B σ F H I Q q =>
  ho B σ F H I _ fun Γ1 s1 v F1 H1 ⟨e1, e2⟩ I1 x1 => by
    subst e1 e2
    obtain ⟨v', ev, hv⟩ := Ok.head I1
    cases ev
    cases hv
    refine ⟨⟨x, rfl⟩, he B σ F1 H1 (Ok.pop I1) _ fun Γ2 s2 w F2 H2 ⟨e3, e4⟩ I2 x2 => ?_⟩
    subst e3 e4
    obtain ⟨w', ew, hw⟩ := Ok.head I2
    cases ew
    cases hw with
    | @lst p xs ds h1 h2 h3 =>
      have hx := strs_inv h3
      subst hx
      exact ⟨x, p, ys, rfl, rfl, .inl (Evl.ex_l (Ok.exT I2).1 h1), hz, q _ _ _ F2 H2 ⟨rfl, rfl⟩ ((Ok.pop I2).push (Dq.str _)) (x1.trans x2)⟩
def tIs (K : PySem.W.Frag) (D a : Addr) (v : V) : TE := tCB (rIsE K D a) (tCons (tVar 0) (tCons (tC v) tNil))
def tIsC (K : PySem.W.Frag) (c : Str) (a : Addr) (x : Str) : TE := tIs K (He.ga K c) a (.ref (He.ga K x))
def tArg : List TE → TA
  | [] => tNil
  | t :: r => tCons t (tArg r)
theorem ap_is {c : Str} (h : exC K c = true) (e : Γ[0]? = some (.val (rX a) ())) : ∀ xs : List Str, (∀ x ∈ xs, x ∈ ECs) → AP (tArg (xs.map (tIsC K c a))) Γ (xs.map fun x => Da K (.bool (decide (x = c))))
  | [], _ => ap_nil
  | x :: xs, m => ap_cons (ep_isX e (fun _ => rel_ref) ((exC_C h).2.2.2 x (m x List.mem_cons_self))) (ap_is h e xs fun y hy => m y (List.mem_cons_of_mem _ hy))
theorem eo_is {c : Str} (h : exC K c = true) (e : Γ[0]? = some (.val (rX a) ())) (xs : List Str) (m : ∀ x ∈ xs, x ∈ ECs) (hz : xs.length ≤ wee) : EO (tLst (tArg (xs.map (tIsC K c a)))) Γ (oL K) (xs.map fun x => .bool (decide (x = c))) :=
  eo_lst (by rw [List.map_map]; exact ap_is h e xs m) (by rw [List.length_map]; exact hz)
/-- the def's body -/
def tName (K : PySem.W.Frag) (c : Str) (a : Addr) : TS :=
  tSeq (tAsg (tLst (tArg ((["InvalidPiece", "InvalidChoir", "InvalidRows"] : List Str).map (tIsC K c a)))) (gName 1))
  (tSeq (tAsg (tOp (rCatS K) (tVar 1) (tLst (tArg ((["InvalidNumber", "InvalidSinger", "InvalidTired"] : List Str).map (tIsC K c a))))) (gName 1))
  (tSeq (tAsg (tOp (rCatS K) (tVar 1) (tLst (tArg ((["NotPossible", "OtherPiece", "OutOfBreath"] : List Str).map (tIsC K c a))))) (gName 1))
  (tSeq (tAsg (tOp (rCatS K) (tVar 1) (tLst (tArg ((["TooFew", "NothingToUndo"] : List Str).map (tIsC K c a))))) (gName 1))
  (tSeq (tAsg (tLst (tArg (EWs.map fun x => tC (.str x)))) (gName 2))
  (tSeq (tAsg (tLc (iZip K (tCons (tVar 2) (tCons (tVar 1) tNil))) (gTup K 2 (gCons (gName 4) (gCons (gName 5) gNil))) (tB (tVar 5)) (tVar 4) [4, 5]) (gName 3))
  (tRet (tOp (fun x y H Q => ∃ i j, x = .str i ∧ y = .str j ∧ i.length + j.length ≤ sizeLine ∧ Q (.str (i ++ j)) H)
    (tM1 (fun x xs H Q => ∃ a p, ∃ ys : List Str, x = .str a ∧ xs = [.ref p] ∧ (SqL K H p (ys.map V.str) ∨ SqT K H p (ys.map V.str)) ∧ (ys.map (·.length)).sum + ys.length * a.length ≤ 16777216 ∧ Q (.str (Txt.join a ys)) H) (tC (.str ("" : Str))) (tVar 3))
    (tIf (tB (tIs K (He.ga K c) a (.ty "ValueError"))) (tC (.str ("+" : Str))) (tC (.str ("" : Str))))))))))) 
theorem isE_cases {P : Str → Prop} {c : Str} (h : isE c = true) (hP : ∀ x ∈ ECs, P x) : P c := hP c (List.contains_iff_mem.mp h)
def Γn (K : PySem.W.Frag) (a : Addr) : List Sl := [.val (rX a) (), .no, .no, .no, .no, .no]
theorem hit_all : (ECs.all fun c => match ((EWs.zip (hits c)).filter (·.2)).map (·.1) with
  | [x] => decide (x.length ≤ 100)
  | _ => false) = true := by decide +kernel
theorem one_hit {c : Str} (h : isE c = true) : ∃ x, ((EWs.zip (hits c)).filter (·.2)).map (·.1) = [x] ∧ nmX c = x ++ ("+" : Str) ∧ x.length ≤ 100 := by
  have z := List.all_eq_true.mp hit_all c (List.contains_iff_mem.mp h)
  unfold nmX
  split at z
  · rename_i x e
    rw [e]
    exact ⟨x, rfl, rfl, of_decide_eq_true z⟩
  · cases z
theorem s_name {c : Str} (hc : isE c = true) (h : exC K c = true) (hr : ∀ Γ', Dn.rt Γ' (Da K (.str (nmX c)))) : S B (tName K c a) (Γn K a) Dn := by
  unfold tName
  have ct : ∀ {Γ : List Sl} (as : List Str) (bs : List Str), Γ[0]? = some (.val (rX a) ()) → (∀ x ∈ bs, x ∈ ECs) → as.length + bs.length ≤ 11 → Γ[1]? = some (Da K (.list (as.map fun x => .bool (decide (x = c))))) →
      EO (tOp (rCatS K) (tVar 1) (tLst (tArg (bs.map (tIsC K c a))))) Γ (oL K) ((as ++ bs).map fun x => .bool (decide (x = c))) := fun {Γ} as bs e m hz e1 => by
    refine eo_op (ep_var e1) (eo_is h e bs m (Nat.le_trans (Nat.le_trans (Nat.le_add_left _ _) hz) (by decide))).frz (AL.o_catL _ _ _ ?_)
    unfold AL.catL
    rw [List.map_append]
    have : (as.map fun x => PyData.bool (decide (x = c))).length + (bs.map fun x => PyData.bool (decide (x = c))).length ≤ wee := by
      rw [List.length_map, List.length_map]; exact Nat.le_trans hz (by decide)
    exact if_pos this
  refine q_set (eo_is h rfl _ (by decide +kernel) (by decide)).frz ?_
  refine q_set (ct ["InvalidPiece", "InvalidChoir", "InvalidRows"] _ rfl (by decide +kernel) (by decide) rfl).frz ?_
  refine q_set (ct ["InvalidPiece", "InvalidChoir", "InvalidRows", "InvalidNumber", "InvalidSinger", "InvalidTired"] _ rfl (by decide +kernel) (by decide) rfl).frz ?_
  refine q_set (ct ["InvalidPiece", "InvalidChoir", "InvalidRows", "InvalidNumber", "InvalidSinger", "InvalidTired", "NotPossible", "OtherPiece", "OutOfBreath"] _ rfl (by decide +kernel) (by decide) rfl).frz ?_
  have ws : ∀ {Γ : List Sl} (l : List Str), AP (tArg (l.map fun x => tC (.str x))) Γ (l.map fun x => Da K (.str x)) := fun {Γ} l => by
    induction l with
    | nil => exact ap_nil
    | cons x r ih => exact ap_cons ep_str ih
  refine q_set (EO.frz (ds := EWs.map .str) (eo_lst (by rw [List.map_map]; exact ws EWs) (by decide))) ?_
  obtain ⟨w0, hw1, hw2, hw3⟩ := one_hit hc
  refine q_set (EO.frz (ds := [.str w0]) (eo_lc2 (xs := EWs.zip (hits c)) (p := fun x => .str x.1) (q := fun x => .bool x.2) (f := fun x => x.2) (w := fun x => .str x.1) ?_ (fun x _ => tp_B (ep_var rfl)) (fun x _ _ => ep_var rfl) ?_)) ?_
  · refine (ip_zipL (ap_cons (ep_var rfl) (ap_cons (ep_var rfl) ap_nil))).is ?_
    unfold zipP
    rw [List.zip, List.map_zipWith, hits, List.zipWith_map]
    rfl
  · have := congrArg (List.map PyData.str) hw1
    rw [List.map_map] at this
    exact this
  have hv : PySem.W.kitOne K (.ref (He.ga K c)) (.type "ValueError") = some true := (exC_C h).2.1
  refine s_ret (ep_op (ep_join (x := ("" : Str)) (ys := [w0]) ep_str (ep_var rfl) ?_) (ep_if (b := true) (tp_B (ep_isX rfl (fun _ => rel_ty) hv)) (fun _ => ep_str) (fun z => nomatch z)) (AL.o_addS _ _ (.str (nmX c)) ?_)) (hr _)
  · show ([w0].map (·.length)).sum + 1 * ("" : Str).length ≤ 16777216
    have : ("" : Str).length = 0 := by decide
    rw [this]
    simp
    omega
  · show (if w0.length + ("+" : Str).length ≤ wee then some (PyData.str (w0 ++ ("+" : Str))) else none) = _
    have : ("+" : Str).length = 1 := by decide
    rw [hw2, if_pos (by rw [this]; exact Nat.le_trans (Nat.add_le_add_right hw3 1) (by decide))]
end
end HT
/-! HT5: the two defs that tell what a door told or raised; the tie for their use. -/
namespace HT
open PySem L2 TL L2H LamX
open Evl (Ex)
/-- the name of the handled exception's class -/
def spX (T : List (Addr × Str)) (K : PySem.W.Frag) : Addr × Obj → V → Hp → VK → Prop := fun p v H Q => ∃ (c : Str) (F : Hp), isE c = true ∧ v = .ref p.1 ∧ p.2.cls = clsV K c ∧ p.2.dict = none ∧ (Ex F H ∧ TbOk T F H) ∧ ∀ F' H', Ok ⟨F, H, [], T⟩ [] [] F' H' → Q (.str (nmX c)) H'
theorem cls_ref {K : PySem.W.Frag} {c : Str} : clsV K c = .ref (He.ga K c) := rfl
theorem fn_name {CX : CXT} {P : Program} {w : World} {K : PySem.W.Frag} {mg : Str → Option Value} {base : Heap} {T : List (Addr × Str)} {x qual : Str} {params : Arguments} {body : List Stmt} {scope : Scope} {f : Addr} {fd : FuncData} {N : List Str} {k : Nat} (Fd : FunD K x qual params body scope [] [] f fd) (sc : FnScope N ["e"] scope) (hN : N.length = 6) (hB : exB K = true)
    (hbody : ∀ (cdv : Value) (A : Around) (outer : List Env) (s : Shared) (H : Hp) (E : XK) (p : Addr × Obj) (c : Str), isE c = true → L2.ExcC K (He.ga K c) → Hot1 A p → RoomH k (A.deeper (PyProof.Rows.envOfC qual scope s.heap.objs.size f cdv)) → Zc (.ref (He.ga K c)) none p.2 → (∃ vs, p.2.data = .fields vs) →
      PSs (cxH CX P w K mg base N qual scope f cdv A outer s H E p) body (tName K c p.1)) :
    FnX P w K mg base CX (k + 1) f "e" fd (spX T K) := by
  refine fn_ofX Fd sc fun cdv A outer s H v Q E p hot hr ⟨c, F, h1, h2, h3, h4, h5, h6⟩ => ?_
  subst h2
  have hx := exB_c hB h1
  refine ⟨tName K c p.1, hbody cdv A outer s H E p c h1 (exC_C hx).1 hot hr ⟨h3, h4⟩ (by obtain ⟨_, v, e, _⟩ := hot; exact ⟨v, e⟩), ?_⟩
  have I0 : Ok ⟨F, H, [], T⟩ (Γn K p.1) (L2.start N [.ref p.1]) F H := by
    have e0 : L2.start N [V.ref p.1] = some (.ref p.1) :: List.replicate 5 none := by
      unfold L2.start
      rw [hN]; rfl
    rw [e0]
    exact nos_ok (Ok.push (r := rX p.1) (a := ()) (ok_args (K := K) (vs := []) (ds := []) .nil h5) rfl) 5
  refine s_name (K := K) (a := p.1) (Dn := ⟨fun _ => False, fun _ s => s = Da K (.str (nmX c)), fun _ => False, fun _ => False⟩) h1 hx (fun _ => rfl) _ F H I0 _ (fun _ _ _ _ z => z.elim) (fun Γ' s v σ' F' H' e I' _ => ?_) (fun _ _ _ _ z => z.elim) (fun _ _ _ _ z => z.elim)
  subst e
  obtain ⟨v', ev, hv⟩ := Ok.head I'
  cases ev
  cases hv
  exact h6 F' H' (AL.Ok.drop (Ok.pop I'))
/-! ### try -/
def Ech (K : PySem.W.Frag) (T : List (Addr × Str)) (Q : VK) : XK := fun cls d H1 => ∃ (c : Str) (F : Hp), isE c = true ∧ cls = clsV K c ∧ d = none ∧ (Ex F H1 ∧ TbOk T F H1) ∧ ∀ F' H', Ok ⟨F, H1, [], T⟩ [] [] F' H' → Q (.str (nmX c)) H'
def TTry (K : PySem.W.Frag) (T : List (Addr × Str)) : (XK → Hp → VK → Prop) → Hp → VK → Prop := fun tl H Q =>
  ∀ (E : XK) (Q1 : VK), (∀ cls d H1, Ech K T Q cls d H1 → E cls d H1) → (∀ v H1, (∀ p, H1 p = none → Q (.ref p) (upd H1 p (.tup [.str ("told" : Str), v]))) → Q1 v H1) → tl E H Q1
theorem takesN0 {X : Cx} : L2N.Takes X (fun _ _ _ _ => False) := fun _ _ x => by
  obtain ⟨_, _, _, _, _, _, _, _, _, _, _, _, _, _, _, _, z⟩ := x
  exact z.elim
def tbT (f c' : Addr) (q : Str) (tl : XK → Hp → VK → Prop) (W : WX) : TS :=
  tAsg (tTup (tCons (tC (.str ("told" : Str))) (tCons (fun σZ HZ Q => σZ[0]? = some (some (.ref f)) ∧ HZ c' = some (CodeO c' q) ∧ tl (fun cls d H1 => W cls d σZ H1) HZ Q) tNil))) (gName 1)
def tsT (K : PySem.W.Frag) (T : List (Addr × Str)) (a : Addr) (cls : Value) (d : Option Addr) : TS := fun D σ H => ∀ oe, L2N.Zn cls d oe → tAsg (tAsk (spX T K) (a, oe) (tVar 2)) (gName 1) D σ H
def tTryT (K : PySem.W.Frag) (T : List (Addr × Str)) (f c' : Addr) (q : Str) (tl : XK → Hp → VK → Prop) : TS :=
  tSeq (tAsg (tC .non) (gName 1)) (tSeq (fun D σ H => tbT f c' q tl (wAs K (.ref (He.ga K "ChoirError")) 2 (tsT K T) (fun _ _ _ _ => False) D) D σ H) (tRet (tVar 1)))
theorem try_sem {K : PySem.W.Frag} {T : List (Addr × Str)} {f c' : Addr} {q : Str} {tl : XK → Hp → VK → Prop} {H : Hp} {Q : VK} {Ng : List Str} (hN : Ng.length = 3) (hB : exB K = true) (hc : H c' = some (CodeO c' q)) (h : TTry K T tl H Q) :
    tTryT K T f c' q tl { nx := fun _ H' => Q .non H', rt := Q } (L2.start Ng [.ref f]) H := by
  have e0 : L2.start Ng [V.ref f] = [some (.ref f), none, none] := by
    unfold L2.start
    rw [hN]; rfl
  rw [e0]
  refine ⟨rfl, hc, h _ _ (fun cls d H1 hx => ?_) fun v H1 hp => ⟨(by show 2 ≤ sizeLine; decide), fun p hn => ?_⟩⟩
  · obtain ⟨c, F, h1, h2, h3, h4, h5⟩ := hx
    subst h2 h3
    have hx := exB_c hB h1
    refine ⟨true, (exC_C hx).2.2.1, fun _ a ha oe hz => ?_, fun z => nomatch z⟩
    refine ⟨V.ref a, rfl, _, rfl, c, F, h1, rfl, hz.1, hz.2.1, h4, fun F' H' I => ?_⟩
    exact ⟨V.str (nmX c), rfl, h5 F' H' I⟩
  · exact ⟨V.ref p, rfl, hp p hn⟩
/-! ### the tie -/
open AL
/-- what the door told, or the name of what it raised -/
def mTry (e : Md) : Md := fun g => match e (frzE g) with
  | .ok (_, d) => match noL d with
    | true => .ok (g, .tuple [.str ("told" : Str), d])
    | false => .bad
  | .err c => match isE c with
    | true => .ok (g, .str (nmX c))
    | false => .bad
  | .bad => .bad
theorem d_try {K : PySem.W.Frag} {Er : Ec} {t : XK → TE} {e : Md} (h : ∀ E : XK, Ds K ⟨E, Er.T⟩ (t E) e) : Ds K Er (HT.tLam Er.T (TTry K Er.T) t) (mTry e) := fun pn g Γ B σ F H hg I rn Q q => by
  obtain ⟨F2, Γ2, h1, I2, ex2, n2⟩ := frz_all hg I
  have tB := I.exT.2
  have tB2 := I2.exT.2
  rw [rn.tt] at tB tB2 I2
  refine ⟨tB.1, fun H1 gr E Q1 hE hQ => ?_⟩
  obtain ⟨eN, T1, k1, k2⟩ := gr
  have kp : Kp Er.T F2 H H1 := ⟨eN, k2, (fun q o z => k1 q o (I2.exT.1 q o z) fun y hy e => (by rw [← e, tB2.2 y hy] at z; cases z)), T1⟩
  have I3 : Ok ⟨F2, H, [], Er.T⟩ Γ2 σ F2 H1 := I2.keep kp
  obtain ⟨L, h0⟩ := I
  have th : ∀ {Γ' : List Sl} {σ' : L2.St} {F' H' : Hp}, Ok ⟨F2, H, [], Er.T⟩ Γ' σ' F' H' → _ := fun {Γ' σ' F' H'} I' => thaw (K := K) h0 ex2 n2 (by rw [rn.tt]; exact I')
  cases he : e (frzE g) with
  | bad => exact Rn.bad (by unfold mTry at rn; rw [he] at rn; exact rn)
  | err c =>
    cases hc : isE c with
    | false => exact Rn.bad (by unfold mTry at rn; rw [he] at rn; simp only [hc] at rn; exact rn)
    | true =>
      refine h E pn (frzE g) Γ2 ⟨F2, H, [], Er.T⟩ σ F2 H1 h1 I3 ⟨(by rw [he]; exact fun z => nomatch z), fun c' z F' H' I' => ?_, rfl⟩ Q1 fun g' x' Γ' v F' H' e' => by rw [he] at e'; cases e'
      rw [he] at z
      cases z
      refine hE _ _ _ ⟨c, F', hc, rfl, rfl, I'.exT, fun F'' H'' I'' => ?_⟩
      have I4 : Ok ⟨F2, H, [], Er.T⟩ [] [] F'' H'' := I'.after I''
      obtain ⟨F3, h3, ex3, _⟩ := th I4
      exact q g (.str (nmX c)) Γ _ F3 H'' (by unfold mTry; rw [he]; simp only [hc]) hg (Ok.push ⟨L, h3⟩ (Dq.str _)) ex3
  | ok r =>
    obtain ⟨g2, d⟩ := r
    cases hn : noL d with
    | false => exact Rn.bad (by unfold mTry at rn; rw [he] at rn; simp only [hn] at rn; exact rn)
    | true =>
      refine h E pn (frzE g) Γ2 ⟨F2, H, [], Er.T⟩ σ F2 H1 h1 I3 ⟨(by rw [he]; exact fun z => nomatch z), fun c' z => (by rw [he] at z; cases z), rfl⟩ Q1 fun g' x' Γ' v F' H' e' hg' I' ex' => ?_
      rw [he] at e'
      cases e'
      refine hQ v H' fun p hp => ?_
      obtain ⟨v', ev, hv⟩ := Ok.head I'
      cases ev
      obtain ⟨L2, I5⟩ := Ok.pop I'
      have np := I5.nF hp
      have eF : Ex F' (upd F' p (.tup [.str ("told" : Str), v])) := Ex.new np
      have hd : Dq K (upd F' p (.tup [.str ("told" : Str), v])) (.ref p) (.tuple [.str ("told" : Str), d]) := .tup (.inl (.inl upd_same)) (by show 2 ≤ wee; decide) (.cons (.str _) (.cons (Dq.mono eF _ _ hv) .nil))
      obtain ⟨F3, h3, ex3, t1, _⟩ := th ⟨_, I5.alloc hp⟩
      exact q g _ Γ _ F3 _ (by unfold mTry; rw [he]; simp only [hn]) hg (Ok.push ⟨L, h3⟩ (t1 _ _ (by simp [noL, noLs, hn]) hd)) ex3
section
variable {X : Cx}
theorem pss_all {body : List Stmt} {t : Obj → TS} {Z : Obj → Prop} {oe : Obj} (hz : Z oe) (h : PSs X body (t oe)) : PSs X body (fun D σ H => ∀ oe, Z oe → t oe D σ H) := ⟨fun pins s σ H D I w => h.run pins s σ H D I (w oe hz)⟩
end
def HasX (P : Program) (w : World) (K : PySem.W.Frag) (mg : Str → Option Value) (base : Heap) (k : Nat) (x a : Str) (sp : Addr × Obj → V → Hp → VK → Prop) : Prop :=
  ∃ fd : FuncData, mg x = some (.ref (He.ga K x)) ∧ PySem.W.keepIn K (.ref (He.ga K x)) = true ∧ L2.Binds K fd [a] [] ∧ FnX P w K mg base C8.CX0 k (He.ga K x) a fd sp
end HT
/-! HT6: the end of a law whose defs make lambdas. -/
namespace HT
open PySem L2 TL LamX
theorem sql_sub {K : PySem.W.Frag} {F H : Hp} {a : Addr} {xs : List V} (h : SqL K H a xs) (k : ∀ o, H a = some o → (∀ ps, o ≠ .tbl ps) → F a = some o) : SqL K F a xs := by
  rcases h with (h | ⟨o, h⟩) | h
  · exact .inl (.inl (k _ h fun _ z => nomatch z))
  · exact .inl (.inr ⟨o, k _ h fun _ z => nomatch z⟩)
  · exact .inr h
theorem ends_trueT {K : PySem.W.Frag} {T : List (Addr × Str)} {R : Rl} {H : Hp} {a : Addr} {ns : List Int} (hT : ∀ z ∈ T, H z.1 = some (.tbl #[])) (hR : R [.list (ns.map .int)] (.ok (.bool true))) (hl : ns.length ≤ wee) (hS : SqL K H a (ns.map V.int)) : PFt T K R [.ref a] H (fun v _ => v = .bl true) fun _ _ _ => False := by
  obtain ⟨F, h1, h2, h3⟩ : ∃ F : Hp, Evl.Ex F H ∧ (∀ z ∈ T, F z.1 = none) ∧ ∀ q o, H q = some o → (∀ ps, o ≠ .tbl ps) → F q = some o := by
    refine ⟨fun q => if q ∈ T.map (·.1) then none else H q, fun q o e => ?_, fun z hz => if_pos (List.mem_map.mpr ⟨z, hz, rfl⟩), fun q o e n => ?_⟩
    · by_cases z : q ∈ T.map (·.1)
      · have e' := e; simp only [if_pos z] at e'; cases e'
      · have e' := e; simp only [if_neg z] at e'; exact e'
    · refine (if_neg fun z => ?_).trans e
      obtain ⟨y, hy, ey⟩ := List.mem_map.mp z
      rw [← ey, hT y hy] at e
      cases e
      exact n _ rfl
  refine ⟨_, _, F, hR, ⟨h1, fun z hz => TabS.nil (hT z hz), h2⟩, .cons (.lst (sql_sub hS fun o e n => h3 a o e n) (by rw [List.length_map]; exact hl) (ints_dq ns)) .nil, fun d s v F' H' e hs I => ?_, fun x F' H' e _ => by cases e⟩
  cases e
  rcases hs with ⟨ds, p, e, _⟩ | ⟨_, e⟩
  · cases e
  · subst e
    obtain ⟨v', ev, hv⟩ := Ok.head I
    cases ev
    cases hv
    rfl
theorem walk_endT {l : PySem.W.OpenLaw} {n k : Nat} {q : Program} {loose : List Str} {XP : (Str → Option Value) → Heap → Prop} {YP : World → Heap → Prop} {d : DefRec} {x : Str} {R : Rl} (hn : l.most = some n) (hn2 : n ≤ wee) (hdf : d.params.defaults = []) (hr : Room k callerA)
    (F : ∀ (w : World) (mg : Str → Option Value) (fa : Addr) (h : Heap), YP w h → h.Ns mainGlobals mg → mg d.name = some (.ref fa) →
      ∃ (K : PySem.W.Frag) (fd : FuncData) (cs : List (Addr × Addr)) (T : List (Addr × Str)), K.In h ∧ (∀ p ∈ cs, h.get? p.2 = some { cls := .none, data := .fields #[] }) ∧ (∀ p ∈ cs, K.lookup p.2 = none) ∧ (∀ p ∈ cs, PySem.W.CodeHd h p.1 p.2) ∧ (∀ z ∈ T, ∃ p ∈ cs, p.2 = z.1) ∧
        (∀ (s : Shared) (u : Value), BindsTo s fd ⟨[u], []⟩ [(x, u)]) ∧ ∀ base : Heap, K.In base → base.Ns mainGlobals mg → (∀ p ∈ cs, TabB base mg p.1 p.2) → FnOk l.prog w K mg base (L2N.CX l.prog w) k fa fd [x] (PFt T K R))
    (hR : ∀ ns : List Int, ns.length ≤ n → R [.list (ns.map .int)] (.ok (.bool true))) :
    PySem.W.WalkO q loose XP YP l.row.toRowW d [] (fun f vs => PySem.call f vs) := by
  have hs : n ≤ sizeLine := Nat.le_trans hn2 (by decide)
  refine walk_ofTsE (x := x) (CX := fun w => L2N.CX l.prog w) hn hs hdf hr (fun w mg fa h Y hns hmg => ?_) fun w H s e s' h => no_air h
  obtain ⟨K, fd, cs, T, h1, h2, h3, h4, h5, h6, h7⟩ := F w mg fa h Y hns hmg
  refine ⟨K, h1, fd, cs, PFt T K R, h2, h3, h4, h6, fun H a ns hl _ hH hS => ends_trueT (fun z hz => ?_) (hR ns hl) (Nat.le_trans hl hn2) hS, h7⟩
  obtain ⟨p, hp, e⟩ := h5 z hz
  rw [← e]; exact hH p hp
end HT
/-! AL13: a list or a tuple: enumerate, items. -/
namespace AL
open PySem TL L2
section
variable {K : PySem.W.Frag} {Er : Ec} {tr : TA} {es : Ma}
/-- a rule that is one of two -/
def iEnumE (K : PySem.W.Frag) (ta : TA) : TI := fun σ H R => iEnum K ta σ H R ∨ TLS.iEnumT K ta σ H R
def fEnumE : List PyData → Option (List PyData)
  | [.tuple ds] => some (enumP ds)
  | xs => fEnum xs
theorem fEnumE_or : ∀ xs, fEnumE xs = fEnum xs ∨ fEnumE xs = fEnumT xs := fun xs => by
  unfold fEnumE
  split
  · exact .inr rfl
  · exact .inl rfl
theorem is_enumE (h : As K Er tr es) : Is K Er (iEnumE K tr) (mIA fEnumE es) := fun pn g Γ B σ F H hg I rn RR q => by
  have key : mIA fEnumE es g = mIA fEnum es g ∨ mIA fEnumE es g = mIA fEnumT es g := by
    unfold mIA
    cases es g with
    | ok r =>
      obtain ⟨g1, xs⟩ := r
      show (R.of (fEnumE xs)).bind _ = (R.of (fEnum xs)).bind _ ∨ (R.of (fEnumE xs)).bind _ = (R.of (fEnumT xs)).bind _
      rcases fEnumE_or xs with e | e
      · exact .inl (by rw [e])
      · exact .inr (by rw [e])
    | err c => exact .inl rfl
    | bad => exact .inl rfl
  rcases key with k | k
  · exact .inl (is_enum h pn g Γ B σ F H hg I (k ▸ rn) RR fun g' ds Γ' J F' H' e => q g' ds Γ' J F' H' (k.trans e))
  · exact .inr (is_enumT h pn g Γ B σ F H hg I (k ▸ rn) RR fun g' ds Γ' J F' H' e => q g' ds Γ' J F' H' (k.trans e))
def rIxE (K : PySem.W.Frag) : R2 := fun x y H Q => rIxT K x y H Q ∨ rIxL K x y H Q
def ixE (x y : PyData) : Option PyData := match x with
  | .tuple _ => ixT x y
  | _ => ixL x y
theorem o_ixE : OpD K (rIxE K) ixE := fun x y z e => by
  unfold ixE at e
  split at e
  · exact fun B Γ σ F H v w I hv hw Q q => .inl (o_ixT _ y z e B Γ σ F H v w I hv hw Q q)
  · exact fun B Γ σ F H v w I hv hw Q q => .inr (o_ixL x y z e B Γ σ F H v w I hv hw Q q)
end
section
variable {X : Cx} {e : Expr} {t : TA}
theorem kpi_enumE (K : PySem.W.Frag) {p pos tpos : Pos} {elts : List Expr} {kk : Nat} (hg : Gl X "enumerate") (hm : X.mg "enumerate" = none) (ha : PA X [e] t) (hs : starEach [e] X.env = [(false, eval e X.env)] := by rfl) (h : X.K = K := by rfl) :
    PI X (.Tuple elts kk tpos) (.Call (.Name "enumerate" p) [e] [] pos) (iEnumE K t) :=
  ⟨fun pins s σ H R I q => q.elim (fun q => (kpi_enum K hg hm ha hs h).run pins s σ H R I q) (fun q => (kpi_enumT K hg hm ha hs h).run pins s σ H R I q)⟩
theorem kIxE (K : PySem.W.Frag) (h : X.K = K := by rfl) : IxR X (rIxE K) := (kIxT K h).or (kIxL K h)
end
end AL
section
open PySem TL AL
def M.b_is_from : Bo := (mSeq (mRet (mV (mAndV (mIsi isInt (mVar 0)) (mAndV (mNotV (mIsi isBool (mVar 0))) (mChain leI leI (mVar 1) (mVar 0) (mVar 2)))))) mNext)
def M.is_from : List PyData → R PyData := runD 3 3 M.b_is_from

def M.b_good_beats : Bo := (mSeq (mIfS (mOr (mNot (mT (mIsi isTup (mVar 1)))) (mNot (mT (mCb fAll (mCons (mD (mLc (mI1 tup? (mVar 1)) (gN 2) mYes (mD (mCallN M.is_from (mCons (mVar 2) (mCons (mC (.int (0))) (mCons (mOp subI (mVar 0) (mC (.int (1)))) mNil))))) [2])) mNil))))) (mSeq (mRet (mV (mC (.bool false)))) mNext) mNext) (mSeq (mRet (mV (mCb fAll (mCons (mD (mLc (mIA fZipT (mCons (mVar 1) (mCons (mSlT (mVar 1) (mPart (mC (.int (1)))) mNoPart) mNil))) (g2 3 4) mYes (mOp ltI (mVar 3) (mVar 4)) [3, 4])) mNil)))) mNext))
def M.good_beats : List PyData → R PyData := runD 5 2 M.b_good_beats

def M.b_is_piece : Bo := (mSeq (mIfS (mOr (mNot (mT (mIsi isTup (mVar 0)))) (mOr (mT (mOp neI (mCb fLen (mCons (mVar 0) mNil)) (mC (.int (2))))) (mNot (mT (mD (mCall M.is_from (mCons (mOp ixT (mVar 0) (mC (.int (0)))) (mCons (mC (.int (1))) (mCons (mC (.int (60))) mNil))))))))) (mSeq (mRet (mV (mC (.bool false)))) mNext) mNext) (mSeq (mRet (mCall M.good_beats (mCons (mOp ixT (mVar 0) (mC (.int (0)))) (mCons (mOp ixT (mVar 0) (mC (.int (1)))) mNil)))) mNext))
def M.is_piece : List PyData → R PyData := runD 1 1 M.b_is_piece

def M.b_is_choir : Bo := (mSeq (mIfS (mOr (mNot (mT (mIsi isTup (mVar 0)))) (mT (mOp neI (mCb fLen (mCons (mVar 0) mNil)) (mC (.int (3)))))) (mSeq (mRet (mV (mC (.bool false)))) mNext) mNext) (mSeq (mAsg (g3 1 2 3) (mVar 0)) (mSeq (mIfS (mOr (mNot (mT (mD (mCall M.is_from (mCons (mVar 1) (mCons (mC (.int (1))) (mCons (mC (.int (30))) mNil))))))) (mNot (mT (mD (mCall M.is_from (mCons (mVar 2) (mCons (mC (.int (1))) (mCons (mC (.int (60))) mNil)))))))) (mSeq (mRet (mV (mC (.bool false)))) mNext) mNext) (mSeq (mRet (mCall M.is_from (mCons (mVar 3) (mCons (mC (.int (0))) (mCons (mVar 1) mNil))))) mNext))))
def M.is_choir : List PyData → R PyData := runD 4 1 M.b_is_choir

def M.b_need_piece : Bo := (mSeq (mIfS (mNot (mT (mD (mCall M.is_piece (mCons (mVar 0) mNil))))) (mSeq (mRaise ("InvalidPiece" : Str)) mNext) mNext) mNext)
def M.need_piece : List PyData → R PyData := runD 1 1 M.b_need_piece

def M.b_need_choir : Bo := (mSeq (mDrop (mCall M.need_piece (mCons (mVar 0) mNil))) (mSeq (mIfS (mNot (mT (mD (mCall M.is_choir (mCons (mVar 1) mNil))))) (mSeq (mRaise ("InvalidChoir" : Str)) mNext) mNext) mNext))
def M.need_choir : List PyData → R PyData := runD 2 2 M.b_need_choir

def M.b_good_rows : Bo := (mSeq (mIfS (mOr (mNot (mT (mIsi isTup (mVar 1)))) (mNot (mT (mChain leI leI (mC (.int (1))) (mCb fLen (mCons (mVar 1) mNil)) (mC (.int (30))))))) (mSeq (mRet (mV (mC (.bool false)))) mNext) mNext) (mSeq (mRet (mV (mCb fAll (mCons (mD (mLc (mI1 tup? (mVar 1)) (gN 2) mYes (mD (mCallN M.good_beats (mCons (mOp ixT (mVar 0) (mC (.int (0)))) (mCons (mVar 2) mNil)))) [2])) mNil)))) mNext))
def M.good_rows : List PyData → R PyData := runD 3 2 M.b_good_rows

def M.b_longest_run : Bo := (mSeq (mSet 3 (mV (mD (mOpL catL (mD (mOpL catL (mD (mLst (mCons (mOp subI (mUn negI (mC (.int (1)))) (mVar 2)) mNil))) (mD (mCbL fList (mCons (mVar 1) mNil))))) (mD (mLst (mCons (mVar 0) mNil))))))) (mSeq (mRet (mV (mCb fMax (mCons (mD (mLc (mIA fZip (mCons (mVar 3) (mCons (mD (mSlL (mVar 3) (mPart (mC (.int (1)))) mNoPart)) mNil))) (g2 4 5) mYes (mOp subI (mOp subI (mVar 5) (mVar 4)) (mC (.int (1)))) [4, 5])) mNil)))) mNext))
def M.longest_run : List PyData → R PyData := runD 6 3 M.b_longest_run

def M.b_sounds : Bo := (mSeq (mRet (mLc (mIA fRg1 (mCons (mOp ixT (mVar 0) (mC (.int (0)))) mNil)) (gN 2) mYes (mCb fLen (mCons (mD (mLc (mI1 tup? (mVar 1)) (gN 3) (mT (mOp (inI true) (mVar 2) (mVar 3))) (mVar 3) [3])) mNil)) [2])) mNext)
def M.sounds : List PyData → R PyData := runD 4 2 M.b_sounds

def M.b_right_from : Bo := (mSeq (mAsg (g3 4 5 6) (mVar 1)) (mSeq (mIfS (mOr (mT (mOp neI (mCb fLen (mCons (mVar 2) mNil)) (mVar 4))) (mT (mCb fAny (mCons (mD (mLc2 (mI1 tup? (mVar 2)) (gN 7) (mI1 tup? (mVar 7)) (gN 8) mYes (mOp (inI true) (mVar 8) (mOp ixT (mVar 0) (mC (.int (1))))) [7, 8] [8])) mNil)))) (mSeq (mRet (mV (mC (.bool false)))) mNext) mNext) (mSeq (mIfS (mT (mOp ltI (mCb fMin (mCons (mD (mCall M.sounds (mCons (mVar 0) (mCons (mVar 2) mNil)))) mNil)) (mVar 6))) (mSeq (mRet (mV (mC (.bool false)))) mNext) mNext) (mSeq (mRet (mV (mCb fAll (mCons (mD (mLc (mIA fZipT (mCons (mVar 2) (mCons (mVar 3) mNil))) (g2 7 9) mYes (mOp leI (mD (mCallN M.longest_run (mCons (mOp ixT (mVar 0) (mC (.int (0)))) (mCons (mVar 7) (mCons (mVar 9) mNil))))) (mVar 5)) [7, 9])) mNil)))) mNext))))
def M.right_from : List PyData → R PyData := runD 10 4 M.b_right_from

def M.b_is_plan : Bo := (mSeq (mDrop (mCall M.need_choir (mCons (mVar 0) (mCons (mVar 1) mNil)))) (mSeq (mRet (mV (mAndV (mD (mCall M.good_rows (mCons (mVar 0) (mCons (mVar 2) mNil)))) (mD (mCall M.right_from (mCons (mVar 0) (mCons (mVar 1) (mCons (mVar 2) (mCons (mOp repT (mTup (mCons (mC (.int (0))) mNil)) (mOp ixT (mVar 1) (mC (.int (0))))) mNil))))))))) mNext))
def M.is_plan : List PyData → R PyData := runD 3 3 M.b_is_plan

def M.b_window_counts : Bo := (mSeq (mAsg (g2 2 3) (mVar 0)) (mSeq (mRet (mLc (mIA fRg1 (mCons (mOp subI (mVar 2) (mVar 1)) mNil)) (gN 4) mYes (mCb fLen (mCons (mD (mLc (mI1 tup? (mVar 3)) (gN 5) (mT (mChain leI leI (mVar 4) (mVar 5) (mOp addI (mVar 4) (mVar 1)))) (mVar 5) [5])) mNil)) [4])) mNext))
def M.window_counts : List PyData → R PyData := runD 6 2 M.b_window_counts

def M.b_enough : Bo := (mSeq (mAsg (g3 2 3 4) (mVar 1)) (mSeq (mRet (mV (mCb fAll (mCons (mD (mLc (mI1 lst? (mD (mCall M.window_counts (mCons (mVar 0) (mCons (mVar 3) mNil))))) (gN 5) mYes (mOp geI (mOp mulI (mOp subI (mVar 2) (mVar 4)) (mVar 5)) (mVar 2)) [5])) mNil)))) mNext))
def M.enough : List PyData → R PyData := runD 6 2 M.b_enough

def M.b_dealt : Bo := (mSeq (mSet 3 (mNils (mIA fRg1 (mCons (mVar 0) mNil)) 4)) (mSeq (mFor (mIA fEnum (mCons (mVar 1) mNil)) (g2 5 6) (mSeq (mDrop (mV (mAppLL 3 (mOp ixL (mVar 2) (mOp modI (mVar 5) (mCb fLen (mCons (mVar 2) mNil)))) (mVar 6)))) mNext)) (mSeq (mRet (mBor (mV (mCb fTuple (mCons (mD (mLc (mI1 lst? (mVar 3)) (gN 7) mYes (mCb fTuple (mCons (mVar 7) mNil)) [7])) mNil))))) mNext)))
def M.dealt : List PyData → R PyData := runD 8 3 M.b_dealt

def M.b_all_places : Bo := (mSeq (mSet 2 (mLst mNil)) (mSeq (mFor (mI1 tup? (mOp ixT (mVar 0) (mC (.int (1))))) (gN 3) (mSeq (mSet 2 (mCatO 2 (mD (mRep (mLst (mCons (mVar 3) mNil)) (mOp subI (mOp ixT (mVar 1) (mC (.int (0)))) (mOp ixT (mVar 1) (mC (.int (2))))))))) mNext)) (mSeq (mRet (mMv 2)) mNext)))
def M.all_places : List PyData → R PyData := runD 4 2 M.b_all_places

def M.b_can_sing : Bo := (mSeq (mDrop (mCall M.need_choir (mCons (mVar 0) (mCons (mVar 1) mNil)))) (mSeq (mRet (mCall M.enough (mCons (mVar 0) (mCons (mVar 1) mNil)))) mNext))
def M.can_sing : List PyData → R PyData := runD 2 2 M.b_can_sing

def M.b_plan_for : Bo := (mSeq (mDrop (mCall M.need_choir (mCons (mVar 0) (mCons (mVar 1) mNil)))) (mSeq (mIfS (mNot (mT (mD (mCall M.enough (mCons (mVar 0) (mCons (mVar 1) mNil)))))) (mSeq (mRaise ("NotPossible" : Str)) mNext) mNext) (mSeq (mSet 2 (mV (mD (mIf (mT (mOp gtI (mOp ixT (mVar 0) (mC (.int (0)))) (mOp ixT (mVar 1) (mC (.int (1)))))) (mCall M.all_places (mCons (mVar 0) (mCons (mVar 1) mNil))) (mLst mNil))))) (mSeq (mRet (mCall M.dealt (mCons (mOp ixT (mVar 1) (mC (.int (0)))) (mCons (mVar 2) (mCons (mD (mLstRg (mRg1 (mOp ixT (mVar 1) (mC (.int (0))))))) mNil))))) mNext))))
def M.plan_for : List PyData → R PyData := runD 3 2 M.b_plan_for

def M.b_chosen : Bo := (mSeq (mAsg (g3 2 3 4) (mVar 1)) (mSeq (mAsg (g2 5 6) (mVar 0)) (mSeq (mSet 7 (mDc (mI1 tup? (mVar 6)) (gN 8) (mVar 8) (mC (.int (0))) [8])) (mSeq (mFor (mIA fRg1 (mCons (mOp subI (mVar 5) (mVar 3)) mNil)) (gN 9) (mSeq (mSet 10 (mV (mD (mLc (mI1 tup? (mVar 6)) (gN 8) (mT (mChain leI leI (mVar 9) (mVar 8) (mOp addI (mVar 9) (mVar 3)))) (mVar 8) [8])))) (mSeq (mSet 11 (mV (mOp subI (mVar 2) (mCb fSum (mCons (mD (mLc (mI1 lst? (mVar 10)) (gN 8) mYes (mDGet 7 (mVar 8)) [8])) mNil))))) (mSeq (mFor (mI1 lst? (mD (mRevL (mVar 10)))) (gN 8) (mSeq (mSet 12 (mV (mCb fMax2 (mCons (mC (.int (0))) (mCons (mCb fMin2 (mCons (mVar 11) (mCons (mOp subI (mOp subI (mVar 2) (mVar 4)) (mDGet 7 (mVar 8))) mNil))) mNil))))) (mSeq (mDAug 7 (mVar 8) (mVar 12)) (mSeq (mAug 11 (fun a b => a - b) (mVar 12)) mNext)))) mNext)))) (mSeq (mSet 13 (mLst mNil)) (mSeq (mFor (mI1 tup? (mVar 6)) (gN 8) (mSeq (mSet 13 (mCatO 13 (mD (mRep (mLst (mCons (mVar 8) mNil)) (mDGet 7 (mVar 8)))))) mNext)) (mSeq (mRet (mMv 13)) mNext)))))))
def M.chosen : List PyData → R PyData := runD 14 2 M.b_chosen

def M.b_fewest_breaths : Bo := (mSeq (mDrop (mCall M.need_choir (mCons (mVar 0) (mCons (mVar 1) mNil)))) (mSeq (mIfS (mNot (mT (mD (mCall M.enough (mCons (mVar 0) (mCons (mVar 1) mNil)))))) (mSeq (mRaise ("NotPossible" : Str)) mNext) mNext) (mSeq (mRet (mV (mCb fLen (mCons (mD (mCall M.chosen (mCons (mVar 0) (mCons (mVar 1) mNil)))) mNil)))) mNext)))
def M.fewest_breaths : List PyData → R PyData := runD 2 2 M.b_fewest_breaths

def M.b_need_number : Bo := (mSeq (mIfS (mNot (mT (mD (mCall M.is_from (mCons (mVar 0) (mCons (mVar 1) (mCons (mVar 2) mNil))))))) (mSeq (mRaise ("InvalidNumber" : Str)) mNext) mNext) mNext)
def M.need_number : List PyData → R PyData := runD 3 3 M.b_need_number

def M.b_singers_for : Bo := (mSeq (mIfS (mOr (mT (mOp eqI (mVar 0) (mC (.int (0))))) (mAnd (mT (mOp eqI (mVar 0) (mC (.int (1))))) (mT (mOp gtI (mVar 1) (mC (.int (0))))))) (mSeq (mRet (mV (mC .none))) mNext) mNext) (mSeq (mRet (mIf (mT (mOp gtI (mVar 0) (mC (.int (1))))) (mV (mCb fMax2 (mCons (mC (.int (1))) (mCons (mUn negI (mOp divI (mOp mulI (mUn negI (mVar 1)) (mVar 0)) (mOp subI (mVar 0) (mC (.int (1)))))) mNil)))) (mV (mC (.int (1)))))) mNext))
def M.singers_for : List PyData → R PyData := runD 2 2 M.b_singers_for

def M.b_fewest_singers : Bo := (mSeq (mDrop (mCall M.need_piece (mCons (mVar 0) mNil))) (mSeq (mDrop (mCall M.need_number (mCons (mVar 1) (mCons (mC (.int (1))) (mCons (mC (.int (60))) mNil))))) (mSeq (mDrop (mCall M.need_number (mCons (mVar 2) (mCons (mC (.int (0))) (mCons (mC (.int (30))) mNil))))) (mSeq (mSet 3 (mV (mD (mCall M.window_counts (mCons (mVar 0) (mCons (mVar 1) mNil)))))) (mSeq (mRet (mIf (mT (mOp neD (mVar 3) (mD (mLst mNil)))) (mCall M.singers_for (mCons (mCb fMin (mCons (mVar 3) mNil)) (mCons (mVar 2) mNil))) (mV (mCb fMax2 (mCons (mC (.int (1))) (mCons (mVar 2) mNil)))))) mNext)))))
def M.fewest_singers : List PyData → R PyData := runD 4 3 M.b_fewest_singers

def M.b_most_voices : Bo := (mSeq (mDrop (mCall M.need_piece (mCons (mVar 0) mNil))) (mSeq (mDrop (mCall M.need_number (mCons (mVar 1) (mCons (mC (.int (1))) (mCons (mC (.int (30))) mNil))))) (mSeq (mDrop (mCall M.need_number (mCons (mVar 2) (mCons (mC (.int (1))) (mCons (mC (.int (60))) mNil))))) (mSeq (mSet 3 (mV (mD (mCall M.window_counts (mCons (mVar 0) (mCons (mVar 2) mNil)))))) (mSeq (mIfS (mT (mOp eqD (mVar 3) (mD (mLst mNil)))) (mSeq (mRet (mV (mVar 1))) mNext) mNext) (mSeq (mRet (mIf (mT (mOp gtI (mCb fMin (mCons (mVar 3) mNil)) (mC (.int (0))))) (mV (mOp addI (mVar 1) (mOp divI (mUn negI (mVar 1)) (mCb fMin (mCons (mVar 3) mNil))))) (mV (mC .none)))) mNext))))))
def M.most_voices : List PyData → R PyData := runD 4 3 M.b_most_voices

def M.b_least_breath : Bo := (mSeq (mDrop (mCall M.need_piece (mCons (mVar 0) mNil))) (mSeq (mDrop (mCall M.need_number (mCons (mVar 1) (mCons (mC (.int (1))) (mCons (mC (.int (30))) mNil))))) (mSeq (mDrop (mCall M.need_number (mCons (mVar 2) (mCons (mC (.int (0))) (mCons (mVar 1) mNil))))) (mSeq (mFor (mIA fRg2 (mCons (mC (.int (1))) (mCons (mOp ixT (mVar 0) (mC (.int (0)))) mNil))) (gN 3) (mSeq (mIfS (mT (mCb fAll (mCons (mD (mLc (mI1 lst? (mD (mCall M.window_counts (mCons (mVar 0) (mCons (mVar 3) mNil))))) (gN 4) mYes (mOp geI (mOp mulI (mOp subI (mVar 1) (mVar 2)) (mVar 4)) (mVar 1)) [4])) mNil))) (mSeq (mRet (mV (mVar 3))) mNext) mNext) mNext)) (mSeq (mRet (mV (mOp ixT (mVar 0) (mC (.int (0)))))) mNext)))))
def M.least_breath : List PyData → R PyData := runD 5 3 M.b_least_breath

def M.b_law_deck : Bo := (mSeq (mIfS (mT (mOp geI (mVar 0) (mOp powI (mC (.int (10))) (mC (.int (18)))))) (mSeq (mRet (mLst (mCons (mOp subI (mVar 0) (mOp powI (mC (.int (10))) (mC (.int (18))))) (mCons (mOp modI (mVar 0) (mC (.int (2147483579)))) (mCons (mVar 1) mNil))))) mNext) mNext) (mSeq (mRet (mLst (mCons (mC (.int (0))) (mCons (mOp modI (mVar 0) (mC (.int (2147483579)))) (mCons (mVar 1) mNil))))) mNext))
def M.law_deck : List PyData → R PyData := runD 2 2 M.b_law_deck

def M.b_law_pick : Bo := (mSeq (mIfS (mBorT (mT (mOp gtI (mOp ixL (mVar 0) (mC (.int (0)))) (mC (.int (1)))))) (mSeq (mSet 2 (mV (mD (mBor (mV (mOp modI (mOp ixL (mVar 0) (mC (.int (0)))) (mVar 1))))))) (mSeq (mSetI 0 (mD (mBor (mV (mOp divI (mOp ixL (mVar 0) (mC (.int (0)))) (mVar 1))))) (mC (.int (0)))) (mSeq (mRet (mV (mVar 2))) mNext))) mNext) (mSeq (mSetI 0 (mD (mBor (mV (mOp addI (mOp ixL (mVar 0) (mC (.int (2)))) (mC (.int (1))))))) (mC (.int (2)))) (mSeq (mSet 3 (mV (mD (mBor (mV (mOp modI (mOp powI (mOp addI (mOp ixL (mVar 0) (mC (.int (1)))) (mOp mulI (mC (.int (15485867))) (mOp ixL (mVar 0) (mC (.int (2)))))) (mC (.int (5)))) (mC (.int (2147483647))))))))) (mSeq (mSet 2 (mV (mD (mBor (mV (mOp divI (mOp modI (mOp powI (mOp addI (mVar 3) (mOp mulI (mC (.int (7919))) (mOp ixL (mVar 0) (mC (.int (2)))))) (mC (.int (3)))) (mC (.int (2147483629)))) (mC (.int (32))))))))) (mSeq (mIfS (mT (mOp gtI (mVar 1) (mC (.int (1000000))))) (mSeq (mRet (mV (mOp modI (mOp addI (mOp mulI (mVar 2) (mC (.int (2147483563)))) (mVar 3)) (mVar 1)))) mNext) mNext) (mSeq (mRet (mV (mOp modI (mVar 2) (mVar 1)))) mNext))))))
def M.law_pick : List PyData → List PyData → R (List PyData × PyData) := runO 4 2 M.b_law_pick

def M.b_law_one : Bo := (mSeq (mRet (mV (mOp ixL (mVar 1) (mD (mCallO M.law_pick 0 (mCons (mCb fLen (mCons (mVar 1) mNil)) mNil)))))) mNext)
def M.law_one : List PyData → List PyData → R (List PyData × PyData) := runO 2 2 M.b_law_one

def M.b_law_song : Bo := (mSeq (mAsg (g2 3 4) (mTup (mCons (mOp addI (mVar 1) (mD (mCallO M.law_pick 0 (mCons (mOp addI (mOp subI (mVar 2) (mVar 1)) (mC (.int (1)))) mNil)))) (mCons (mD (mCallO M.law_one 0 (mCons (mD (mLst (mCons (mC (.int (1))) (mCons (mC (.int (3))) (mCons (mC (.int (8))) mNil))))) mNil))) mNil)))) (mSeq (mSet 5 (mV (mD (mLc (mIA fRg1 (mCons (mVar 3) mNil)) (gN 6) (mT (mOp gtI (mD (mCallO M.law_pick 0 (mCons (mOp addI (mVar 4) (mC (.int (1)))) mNil))) (mC (.int (0))))) (mVar 6) [6])))) (mSeq (mRet (mV (mTup (mCons (mVar 3) (mCons (mCb fTuple (mCons (mVar 5) mNil)) mNil))))) mNext)))
def M.law_song : List PyData → List PyData → R (List PyData × PyData) := runO 7 3 M.b_law_song

def M.b_law_group : Bo := (mSeq (mSet 3 (mV (mOp addI (mC (.int (1))) (mD (mCallO M.law_pick 0 (mCons (mVar 1) mNil)))))) (mSeq (mRet (mV (mTup (mCons (mVar 3) (mCons (mOp addI (mC (.int (1))) (mD (mCallO M.law_pick 0 (mCons (mVar 2) mNil)))) (mCons (mD (mCallO M.law_pick 0 (mCons (mOp addI (mVar 3) (mC (.int (1)))) mNil))) mNil)))))) mNext))
def M.law_group : List PyData → List PyData → R (List PyData × PyData) := runO 4 3 M.b_law_group

def M.b_law_not_worse : Bo := (mSeq (mIfS (mT (mOp notB (mD (mCall M.can_sing (mCons (mVar 2) (mCons (mVar 3) mNil)))) (mC (.bool true)))) (mSeq (mRet (mV (mC (.bool false)))) mNext) mNext) (mSeq (mRet (mV (mOp leI (mD (mCall M.fewest_breaths (mCons (mVar 2) (mCons (mVar 3) mNil)))) (mD (mCall M.fewest_breaths (mCons (mVar 0) (mCons (mVar 1) mNil))))))) mNext))
def M.law_not_worse : List PyData → R PyData := runD 4 4 M.b_law_not_worse

def M.b_law_cut : Bo := (mSeq (mRet (mV (mTup (mCons (mOp subI (mVar 2) (mVar 1)) (mCons (mCb fTuple (mCons (mD (mLc (mI1 tup? (mOp ixT (mVar 0) (mC (.int (1))))) (gN 3) (mT (mChain leI ltI (mVar 1) (mVar 3) (mVar 2))) (mOp subI (mVar 3) (mVar 1)) [3])) mNil)) mNil))))) mNext)
def M.law_cut : List PyData → R PyData := runD 4 3 M.b_law_cut

def M.b_k16_law : Bo := (mSeq (mFor (mI1 lst? (mD (mSlL (mD (mOpL catL (mD (mLst (mCons (mC (.int (0))) mNil))) (mVar 0))) mNoPart (mPart (mC (.int (10))))))) (gN 1) (mSeq (mSet 2 (mCallN M.law_deck (mCons (mVar 1) (mCons (mC (.int (16))) mNil)))) (mSeq (mFor (mIA fRg1 (mCons (mC (.int (3))) mNil)) (gN 3) (mSeq (mPar 4 5 (wCons (mV (mD (mCallO M.law_song 2 (mCons (mC (.int (2))) (mCons (mC (.int (60))) mNil))))) (wCons (mV (mD (mCallO M.law_group 2 (mCons (mC (.int (20))) (mCons (mC (.int (20))) mNil))))) wNil))) (mSeq (mIfS (mNot (mT (mD (mCallN M.can_sing (mCons (mVar 4) (mCons (mVar 5) mNil)))))) (mSeq mCont mNext) mNext) (mSeq (mSet 6 (mV (mD (mCallN M.plan_for (mCons (mVar 4) (mCons (mVar 5) mNil)))))) (mSeq (mSet 7 (mV (mD (mCallO M.law_pick 2 (mCons (mOp ixT (mVar 4) (mC (.int (0)))) mNil))))) (mSeq (mSet 8 (mV (mTup (mCons (mOp ixT (mVar 4) (mC (.int (0)))) (mCons (mCb fTuple (mCons (mD (mSset (mOp catT (mOp ixT (mVar 4) (mC (.int (1)))) (mTup (mCons (mVar 7) mNil))))) mNil)) mNil))))) (mSeq (mPar 9 10 (wCons (mV (mTup (mCons (mOp ixT (mVar 5) (mC (.int (0)))) (mCons (mOp addI (mOp ixT (mVar 5) (mC (.int (1)))) (mC (.int (1)))) (mCons (mOp ixT (mVar 5) (mC (.int (2)))) mNil))))) (wCons (mV (mTup (mCons (mOp ixT (mVar 5) (mC (.int (0)))) (mCons (mOp ixT (mVar 5) (mC (.int (1)))) (mCons (mCb fMax2 (mCons (mC (.int (0))) (mCons (mOp subI (mOp ixT (mVar 5) (mC (.int (2)))) (mC (.int (1)))) mNil))) mNil))))) wNil))) (mSeq (mSet 11 (mV (mD (mCallO M.law_pick 2 (mCons (mOp ixT (mVar 4) (mC (.int (0)))) mNil))))) (mSeq (mSet 12 (mV (mD (mCallN M.law_cut (mCons (mVar 4) (mCons (mVar 11) (mCons (mOp addI (mOp addI (mVar 11) (mC (.int (1)))) (mD (mCallO M.law_pick 2 (mCons (mOp subI (mOp ixT (mVar 4) (mC (.int (0)))) (mVar 11)) mNil)))) mNil))))))) (mSeq (mFor (mI1 lst? (mD (mLst (mCons (mTup (mCons (mVar 8) (mCons (mVar 5) mNil))) (mCons (mTup (mCons (mVar 4) (mCons (mVar 9) mNil))) (mCons (mTup (mCons (mVar 4) (mCons (mVar 10) mNil))) (mCons (mTup (mCons (mVar 12) (mCons (mVar 5) mNil))) mNil))))))) (g2 13 14) (mSeq (mIfS (mNot (mT (mD (mCallN M.law_not_worse (mCons (mVar 4) (mCons (mVar 5) (mCons (mVar 13) (mCons (mVar 14) mNil)))))))) (mSeq (mRet (mV (mC (.bool false)))) mNext) mNext) mNext)) (mSeq (mFor (mI1 lst? (mD (mLst (mCons (mTup (mCons (mVar 8) (mCons (mVar 5) mNil))) (mCons (mTup (mCons (mVar 4) (mCons (mVar 9) mNil))) (mCons (mTup (mCons (mVar 4) (mCons (mVar 10) mNil))) mNil)))))) (g2 13 14) (mSeq (mIfS (mT (mOp notB (mD (mCallN M.is_plan (mCons (mVar 13) (mCons (mVar 14) (mCons (mVar 6) mNil))))) (mC (.bool true)))) (mSeq (mRet (mV (mC (.bool false)))) mNext) mNext) mNext)) (mSeq (mSet 15 (mV (mCb fTuple (mCons (mD (mLc (mI1 tup? (mVar 6)) (gN 16) mYes (mCb fTuple (mCons (mD (mLc (mI1 tup? (mVar 16)) (gN 17) (mT (mChain leI ltI (mVar 11) (mVar 17) (mOp addI (mVar 11) (mOp ixT (mVar 12) (mC (.int (0))))))) (mOp subI (mVar 17) (mVar 11)) [17])) mNil)) [16])) mNil)))) (mSeq (mIfS (mT (mOp notB (mD (mCallN M.is_plan (mCons (mVar 12) (mCons (mVar 5) (mCons (mVar 15) mNil))))) (mC (.bool true)))) (mSeq (mRet (mV (mC (.bool false)))) mNext) mNext) (mSeq (mIfS (mT (mOp gtI (mD (mCallN M.least_breath (mCons (mVar 4) (mCons (mOp ixT (mVar 5) (mC (.int (0)))) (mCons (mOp ixT (mVar 5) (mC (.int (2)))) mNil))))) (mOp ixT (mVar 5) (mC (.int (1)))))) (mSeq (mRet (mV (mC (.bool false)))) mNext) mNext) (mSeq (mIfS (mOr (mT (mOp ltI (mD (mCallN M.most_voices (mCons (mVar 4) (mCons (mOp ixT (mVar 5) (mC (.int (0)))) (mCons (mOp ixT (mVar 5) (mC (.int (1)))) mNil))))) (mOp ixT (mVar 5) (mC (.int (2)))))) (mT (mOp gtI (mD (mCallN M.fewest_singers (mCons (mVar 4) (mCons (mOp ixT (mVar 5) (mC (.int (1)))) (mCons (mOp ixT (mVar 5) (mC (.int (2)))) mNil))))) (mOp ixT (mVar 5) (mC (.int (0))))))) (mSeq (mRet (mV (mC (.bool false)))) mNext) mNext) mNext))))))))))))))) mNext))) (mSeq (mSet 4 (mV (mTup (mCons (mC (.int (8))) (mCons (mTup (mCons (mC (.int (0))) (mCons (mC (.int (1))) (mCons (mC (.int (4))) (mCons (mC (.int (5))) (mCons (mC (.int (6))) (mCons (mC (.int (7))) mNil))))))) mNil))))) (mSeq (mIfS (mOr (mT (mD (mCallN M.can_sing (mCons (mVar 4) (mCons (mTup (mCons (mC (.int (3))) (mCons (mC (.int (3))) (mCons (mC (.int (2))) mNil)))) mNil))))) (mOr (mNot (mT (mD (mCallN M.can_sing (mCons (mTup (mCons (mC (.int (8))) (mCons (mTupRg (mRg1 (mC (.int (8))))) mNil))) (mCons (mTup (mCons (mC (.int (3))) (mCons (mC (.int (3))) (mCons (mC (.int (2))) mNil)))) mNil)))))) (mNot (mT (mD (mCallN M.can_sing (mCons (mVar 4) (mCons (mTup (mCons (mC (.int (3))) (mCons (mC (.int (4))) (mCons (mC (.int (2))) mNil)))) mNil)))))))) (mSeq (mRet (mV (mC (.bool false)))) mNext) mNext) (mSeq (mIfS (mT (mOp neI (mD (mCallN M.fewest_breaths (mCons (mTup (mCons (mC (.int (9))) (mCons (mTup (mCons (mC (.int (4))) mNil)) mNil))) (mCons (mTup (mCons (mC (.int (2))) (mCons (mC (.int (4))) (mCons (mC (.int (0))) mNil)))) mNil)))) (mC (.int (2))))) (mSeq (mRet (mV (mC (.bool false)))) mNext) mNext) (mSeq (mRet (mV (mAndV (mD (mCallN M.can_sing (mCons (mTup (mCons (mC (.int (3))) (mCons (mTup (mCons (mC (.int (1))) mNil)) mNil))) (mCons (mTup (mCons (mC (.int (1))) (mCons (mC (.int (1))) (mCons (mC (.int (0))) mNil)))) mNil)))) (mNotV (mD (mCallN M.can_sing (mCons (mTup (mCons (mC (.int (4))) (mCons (mTup (mCons (mC (.int (1))) mNil)) mNil))) (mCons (mTup (mCons (mC (.int (1))) (mCons (mC (.int (1))) (mCons (mC (.int (0))) mNil)))) mNil)))))))) mNext)))))
def M.k16_law : List PyData → R PyData := runD 18 1 M.b_k16_law

def M.b_sparing_plan : Bo := (mSeq (mDrop (mCall M.need_choir (mCons (mVar 0) (mCons (mVar 1) mNil)))) (mSeq (mIfS (mNot (mT (mD (mCall M.enough (mCons (mVar 0) (mCons (mVar 1) mNil)))))) (mSeq (mRaise ("NotPossible" : Str)) mNext) mNext) (mSeq (mRet (mCall M.dealt (mCons (mOp ixT (mVar 1) (mC (.int (0)))) (mCons (mD (mCall M.chosen (mCons (mVar 0) (mCons (mVar 1) mNil)))) (mCons (mD (mLstRg (mRg1 (mOp ixT (mVar 1) (mC (.int (0))))))) mNil))))) mNext)))
def M.sparing_plan : List PyData → R PyData := runD 2 2 M.b_sparing_plan
def M.b_law_right : Bo := (mSeq (mAsg (g3 4 5 6) (mVar 1)) (mSeq (mIfS (mOr (mNot (mT (mIsi isTup (mVar 2)))) (mT (mOp neI (mCb fLen (mCons (mVar 2) mNil)) (mVar 4)))) (mSeq (mRet (mV (mC (.bool false)))) mNext) mNext) (mSeq (mSet 7 (mV (mD (mCbL fList (mCons (mVar 3) mNil))))) (mSeq (mFor (mIA fRg1 (mCons (mOp ixT (mVar 0) (mC (.int (0)))) mNil)) (gN 8) (mSeq (mSet 9 (mV (mD (mLc (mIA fRg1 (mCons (mVar 4) mNil)) (gN 10) (mT (mOp (inI false) (mVar 8) (mOp ixT (mVar 2) (mVar 10)))) (mVar 10) [10])))) (mSeq (mIfS (mOr (mT (mOp ltI (mOp subI (mVar 4) (mCb fLen (mCons (mVar 9) mNil))) (mVar 6))) (mAnd (mT (mOp neD (mVar 9) (mD (mLst mNil)))) (mT (mOp (inI true) (mVar 8) (mOp ixT (mVar 0) (mC (.int (1)))))))) (mSeq (mRet (mV (mC (.bool false)))) mNext) mNext) (mSeq (mSet 7 (mV (mD (mLc (mIA fEnum (mCons (mVar 7) mNil)) (g2 10 11) mYes (mD (mIf (mT (mOp (inI false) (mVar 10) (mVar 9))) (mV (mC (.int (0)))) (mV (mOp addI (mVar 11) (mC (.int (1))))))) [10, 11])))) (mSeq (mIfS (mT (mOp gtI (mCb fMax (mCons (mVar 7) mNil)) (mVar 5))) (mSeq (mRet (mV (mC (.bool false)))) mNext) mNext) mNext))))) (mSeq (mRet (mV (mOp eqD (mD (mLc (mI1 tup? (mVar 2)) (gN 12) (mOr (mT (mOp neD (mD (mCbL fList (mCons (mVar 12) mNil))) (mD (mSset (mVar 12))))) (mAnd (mT (mOp gtI (mCb fLen (mCons (mVar 12) mNil)) (mC (.int (0))))) (mT (mOp geI (mOp ixT (mVar 12) (mUn negI (mC (.int (1))))) (mOp ixT (mVar 0) (mC (.int (0)))))))) (mC (.int (1))) [12])) (mD (mLst mNil))))) mNext)))))
def M.law_right : List PyData → R PyData := runD 13 4 M.b_law_right
def M.b_law_sort : Bo := (mSeq (mIfS (mT (mIsi isBool (mVar 0))) (mSeq (mRet (mV (mC (.int (1))))) mNext) mNext) (mSeq (mIfS (mT (mIsi isInt (mVar 0))) (mSeq (mRet (mV (mC (.int (2))))) mNext) mNext) (mSeq (mIfS (mT (mIsi isStr (mVar 0))) (mSeq (mRet (mV (mC (.int (3))))) mNext) mNext) (mSeq (mIfS (mT (mIsi isLst (mVar 0))) (mSeq (mRet (mV (mC (.int (4))))) mNext) mNext) (mSeq (mRet (mIf (mT (mIsi isTup (mVar 0))) (mV (mC (.int (5)))) (mV (mC (.int (6)))))) mNext)))))
def M.law_sort : List PyData → R PyData := runD 1 1 M.b_law_sort
def M.b_law_same (self : List PyData → R PyData) : Bo := (mSeq (mIfS (mT (mOp neI (mD (mCall M.law_sort (mCons (mVar 0) mNil))) (mD (mCall M.law_sort (mCons (mVar 1) mNil))))) (mSeq (mRet (mV (mC (.bool false)))) mNext) mNext) (mSeq (mIfS (mAnd (mT (mOp gtI (mD (mCall M.law_sort (mCons (mVar 0) mNil))) (mC (.int (3))))) (mT (mOp ltI (mD (mCall M.law_sort (mCons (mVar 0) mNil))) (mC (.int (6)))))) (mSeq (mIfS (mT (mOp neI (mCb fLen (mCons (mVar 0) mNil)) (mCb fLen (mCons (mVar 1) mNil)))) (mSeq (mRet (mV (mC (.bool false)))) mNext) mNext) (mSeq (mRet (mV (mOp eqD (mD (mLc (mIA fEnum (mCons (mVar 0) mNil)) (g2 2 3) (mNot (mT (mD (mCallN self (mCons (mVar 3) (mCons (mOp ixL (mVar 1) (mVar 2)) mNil)))))) (mVar 2) [2, 3])) (mD (mLst mNil))))) mNext)) mNext) (mSeq (mRet (mV (mOp eqD (mVar 0) (mVar 1)))) mNext)))
def M.law_same_at : Nat → List PyData → R PyData
  | 0 => fun _ => .bad
  | n + 1 => runD 4 2 (M.b_law_same (M.law_same_at n))
def M.law_same : List PyData → R PyData := M.law_same_at 6
def M.b_need_rows : Bo := (mSeq (mIfS (mNot (mT (mD (mCall M.good_rows (mCons (mVar 0) (mCons (mVar 1) mNil)))))) (mSeq (mRaise ("InvalidRows" : Str)) mNext) mNext) mNext)
def M.need_rows : List PyData → R PyData := runD 2 2 M.b_need_rows
end
/-! RD0: what the mirrors come to, read step by step (rules for simp). -/
namespace AL
open PySem L2 TL Q
section
variable {i j k : Nat} {d x y : PyData} {g : En} {a b c : Md} {ev ew : Mv} {es : Ma} {t u : Mt} {p q : Bo} {f : PyData → PyData → Option PyData} {fl : PyData → PyData → Option (List PyData)} {M : List PyData → R PyData}
@[simp] theorem R.of_some {α : Type} (a : α) : R.of (some a) = .ok a := rfl
@[simp] theorem R.noE_ok {α : Type} (a : α) : (R.ok a).noE = .ok a := rfl
@[simp] theorem mD_ap : mD ev g = (ev g).bind fun p => (R.of p.2.toD).bind fun d => .ok (p.1, d) := rfl
@[simp] theorem toD_da : (SD.da d).toD = some d := rfl
@[simp] theorem toD_ls {ds : List PyData} : (SD.ls k ds).toD = some (.list ds) := rfl
@[simp] theorem mV_ap : mV a g = (a g).bind fun p => .ok (p.1, .da p.2) := rfl
theorem mVar_ap : mVar i g = (match g[i]? with | some (.da d) => .ok (g, d) | _ => .bad) := rfl
@[simp] theorem mVar_z {g : En} : mVar 0 (.da d :: g) = .ok (.da d :: g, d) := rfl
@[simp] theorem mVar_eq (h : g[i]? = some (.da d)) : mVar i g = .ok (g, d) := by rw [mVar_ap, h]
theorem mMv_eq {t : Nat} {ds : List PyData} (h : g[i]? = some (.ls t ds)) : mMv i g = .ok (g.set i .no, .ls t ds) := by unfold mMv; rw [h]
@[simp] theorem mMv_ap : mMv i g = (match g[i]? with | some (.ls t ds) => .ok (g.set i .no, .ls t ds) | some (.ow t n d) => .ok (g.set i .no, .ow t n d) | _ => .bad) := rfl
@[simp] theorem mC_ap : mC d g = .ok (g, d) := rfl
@[simp] theorem mOp_ap : mOp f a b g = (a g).bind fun p => (b p.1).bind fun q => (R.of (f p.2 q.2)).bind fun z => .ok (q.1, z) := rfl
@[simp] theorem mOpL_ap : mOpL fl a b g = (a g).bind fun p => (b p.1).bind fun q => (R.of (fl p.2 q.2)).bind fun z => .ok (q.1, .ls 0 z) := rfl
@[simp] theorem mUn_ap {f : PyData → Option PyData} : mUn f a g = (a g).bind fun p => (R.of (f p.2)).bind fun z => .ok (p.1, z) := rfl
@[simp] theorem mNil_ap : mNil g = .ok (g, []) := rfl
@[simp] theorem mCons_ap : mCons a es g = (a g).bind fun p => (es p.1).bind fun q => .ok (q.1, p.2 :: q.2) := rfl
@[simp] theorem mCb_ap {f : List PyData → Option PyData} : mCb f es g = (es g).bind fun p => (R.of (f p.2)).bind fun z => .ok (p.1, z) := rfl
@[simp] theorem mCbL_ap {f : List PyData → Option (List PyData)} : mCbL f es g = (es g).bind fun p => (R.of (f p.2)).bind fun z => .ok (p.1, .ls 0 z) := rfl
@[simp] theorem mTup_ap : mTup es g = (es g).bind fun p => (R.of (few p.2)).bind fun z => .ok (p.1, .tuple z) := rfl
@[simp] theorem mLst_ap : mLst es g = (es g).bind fun p => (R.of (few p.2)).bind fun z => .ok (p.1, .ls 0 z) := rfl
@[simp] theorem few_nil : few [] = some [] := rfl
@[simp] theorem few_1 : few [x] = some [x] := rfl
@[simp] theorem few_2 : few [x, y] = some [x, y] := rfl
@[simp] theorem few_3 {z : PyData} : few [x, y, z] = some [x, y, z] := rfl
@[simp] theorem few_4 {z w : PyData} : few [x, y, z, w] = some [x, y, z, w] := rfl
@[simp] theorem few_5 {z w v : PyData} : few [x, y, z, w, v] = some [x, y, z, w, v] := rfl
@[simp] theorem few_6 {z w v s : PyData} : few [x, y, z, w, v, s] = some [x, y, z, w, v, s] := rfl
theorem few_ok {xs : List PyData} (h : xs.length ≤ 4096) : few xs = some xs := by
  unfold few
  exact if_pos (Nat.le_trans h (by decide))
@[simp] theorem bl_some {z : Bool} : SD.bl? (.bool z) = some z := rfl
@[simp] theorem mT_ap : mT a g = (a g).bind fun p => (R.of (SD.bl? p.2)).bind fun z => .ok (p.1, z) := rfl
@[simp] theorem mYes_ap : mYes g = .ok (g, true) := rfl
@[simp] theorem mNot_ap : mNot t g = (t g).bind fun p => .ok (p.1, !p.2) := rfl
@[simp] theorem mAnd_ap : mAnd t u g = (t g).bind fun p => match p.2 with | true => u p.1 | false => .ok (p.1, false) := rfl
@[simp] theorem mOr_ap : mOr t u g = (t g).bind fun p => match p.2 with | true => .ok (p.1, true) | false => u p.1 := rfl
@[simp] theorem mAndV_ap : mAndV a b g = (a g).bind fun p => (R.of (SD.bl? p.2)).bind fun z => match z with | true => b p.1 | false => .ok (p.1, .bool false) := rfl
@[simp] theorem mOrV_ap : mOrV a b g = (a g).bind fun p => (R.of (SD.bl? p.2)).bind fun z => match z with | true => .ok (p.1, .bool true) | false => b p.1 := rfl
@[simp] theorem mNotV_ap : mNotV a g = (a g).bind fun p => (R.of (SD.bl? p.2)).bind fun z => .ok (p.1, .bool (!z)) := rfl
@[simp] theorem mIf_ap : mIf t ev ew g = (t g).bind fun p => match p.2 with | true => ev p.1 | false => ew p.1 := rfl
@[simp] theorem mChain_ap {f' : PyData → PyData → Option PyData} : mChain f f' a b c g = (a g).bind fun p => (b p.1).bind fun q => (R.of ((f p.2 q.2).bind SD.bl?)).bind fun z => chain2 f' c q.1 q.2 z := rfl
@[simp] theorem chain2_t {f' : PyData → PyData → Option PyData} : chain2 f' c g y true = (c g).bind fun u => (R.of (f' y u.2)).bind fun w => .ok (u.1, w) := rfl
@[simp] theorem chain2_f {f' : PyData → PyData → Option PyData} : chain2 f' c g y false = .ok (g, .bool false) := rfl
/-! operators -/
section
variable {m n : Int} {ns ms : List Int} {bs : List Bool}
@[simp] theorem addI_ap : addI (.int m) (.int n) = some (.int (m + n)) := rfl
@[simp] theorem subI_ap : subI (.int m) (.int n) = some (.int (m - n)) := rfl
@[simp] theorem ltI_ap : ltI (.int m) (.int n) = some (.bool (decide (m < n))) := rfl
@[simp] theorem leI_ap : leI (.int m) (.int n) = some (.bool (decide (m ≤ n))) := rfl
@[simp] theorem gtI_ap : gtI (.int m) (.int n) = some (.bool (decide (n < m))) := rfl
@[simp] theorem geI_ap : geI (.int m) (.int n) = some (.bool (decide (n ≤ m))) := rfl
@[simp] theorem eqI_ap : eqI (.int m) (.int n) = some (.bool (decide (m = n))) := rfl
@[simp] theorem neI_ap : neI (.int m) (.int n) = some (.bool (!decide (m = n))) := rfl
theorem mulI_ap (h1 : -1000000 ≤ m) (h2 : m ≤ 1000000) : mulI (.int m) (.int n) = some (.int (m * n)) := by
  have : okMul m n = true := by
    simp only [okMul, Bool.or_eq_true, Bool.and_eq_true, decide_eq_true_eq]
    omega
  simp [mulI, iopC, this]
theorem mulI_ap2 (h1 : -1000000 ≤ n) (h2 : n ≤ 1000000) : mulI (.int m) (.int n) = some (.int (m * n)) := by
  have : okMul m n = true := by
    simp only [okMul, Bool.or_eq_true, Bool.and_eq_true, decide_eq_true_eq]
    omega
  simp [mulI, iopC, this]
theorem modI_ap (h : 0 < n) : modI (.int m) (.int n) = some (.int (m % n)) := by simp [modI, iopC, h]
theorem divI_ap (h : 0 < n) (h2 : n < 1073741824) : divI (.int m) (.int n) = some (.int (m / n)) := by simp [divI, iopC, h, h2]
@[simp] theorem negI_ap : negI (.int m) = some (.int (-m)) := rfl
@[simp] theorem isN_n : isN .none .none = some (.bool true) := rfl
@[simp] theorem isN_i : isN (.int m) .none = some (.bool false) := rfl
@[simp] theorem notN_n : notN .none .none = some (.bool false) := rfl
@[simp] theorem notN_i : notN (.int m) .none = some (.bool true) := rfl
@[simp] theorem isB_ap {v w : Bool} : isB (.bool v) (.bool w) = some (.bool (decide (v = w))) := rfl
@[simp] theorem notB_ap {v w : Bool} : notB (.bool v) (.bool w) = some (.bool (!decide (v = w))) := rfl
@[simp] theorem int?_ap : int? (.int m) = some m := rfl
@[simp] theorem tup?_ap {ds : List PyData} : tup? (.tuple ds) = some ds := rfl
@[simp] theorem lst?_ap {ds : List PyData} : lst? (.list ds) = some ds := rfl
@[simp] theorem ints?_map : ints? (ns.map .int) = some ns := by
  induction ns with
  | nil => rfl
  | cons n r ih => show (ints? (r.map .int)).map (n :: ·) = _; rw [ih]; rfl
@[simp] theorem ints?_nil : ints? [] = some [] := rfl
@[simp] theorem ints?_cons {ds : List PyData} : ints? (.int m :: ds) = (ints? ds).map (m :: ·) := rfl
@[simp] theorem bools?_map {α : Type} {l : List α} {f : α → Bool} : bools? (l.map fun x => .bool (f x)) = some (l.map f) := by
  induction l with
  | nil => rfl
  | cons n r ih => show (bools? (r.map _)).map (f n :: ·) = _; rw [ih]; rfl
@[simp] theorem ints?_mapf {α : Type} {l : List α} {f : α → Int} : ints? (l.map fun x => .int (f x)) = some (l.map f) := by
  induction l with
  | nil => rfl
  | cons n r ih => show (ints? (r.map _)).map (f n :: ·) = _; rw [ih]; rfl
@[simp] theorem seq?_l {ds : List PyData} : seq? (.list ds) = some ds := rfl
@[simp] theorem seq?_t {ds : List PyData} : seq? (.tuple ds) = some ds := rfl
theorem inI_eq {neg : Bool} (h : (seq? y).bind ints? = some ns) : inI neg (.int m) y = some (.bool (if neg then !decide (m ∈ ns) else decide (m ∈ ns))) := by
  show (((seq? y).bind ints?).map _) = _
  rw [h]; rfl
@[simp] theorem inI_t : inI false (.int m) (.tuple (ns.map .int)) = some (.bool (decide (m ∈ ns))) := inI_eq (by simp)
@[simp] theorem inI_l : inI false (.int m) (.list (ns.map .int)) = some (.bool (decide (m ∈ ns))) := inI_eq (by simp)
@[simp] theorem nin_t : inI true (.int m) (.tuple (ns.map .int)) = some (.bool (!decide (m ∈ ns))) := inI_eq (by simp)
@[simp] theorem nin_l : inI true (.int m) (.list (ns.map .int)) = some (.bool (!decide (m ∈ ns))) := inI_eq (by simp)
@[simp] theorem ixT_ap {ds : List PyData} : ixT (.tuple ds) (.int m) = atI ds m := rfl
@[simp] theorem ixL_ap {ds : List PyData} : ixL (.list ds) (.int m) = atI ds m := rfl
@[simp] theorem at_0 {ds : List PyData} : atI (d :: ds) 0 = some d := by
  unfold atI ixN
  rw [if_pos (Int.le_refl 0), if_pos (by simp)]
  rfl
@[simp] theorem at_1 {ds : List PyData} : atI (x :: y :: ds) 1 = some y := by
  unfold atI ixN
  rw [if_pos (by decide), if_pos (by simp; omega)]
  rfl
@[simp] theorem at_2 {z : PyData} {ds : List PyData} : atI (x :: y :: z :: ds) 2 = some z := by
  unfold atI ixN
  rw [if_pos (by decide), if_pos (by simp; omega)]
  rfl
theorem at_nat {ds : List PyData} {n : Nat} (h : ds[n]? = some d) : atI ds (n : Int) = some d := by
  have hl := (List.getElem?_eq_some_iff.mp h).1
  unfold atI ixN
  rw [if_pos (by omega), if_pos (by omega)]
  exact h
theorem at_int {ds : List PyData} {m : Int} (h0 : 0 ≤ m) (h : ds[m.toNat]? = some d) : atI ds m = some d := by
  have := at_nat h
  rwa [Int.toNat_of_nonneg h0] at this
theorem at_last {ds : List PyData} (h : ds ≠ []) : atI ds (-1) = ds.getLast? := by
  unfold atI ixN
  have : 0 < ds.length := List.length_pos_iff.mpr h
  rw [if_neg (by decide), if_pos (by omega), List.getLast?_eq_getElem?]
  show ds[(-1 + (ds.length : Int)).toNat]? = _
  congr 1
  omega
@[simp] theorem fLen_l {ds : List PyData} : fLen [.list ds] = some (.int (ds.length : Nat)) := rfl
@[simp] theorem fLen_t {ds : List PyData} : fLen [.tuple ds] = some (.int (ds.length : Nat)) := rfl
@[simp] theorem fAll_l {ds : List PyData} : fAll [.list ds] = (bools? ds).map fun bs => .bool (bs.all id) := rfl
@[simp] theorem fAny_l {ds : List PyData} : fAny [.list ds] = (bools? ds).map fun bs => .bool (bs.any id) := rfl
@[simp] theorem fSum_l {ds : List PyData} : fSum [.list ds] = (ints? ds).map fun ns => .int ns.sum := rfl
@[simp] theorem fMax2_ap : fMax2 [.int m, .int n] = some (.int (max m n)) := rfl
@[simp] theorem fMin2_ap : fMin2 [.int m, .int n] = some (.int (min m n)) := rfl
@[simp] theorem fList_ap : fList [x] = seq? x := rfl
@[simp] theorem fTuple_ap : fTuple [x] = (seq? x).map .tuple := rfl
theorem fMax_ap (h : ns ≠ []) : fMax [.list (ns.map .int)] = some (.int (maxL ns)) := by
  show (ints? (ns.map .int)).bind _ = _
  rw [ints?_map]
  exact if_neg h
theorem fMin_ap (h : ns ≠ []) : fMin [.list (ns.map .int)] = some (.int (minL ns)) := by
  show (ints? (ns.map .int)).bind _ = _
  rw [ints?_map]
  exact if_neg h
theorem rg?_ap (h1 : -1000000 ≤ m) (h2 : m ≤ 1000000) (h3 : -1000000 ≤ n) (h4 : n ≤ 1000000) (h5 : n - m ≤ 4096) : rg? m n = some ((rng m n).map .int) := by
  have : rgOk m n = true := by
    simp only [rgOk, Bool.and_eq_true, decide_eq_true_eq]
    omega
  simp [rg?, this]
theorem fRg1_ap (h1 : -1000000 ≤ n) (h2 : n ≤ 4096) : fRg1 [.int n] = some ((rng 0 n).map .int) := if_pos ⟨by omega, h2⟩
@[simp] theorem fRg2_ap : fRg2 [.int m, .int n] = rg? m n := rfl
@[simp] theorem fEnum_ap {ds : List PyData} : fEnum [.list ds] = some (enumP ds) := rfl
@[simp] theorem fEnumT_ap {ds : List PyData} : fEnumT [.tuple ds] = some (enumP ds) := rfl
@[simp] theorem fZip_ap {ds es : List PyData} : fZip [.list ds, .list es] = some (zipP ds es) := rfl
@[simp] theorem fZipT_ap {ds es : List PyData} : fZipT [.tuple ds, .tuple es] = some (zipP ds es) := rfl
theorem eqD_ap {n1 n2 : Nat} {v : Bool} (hx : sh n1 x) (hy : sh n2 y) (h1 : n1 ≤ 64) (h2 : n2 ≤ 64) (hv : PyData.eqv x y = v) : eqD x y = some (.bool v) := by
  unfold eqD
  rw [hx.shaped h1, hy.shaped h2, hv]; rfl
theorem neD_ap {n1 n2 : Nat} {v : Bool} (hx : sh n1 x) (hy : sh n2 y) (h1 : n1 ≤ 64) (h2 : n2 ≤ 64) (hv : PyData.eqv x y = v) : neD x y = some (.bool (!v)) := by
  unfold neD
  rw [hx.shaped h1, hy.shaped h2, hv]; rfl
@[simp] theorem eqD_int : eqD (.int m) (.int n) = some (.bool (decide (m = n))) := eqD_ap (n1 := 0) (n2 := 0) sh_int sh_int (by decide) (by decide) (eqv_int m n)
@[simp] theorem neD_int : neD (.int m) (.int n) = some (.bool (!decide (m = n))) := neD_ap (n1 := 0) (n2 := 0) sh_int sh_int (by decide) (by decide) (eqv_int m n)
@[simp] theorem eqD_l : eqD (.list (ns.map .int)) (.list (ms.map .int)) = some (.bool (decide (ns = ms))) := eqD_ap sh_lI sh_lI (by decide) (by decide) (eqv_lst eqv_int ns ms)
@[simp] theorem neD_l : neD (.list (ns.map .int)) (.list (ms.map .int)) = some (.bool (!decide (ns = ms))) := neD_ap sh_lI sh_lI (by decide) (by decide) (eqv_lst eqv_int ns ms)
@[simp] theorem eqD_l0 : eqD (.list (ns.map .int)) (.list []) = some (.bool (decide (ns = []))) := eqD_l (ms := [])
@[simp] theorem neD_l0 : neD (.list (ns.map .int)) (.list []) = some (.bool (!decide (ns = []))) := neD_l (ms := [])
@[simp] theorem eqD_nil : eqD (.list []) (.list []) = some (.bool true) := eqD_l (ns := []) (ms := [])
@[simp] theorem neD_nil : neD (.list []) (.list []) = some (.bool false) := neD_l (ns := []) (ms := [])
@[simp] theorem eqD_t : eqD (.tuple (ns.map .int)) (.tuple (ms.map .int)) = some (.bool (decide (ns = ms))) := eqD_ap sh_tI sh_tI (by decide) (by decide) (eqv_tup eqv_int ns ms)
end
/-! isinstance, slices, ranges -/
@[simp] theorem mIsi_ap {f : PyData → Bool} : mIsi f a g = (a g).bind fun p => .ok (p.1, .bool (f p.2)) := rfl
@[simp] theorem mNoPart_ap : mNoPart g = .ok (g, none) := rfl
@[simp] theorem mPart_ap : mPart a g = (a g).bind fun p => (R.of (int? p.2)).bind fun n => .ok (p.1, some n) := rfl
@[simp] theorem mSl_ap {kk : PyData → Option (List PyData)} {lo hi : Mo} : mSl kk a lo hi g = (a g).bind fun p => (R.of (kk p.2)).bind fun ds => (lo p.1).bind fun q => (hi q.1).bind fun u => .ok (u.1, cutD ds q.2 u.2) := rfl
@[simp] theorem mSlT_ap {lo hi : Mo} : mSlT a lo hi g = (mSl tup? a lo hi g).bind fun p => .ok (p.1, .tuple p.2) := rfl
@[simp] theorem mSlL_ap {lo hi : Mo} : mSlL a lo hi g = (mSl lst? a lo hi g).bind fun p => .ok (p.1, .ls 0 p.2) := rfl
@[simp] theorem mRevL_ap : mRevL a g = (a g).bind fun p => (R.of (lst? p.2)).bind fun ds => .ok (p.1, .ls 0 ds.reverse) := rfl
@[simp] theorem mRg1_ap : mRg1 a g = (a g).bind fun p => (R.of (int? p.2)).bind fun n => .ok (p.1, 0, n) := rfl
@[simp] theorem mRg2_ap : mRg2 a b g = (a g).bind fun p => (R.of (int? p.2)).bind fun n => (b p.1).bind fun q => (R.of (int? q.2)).bind fun m => .ok (q.1, n, m) := rfl
@[simp] theorem mLstRg_ap {r : Mr} : mLstRg r g = (r g).bind fun p => (R.of (rg? p.2.1 p.2.2)).bind fun ds => .ok (p.1, .ls 0 ds) := rfl
@[simp] theorem mTupRg_ap {r : Mr} : mTupRg r g = (r g).bind fun p => (R.of (rg? p.2.1 p.2.2)).bind fun ds => .ok (p.1, .tuple ds) := rfl
@[simp] theorem mSset_ap : mSset a g = (a g).bind fun p => (R.of (sset? p.2)).bind fun ds => .ok (p.1, .ls 0 ds) := rfl
@[simp] theorem mI1_ap {h : PyData → Option (List PyData)} : mI1 h a g = (a g).bind fun p => (R.of (h p.2)).bind fun ds => .ok (p.1, ds) := rfl
@[simp] theorem mIA_ap {h : List PyData → Option (List PyData)} : mIA h es g = (es g).bind fun p => (R.of (h p.2)).bind fun ds => .ok (p.1, ds) := rfl
@[simp] theorem gN_ap : gN j d g = some (g.set j (.da d)) := rfl
@[simp] theorem g2_ap : g2 i j (.tuple [x, y]) g = some ((g.set i (.da x)).set j (.da y)) := rfl
@[simp] theorem g3_ap {z : PyData} : g3 i j k (.tuple [x, y, z]) g = some (((g.set i (.da x)).set j (.da y)).set k (.da z)) := rfl
/-! own lists -/
@[simp] theorem frzE_nil : frzE [] = [] := rfl
@[simp] theorem frzE_cons {s : SD} : frzE (s :: g) = s.frz :: frzE g := rfl
@[simp] theorem frz_da : (SD.da d).frz = .da d := rfl
@[simp] theorem frz_no : SD.no.frz = .no := rfl
@[simp] theorem frz_ls {ds : List PyData} : (SD.ls k ds).frz = .da (.list ds) := rfl
@[simp] theorem frz_ll {dss : List (List PyData)} : (SD.ll dss).frz = .da (.list (dss.map .list)) := rfl
@[simp] theorem frz_ow {n : Nat} : (SD.ow k n d).frz = .no := rfl
@[simp] theorem mBor_ap : mBor ev g = (match ev (frzE g) with | .ok (_, .da d) => (match noL d with | true => .ok (g, .da d) | false => .bad) | .ok (_, .ls 0 ds) => (match noLs ds with | true => .ok (g, .ls 0 ds) | false => .bad) | _ => .bad) := rfl
@[simp] theorem mBorT_ap : mBorT t g = (match t (frzE g) with | .ok (_, b) => .ok (g, b) | _ => .bad) := rfl
@[simp] theorem noL_int {n : Int} : noL (.int n) = true := rfl
@[simp] theorem noL_bool {z : Bool} : noL (.bool z) = true := rfl
@[simp] theorem noL_none : noL .none = true := rfl
@[simp] theorem noL_tup {ds : List PyData} : noL (.tuple ds) = noLs ds := rfl
@[simp] theorem noLs_nil : noLs [] = true := rfl
@[simp] theorem noLs_cons {ds : List PyData} : noLs (d :: ds) = (noL d && noLs ds) := rfl
theorem noLs_map {α : Type} {f : α → PyData} (h : ∀ x, noL (f x) = true) : ∀ l : List α, noLs (l.map f) = true
  | [] => rfl
  | x :: r => by rw [List.map_cons, noLs_cons, h x, noLs_map h r]; rfl
@[simp] theorem noLs_ints {ns : List Int} : noLs (ns.map .int) = true := noLs_map (fun _ => rfl) ns
@[simp] theorem noLs_rows {nss : List (List Int)} : noLs (nss.map fun ns => .tuple (ns.map .int)) = true := noLs_map (fun _ => by simp) nss
theorem own_eqA {t : Nat} {ds : List PyData} (h : g[i]? = some (.ls t ds)) : ownAt g i = some (t, ds) := by unfold ownAt; rw [h]; rfl
@[simp] theorem ownAt_z {t : Nat} {ds : List PyData} : ownAt (.ls t ds :: g) 0 = some (t, ds) := rfl
@[simp] theorem ownAt_s {s : SD} : ownAt (s :: g) (i + 1) = ownAt g i := by unfold ownAt; simp
@[simp] theorem mApp_ap : mApp i a g = (R.of (ownAt g i)).bind fun _ => (a g).bind fun p => (R.of (ownAt p.1 i)).bind fun ds => (R.of (few (ds.2 ++ [p.2]))).bind fun z => .ok (p.1.set i (.ls ds.1 z), .none) := rfl
@[simp] theorem mPop_ap : mPop i g = (R.of (ownAt g i)).bind fun ds => (R.of ds.2.getLast?).bind fun d => .ok (g.set i (.ls ds.1 ds.2.dropLast), d) := rfl
@[simp] theorem plainAt_nil : plainAt g [] = true := rfl
@[simp] theorem plainAt_cons {vs : List Nat} : plainAt g (i :: vs) = ((match g[i]? with | some s => s.plain | none => true) && plainAt g vs) := rfl
@[simp] theorem plain_no : SD.no.plain = true := rfl
@[simp] theorem plain_da : (SD.da d).plain = true := rfl
@[simp] theorem mNils_ap {it : Mi} : mNils it j g = (it g).bind fun p => match plainAt p.1 [j] with | true => .ok (p.1, .ll (List.replicate p.2.length [])) | false => .bad := rfl
@[simp] theorem llAt_z {dss : List (List PyData)} : llAt (.ll dss :: g) 0 = some dss := rfl
@[simp] theorem llAt_s {s : SD} : llAt (s :: g) (i + 1) = llAt g i := by unfold llAt; simp
theorem llAt_eq {dss : List (List PyData)} (h : g[i]? = some (.ll dss)) : llAt g i = some dss := by unfold llAt; rw [h]; rfl
@[simp] theorem mAppLL_ap : mAppLL i a b g = (R.of (llAt g i)).bind fun dss => (a (frzE g)).noE.bind fun p => (R.of (int? p.2)).bind fun n => (b p.1).noE.bind fun q => (R.of (appAt dss n q.2)).bind fun z => .ok (g.set i (.ll z), .none) := rfl
@[simp] theorem mRep_ap : mRep ev b g = (ev g).bind fun p => (R.of p.2.ls?).bind fun c => (b p.1).bind fun q => (R.of (int? q.2)).bind fun n => (R.of (rep? c.2 n)).bind fun z => .ok (q.1, .ls 0 z) := rfl
@[simp] theorem ls?_ls {t : Nat} {ds : List PyData} : (SD.ls t ds).ls? = some (t, ds) := rfl
theorem rep?_1 {n : Int} (h0 : 0 ≤ n) (h : n ≤ 4000) : rep? [x] n = some (List.replicate n.toNat x) := by
  unfold rep?
  rw [if_pos ⟨by omega, by omega, by simp [wee]; omega⟩]
  congr 1
  induction n.toNat with
  | zero => rfl
  | succ n ih => rw [List.replicate_succ, List.replicate_succ, List.flatten_cons, ih]; rfl
/-! dicts of ints -/
@[simp] theorem mDGet_ap : mDGet i a g = (R.of (diAt g i)).bind fun _ => (a g).bind fun p => (R.of (int? p.2)).bind fun k => (R.of (diAt p.1 i)).bind fun l => (R.of (vI l.2 k)).bind fun v => .ok (p.1, .int v) := rfl
@[simp] theorem mDAug_ap : mDAug i a b g = (R.of (diAt g i)).bind fun _ => (a g).bind fun p => (R.of (int? p.2)).bind fun k => (R.of (diAt p.1 i)).bind fun l => (R.of (vI l.2 k)).bind fun x => (b p.1).bind fun q => (R.of (int? q.2)).bind fun y => (R.of (diAt q.1 i)).bind fun m => (R.of (fewI (pI m.2 k (x + y)))).bind fun z => .ok (.nx (q.1.set i (.ow m.1 0 (mkI z)))) := rfl
theorem di_mkR (l : List (Int × Int)) : di? (mkI l) = some l := by
  show diL (l.map eKD) = some l
  induction l with
  | nil => rfl
  | cons z r ih =>
    show (diL (r.map eKD)).map ((z.1, z.2) :: ·) = _
    rw [ih]; rfl
@[simp] theorem diAt_z {t : Nat} {l : List (Int × Int)} : diAt (.ow t 0 (mkI l) :: g) 0 = some (t, l) := by
  show (di? (mkI l)).map _ = _
  rw [di_mkR]; rfl
@[simp] theorem diAt_s {s : SD} : diAt (s :: g) (i + 1) = diAt g i := by unfold diAt; simp
@[simp] theorem mCatO_ap : mCatO i a g = (R.of (ownAt g i)).bind fun _ => (a g).bind fun p => (R.of (lst? p.2)).bind fun es => (R.of (ownAt p.1 i)).bind fun c => (R.of (few (c.2 ++ es))).bind fun z => .ok (p.1, .ls 0 z) := rfl
/-! statements -/
@[simp] theorem mNext_ap : mNext g = .ok (.nx g) := rfl
@[simp] theorem mBreak_ap : mBreak g = .ok (.bk g) := rfl
@[simp] theorem mCont_ap : mCont g = .ok (.ct g) := rfl
@[simp] theorem fNext_nx : fNext p (.nx g) = p g := rfl
@[simp] theorem fNext_rt {s : SD} : fNext p (.rt g s) = .ok (.rt g s) := rfl
@[simp] theorem fNext_bk : fNext p (.bk g) = .ok (.bk g) := rfl
@[simp] theorem fNext_ct : fNext p (.ct g) = .ok (.ct g) := rfl
@[simp] theorem mSeq_ap : mSeq p q g = (p g).bind (fNext q) := rfl
@[simp] theorem mSet_ap : mSet i ev g = (ev g).bind fun p => .ok (.nx (p.1.set i p.2)) := rfl
@[simp] theorem mAsg_ap {tg : Mg} : mAsg tg a g = (a g).bind fun p => (R.of (tg p.2 p.1)).bind fun g' => .ok (.nx g') := rfl
@[simp] theorem mRet_ap : mRet ev g = (ev g).bind fun p => .ok (.rt p.1 p.2) := rfl
@[simp] theorem mRetN_ap : mRetN g = .ok (.rt g (.da .none)) := rfl
@[simp] theorem mDrop_ap : mDrop ev g = (ev g).bind fun p => .ok (.nx p.1) := rfl
@[simp] theorem mIfS_ap : mIfS t p q g = (t g).bind fun r => match r.2 with | true => p r.1 | false => q r.1 := rfl
@[simp] theorem mRaise_ap {c : Str} : mRaise c g = .err c := rfl
@[simp] theorem mAug_ap {h : Int → Int → Int} : mAug i h a g = (R.of ((g[i]?).bind fun s => match s with | .da (.int a) => some a | _ => none)).bind fun x => (a g).bind fun p => (R.of (int? p.2)).bind fun b => .ok (.nx (p.1.set i (.da (.int (h x b))))) := rfl
@[simp] theorem mFor_ap {it : Mi} {tg : Mg} : mFor it tg p g = (it g).bind fun r => forL tg p r.2 r.1 := rfl
@[simp] theorem mWhile_ap {n : Nat} : mWhile n t p g = whL t p n g := rfl
@[simp] theorem wNil_ap : wNil g = .ok (g, []) := rfl
@[simp] theorem wCons_ap {ws : Mw} : wCons ev ws g = (ev g).bind fun p => (ws p.1).bind fun q => .ok (q.1, p.2 :: q.2) := rfl
@[simp] theorem mPar_ap {ws : Mw} : mPar i j ws g = (ws g).bind fun p => match p.2 with | [a, b] => .ok (.nx ((p.1.set i a).set j b)) | _ => .bad := rfl
@[simp] theorem mPar3_ap {ws : Mw} : mPar3 i j k ws g = (ws g).bind fun p => match p.2 with | [a, b, c] => .ok (.nx (((p.1.set i a).set j b).set k c)) | _ => .bad := rfl
@[simp] theorem mFrz_ap : mFrz i p g = p (match g[i]? with | some s => g.set i s.frz | none => g) := rfl
@[simp] theorem mSetI_ap : mSetI i a b g = (a g).bind fun p => (R.of (ownAt p.1 i)).bind fun _ => (b p.1).bind fun q => (R.of (int? q.2)).bind fun k => (R.of (ownAt q.1 i)).bind fun ds => (R.of (ixN ds.2.length k)).bind fun n => .ok (.nx (q.1.set i (.ls ds.1 (ds.2.set n p.2)))) := rfl
/-! calls -/
@[simp] theorem mCall_ap : mCall M es g = (es g).bind fun p => (M p.2).bind fun d => .ok (p.1, resS d) := rfl
@[simp] theorem mCallN_ap : mCallN M es g = (es g).bind fun p => (M p.2).noE.bind fun d => .ok (p.1, resS d) := rfl
@[simp] theorem mCallO_ap {N : List PyData → List PyData → R (List PyData × PyData)} : mCallO N i es g = (R.of (ownAt g i)).bind fun _ => (es g).bind fun p => (R.of (ownAt p.1 i)).bind fun c => (N c.2 p.2).noE.bind fun r => .ok (p.1.set i (.ls c.1 r.1), resS r.2) := rfl
@[simp] theorem resS_int {n : Int} : resS (.int n) = .da (.int n) := rfl
@[simp] theorem resS_bool {z : Bool} : resS (.bool z) = .da (.bool z) := rfl
@[simp] theorem resS_tup {ds : List PyData} : resS (.tuple ds) = .da (.tuple ds) := rfl
@[simp] theorem resS_none : resS .none = .da .none := rfl
@[simp] theorem resS_str {z : Str} : resS (.str z) = .da (.str z) := rfl
@[simp] theorem resS_lst {ds : List PyData} : resS (.list ds) = .ls 0 ds := rfl
@[simp] theorem res_int {n : Int} : (SD.da (.int n)).res = some (.int n) := rfl
@[simp] theorem res_bool {z : Bool} : (SD.da (.bool z)).res = some (.bool z) := rfl
@[simp] theorem res_tup {ds : List PyData} : (SD.da (.tuple ds)).res = some (.tuple ds) := rfl
@[simp] theorem res_none : (SD.da .none).res = some .none := rfl
@[simp] theorem res_ls {ds : List PyData} : (SD.ls k ds).res = some (.list ds) := rfl
@[simp] theorem endD_nx : endD (.nx g) = .ok .none := rfl
@[simp] theorem endD_rt {s : SD} : endD (.rt g s) = R.of s.res := rfl
end
@[simp] theorem ixT_ch0 {s b v : Int} : ixT (chD s b v) (.int 0) = some (.int s) := by unfold chD; simp
@[simp] theorem ixT_ch1 {s b v : Int} : ixT (chD s b v) (.int 1) = some (.int b) := by unfold chD; simp
@[simp] theorem ixT_ch2 {s b v : Int} : ixT (chD s b v) (.int 2) = some (.int v) := by unfold chD; simp
@[simp] theorem ixT_pc0 {c : Int} {al : List Int} : ixT (pcD c al) (.int 0) = some (.int c) := by unfold pcD; simp
@[simp] theorem ixT_pc1 {c : Int} {al : List Int} : ixT (pcD c al) (.int 1) = some (.tuple (al.map .int)) := by unfold pcD tI; simp
@[simp] theorem resS_pc {c : Int} {al : List Int} : resS (pcD c al) = .da (pcD c al) := rfl
@[simp] theorem resS_ch {s b v : Int} : resS (chD s b v) = .da (chD s b v) := rfl
@[simp] theorem resS_lI {ns : List Int} : resS (lI ns) = .ls 0 (ns.map .int) := rfl
@[simp] theorem g3_ch {i j k : Nat} {s b v : Int} {g : En} : g3 i j k (chD s b v) g = some (((g.set i (.da (.int s))).set j (.da (.int b))).set k (.da (.int v))) := rfl
@[simp] theorem g2_pc {i j : Nat} {c : Int} {al : List Int} {g : En} : g2 i j (pcD c al) g = some ((g.set i (.da (.int c))).set j (.da (.tuple (al.map .int)))) := rfl
/-- a def with n slots, its arguments -/
theorem runD_eq {n np : Nat} {b : Bo} {ds : List PyData} (hl : Nat.beq ds.length np = true) : runD n np b ds = (b (ds.map .da ++ List.replicate (n - ds.length) .no)).bind endD := by
  unfold runD
  rw [hl]
theorem filter_yes {α : Type} (l : List α) : l.filter (fun _ => true) = l := List.filter_eq_self.mpr fun _ _ => rfl
@[simp] theorem wipeE_nil {g : En} : wipeE g [] = g := rfl
@[simp] theorem wipeE_cons {g : En} {v : Nat} {vs : List Nat} : wipeE g (v :: vs) = (wipeE g vs).set v .no := rfl
/-! ### comprehensions -/
section
variable {it : Mi} {tg : Mg} {t : Mt} {e : Md} {vs : List Nat} {g : En} {α : Type}
theorem lcL_at {c : α → PyData} {b : α → Bool} {f : α → PyData} (hp : plainAt g vs = true) : ∀ {xs : List α}, (∀ x ∈ xs, ∃ g2, tg (c x) (wipeE g vs) = some g2 ∧ backE g g2 vs = g ∧ t g2 = .ok (g2, b x) ∧ (b x = true → e g2 = .ok (g2, f x))) →
    lcL tg t e vs (xs.map c) g = .ok (g, (xs.filter b).map f)
  | [], _ => rfl
  | x :: r, h => by
    obtain ⟨g2, h1, h2, h3, h4⟩ := h x List.mem_cons_self
    have ih := lcL_at hp (xs := r) fun y hy => h y (List.mem_cons_of_mem _ hy)
    rw [List.map_cons, lcL, hp]
    simp only [h1, R.of_some, R.ok_bind, h3, R.noE_ok]
    cases hb : b x with
    | false =>
      rw [List.filter_cons_of_neg (by rw [hb]; exact Bool.false_ne_true)]
      simp only [h2]
      exact ih
    | true =>
      rw [List.filter_cons_of_pos hb, List.map_cons]
      simp only [h4 hb, R.noE_ok, R.ok_bind, h2, ih]
/-- a comprehension, read: over xs (told as data by c), those with b, as f says -/
theorem lc_at (c : α → PyData) (xs : List α) (b : α → Bool) (f : α → PyData) (hi : it g = .ok (g, xs.map c)) (hp : plainAt g vs = true)
    (h : ∀ x ∈ xs, ∃ g2, tg (c x) (wipeE g vs) = some g2 ∧ backE g g2 vs = g ∧ t g2 = .ok (g2, b x) ∧ (b x = true → e g2 = .ok (g2, f x))) :
    mLc it tg t e vs g = .ok (g, .ls 0 ((xs.filter b).map f)) := by
  unfold mLc
  rw [hi]
  simp only [R.ok_bind, lcL_at hp h, R.noE_ok]
end
/-- .. of all -/
theorem lc_all {it : Mi} {tg : Mg} {e : Md} {vs : List Nat} {g : En} {α : Type} (c : α → PyData) (xs : List α) (f : α → PyData) (hi : it g = .ok (g, xs.map c)) (hp : plainAt g vs = true)
    (h : ∀ x ∈ xs, ∃ g2, tg (c x) (wipeE g vs) = some g2 ∧ backE g g2 vs = g ∧ e g2 = .ok (g2, f x)) :
    mLc it tg mYes e vs g = .ok (g, .ls 0 (xs.map f)) := by
  have := lc_at (t := mYes) c xs (fun _ => true) f hi hp fun x hx => by
    obtain ⟨g2, h1, h2, h3⟩ := h x hx
    exact ⟨g2, h1, h2, rfl, fun _ => h3⟩
  rwa [filter_yes] at this
/-! ### loops -/
section
variable {tg : Mg} {bo : Bo} {α σ : Type}
/-- a loop that always goes on: the state st of the environment E st, I k what holds behind k turns -/
theorem forL_at (c : α → PyData) (E : σ → En) (stp : σ → α → σ) (I : Nat → σ → Prop) : ∀ (xs : List α) (k : Nat) (s : σ), I k s → (∀ i x, xs[i]? = some x → ∀ s, I (k + i) s → I (k + i + 1) (stp s x) ∧ ∃ g1, tg (c x) (E s) = some g1 ∧ (bo g1 = .ok (.nx (E (stp s x))) ∨ bo g1 = .ok (.ct (E (stp s x))))) →
    forL tg bo (xs.map c) (E s) = .ok (.nx (E (xs.foldl stp s))) ∧ I (k + xs.length) (xs.foldl stp s)
  | [], k, s, hs, _ => ⟨rfl, hs⟩
  | x :: r, k, s, hs, h => by
    obtain ⟨h1, g1, h2, h3⟩ := h 0 x rfl s hs
    have ih := forL_at c E stp I r (k + 1) (stp s x) h1 fun i y hy s' hs' => by
      have := h (i + 1) y hy s' (by rw [show k + (i + 1) = k + 1 + i by omega]; exact hs')
      rw [show k + (i + 1) = k + 1 + i by omega] at this
      exact this
    rw [List.map_cons, forL, h2, List.foldl_cons, List.length_cons, show k + (r.length + 1) = k + 1 + r.length by omega]
    refine ⟨?_, ih.2⟩
    rw [← ih.1]
    rcases h3 with h3 | h3 <;> simp only [R.of_some, R.ok_bind, h3]
/-- .. where the turns tell what comes next -/
theorem forL_ex (c : α → PyData) (E : σ → En) (I : Nat → σ → Prop) : ∀ (xs : List α) (k : Nat) (s : σ), I k s → (∀ i x, xs[i]? = some x → ∀ s, I (k + i) s → ∃ s', I (k + i + 1) s' ∧ ∃ g1, tg (c x) (E s) = some g1 ∧ (bo g1 = .ok (.nx (E s')) ∨ bo g1 = .ok (.ct (E s')))) →
    ∃ s', forL tg bo (xs.map c) (E s) = .ok (.nx (E s')) ∧ I (k + xs.length) s'
  | [], k, s, hs, _ => ⟨s, rfl, hs⟩
  | x :: r, k, s, hs, h => by
    obtain ⟨s1, h1, g1, h2, h3⟩ := h 0 x rfl s hs
    obtain ⟨s', ih⟩ := forL_ex c E I r (k + 1) s1 h1 fun i y hy s' hs' => by
      have := h (i + 1) y hy s' (by rw [show k + (i + 1) = k + 1 + i by omega]; exact hs')
      rw [show k + (i + 1) = k + 1 + i by omega] at this
      exact this
    refine ⟨s', ?_, by rw [List.length_cons, show k + (r.length + 1) = k + 1 + r.length by omega]; exact ih.2⟩
    rw [List.map_cons, forL, h2, ← ih.1]
    rcases h3 with h3 | h3 <;> simp only [R.of_some, R.ok_bind, h3]
end
/-- a comprehension whose test or item changes own things -/
theorem lcL_st {tg : Mg} {t : Mt} {e : Md} {vs : List Nat} {α σ : Type} (c f : α → PyData) (E : σ → En) (I : Nat → σ → Prop) : ∀ (xs : List α) (k : Nat) (s : σ), I k s →
    (∀ i x, xs[i]? = some x → ∀ s, I (k + i) s → plainAt (E s) vs = true ∧ ∃ s', I (k + i + 1) s' ∧ ∃ g1 g2 b, tg (c x) (wipeE (E s) vs) = some g1 ∧ t g1 = .ok (g2, b) ∧ ((b = false ∧ backE (E s) g2 vs = E s') ∨ (b = true ∧ ∃ g3, e g2 = .ok (g3, f x) ∧ backE (E s) g3 vs = E s'))) →
    ∃ (s' : σ) (ys : List α), lcL tg t e vs (xs.map c) (E s) = .ok (E s', ys.map f) ∧ ys.Sublist xs ∧ I (k + xs.length) s'
  | [], k, s, hs, _ => ⟨s, [], rfl, .slnil, hs⟩
  | x :: r, k, s, hs, h => by
    obtain ⟨hp, s1, h1, g1, g2, b, h2, h3, h4⟩ := h 0 x rfl s hs
    obtain ⟨s', ys, i1, i2, i3⟩ := lcL_st c f E I r (k + 1) s1 h1 fun i y hy s' hs' => by
      have := h (i + 1) y hy s' (by rw [show k + (i + 1) = k + 1 + i by omega]; exact hs')
      rw [show k + (i + 1) = k + 1 + i by omega] at this
      exact this
    have e3 : k + (x :: r).length = k + 1 + r.length := by rw [List.length_cons]; omega
    rcases h4 with ⟨rfl, h4⟩ | ⟨rfl, g3, h4, h5⟩
    · refine ⟨s', ys, ?_, i2.cons _, by rw [e3]; exact i3⟩
      rw [List.map_cons, lcL, hp]
      simp only [h2, R.of_some, R.ok_bind, h3, R.noE_ok, h4]
      exact i1
    · refine ⟨s', x :: ys, ?_, i2.cons₂ _, by rw [e3]; exact i3⟩
      rw [List.map_cons, lcL, hp]
      simp only [h2, R.of_some, R.ok_bind, h3, R.noE_ok, h4, h5, i1, List.map_cons]
end AL
/-! RDa: the checks of valid pieces and choirs, read. -/
namespace RD
open PySem TL AL Q
theorem is_from {x lo hi : Int} : M.is_from [.int x, .int lo, .int hi] = .ok (.bool (okI lo hi x)) := by
  unfold M.is_from M.b_is_from
  rw [runD_eq rfl]
  by_cases h : lo ≤ x <;> simp [mVar_eq, isInt, isBool, okI, h]
theorem okI_true {lo hi x : Int} (h : lo ≤ x) (h2 : x ≤ hi) : okI lo hi x = true := by simp [okI, h, h2]
theorem zip_asc {ns : List Int} (h : ns.Pairwise (· < ·)) : ∀ z ∈ ns.zip (ns.drop 1), z.1 < z.2 := by
  intro z hz
  have := ascI_iff.mpr h
  unfold ascI at this
  have := List.all_eq_true.mp this z hz
  simpa using this
theorem cutD_from {ds : List PyData} {n : Nat} : cutD ds (some (n : Int)) none = ds.drop n := by
  unfold cutD
  rw [show HT.sIx ds.length 0 (some (n : Int)) = min n ds.length from HT.sIx_nat _ _ _, show HT.sIx ds.length ds.length none = ds.length from rfl]
  by_cases h : n ≤ ds.length
  · rw [Nat.min_eq_left h, List.take_of_length_le (by rw [List.length_drop]; exact Nat.le_refl _)]
  · have h1 : ds.length ≤ n := by omega
    rw [Nat.min_eq_right h1, List.drop_length, List.drop_eq_nil_of_le h1]; simp
theorem good_beats {c : Int} {ns : List Int} (h : ns.Pairwise (· < ·)) (lo : ∀ x ∈ ns, 0 ≤ x) (hi : ∀ x ∈ ns, x < c) : M.good_beats [.int c, .tuple (ns.map .int)] = .ok (.bool true) := by
  unfold M.good_beats M.b_good_beats
  rw [runD_eq rfl]
  simp [mVar_eq, isTup]
  rw [lc_all PyData.int ns (fun x => .bool (okI 0 (c - 1) x))]
  · have h : ns.all (fun x => okI 0 (c - 1) x) = true := List.all_eq_true.mpr fun x hx => okI_true (lo x hx) (by have := hi x hx; omega)
    simp [h]
    rw [lc_all (fun z : Int × Int => PyData.tuple [.int z.1, .int z.2]) (ns.zip (ns.drop 1)) (fun z => .bool (decide (z.1 < z.2)))]
    · have : (ns.zip (ns.drop 1)).all (fun z => decide (z.1 < z.2)) = true := List.all_eq_true.mpr fun z hz => by simpa using zip_asc (by assumption) z hz
      have this : ((ns.zip ns.tail).map (fun z => decide (z.1 < z.2))).all id = true := by rw [List.all_map]; simpa using this
      simp [this]
    · have e := cutD_from (ds := ns.map PyData.int) (n := 1)
      have e2 : cutD (ns.map PyData.int) (some 1) none = (ns.drop 1).map PyData.int := by rw [List.map_drop]; exact e
      simp [mVar_eq]
      rw [e2]
      simp [zipP, List.zip, List.map_zipWith, ← List.map_tail, List.zipWith_map]
    · rfl
    · intro z _
      refine ⟨_, rfl, rfl, ?_⟩
      simp [mVar_eq]
  · simp [mVar_eq]
  · rfl
  · intro x _
    refine ⟨_, rfl, rfl, ?_⟩
    simp [mVar_eq, is_from]
theorem is_piece {c : Int} {al : List Int} (h : ValidP c al) : M.is_piece [pcD c al] = .ok (.bool true) := by
  unfold M.is_piece M.b_is_piece pcD tI
  rw [runD_eq rfl]
  have h1 : okI 1 60 c = true := okI_true h.c1 h.c2
  simp [mVar_eq, isTup, is_from, h1, good_beats h.asc h.lo h.hi]
theorem is_choir {s b v : Int} (h : ValidC s b v) : M.is_choir [chD s b v] = .ok (.bool true) := by
  unfold M.is_choir M.b_is_choir chD
  rw [runD_eq rfl]
  have h1 : okI 1 30 s = true := okI_true h.s1 h.s2
  have h2 : okI 1 60 b = true := okI_true h.b1 h.b2
  have h3 : okI 0 s v = true := okI_true h.h1 h.h2
  simp [mVar_eq, isTup, is_from, h1, h2, h3]
theorem need_piece {c : Int} {al : List Int} (h : ValidP c al) : M.need_piece [pcD c al] = .ok .none := by
  unfold M.need_piece M.b_need_piece
  rw [runD_eq rfl]
  simp [mVar_eq, is_piece h]
theorem need_choir {c : Int} {al : List Int} {s b v : Int} (h : ValidP c al) (h2 : ValidC s b v) : M.need_choir [pcD c al, chD s b v] = .ok .none := by
  unfold M.need_choir M.b_need_choir
  rw [runD_eq rfl]
  simp [mVar_eq, need_piece h, is_choir h2]
end RD
/-! RDb: stretches with enough places, read. -/
namespace RD
open PySem TL AL Q
theorem window_counts {c b : Int} {al : List Int} (c1 : c ≤ 60) (c0 : 1 ≤ c) (b0 : 0 ≤ b) (b1 : b ≤ 60) : M.window_counts [pcD c al, .int b] = .ok (lI (wc c b al)) := by
  unfold M.window_counts M.b_window_counts pcD tI
  rw [runD_eq rfl]
  simp [mVar_eq]
  rw [lc_all PyData.int (rng 0 (c - b)) (fun st => .int (cnt al st b))]
  · simp [lI, wc, Function.comp_def]
  · simp [mVar_eq, fRg1_ap (n := c - b) (by omega) (by omega)]
  · rfl
  · intro st _
    refine ⟨_, rfl, rfl, ?_⟩
    simp
    rw [lc_at PyData.int al (inW st b) PyData.int]
    · simp [cnt]
    · simp [mVar_eq]
    · rfl
    · intro x _
      refine ⟨_, rfl, rfl, ?_, fun _ => rfl⟩
      by_cases h : st ≤ x <;> simp [mVar_eq, inW, h]
theorem enough {c s b v : Int} {al : List Int} (hp : ValidP c al) (hc : ValidC s b v) : M.enough [pcD c al, chD s b v] = .ok (.bool (en c al s b v)) := by
  obtain ⟨c0, c1, asc, lo, hi⟩ := hp
  obtain ⟨s1, s2, b1, b2, h1, h2⟩ := hc
  unfold M.enough M.b_enough chD
  rw [runD_eq rfl]
  simp [mVar_eq]
  rw [lc_all PyData.int (wc c b al) (fun m => .bool (decide (s ≤ (s - v) * m)))]
  · simp [en, Function.comp_def]
  · simp [mVar_eq, window_counts (b := b) c1 c0 (by omega) b2, lI]
  · rfl
  · intro m _
    refine ⟨_, rfl, rfl, ?_⟩
    simp [mVar_eq, mulI_ap (m := s - v) (by omega) (by omega)]
theorem can_sing {c s b v : Int} {al : List Int} (hp : ValidP c al) (hc : ValidC s b v) : M.can_sing [pcD c al, chD s b v] = .ok (.bool (en c al s b v)) := by
  unfold M.can_sing M.b_can_sing
  rw [runD_eq rfl]
  simp [mVar_eq, need_choir hp hc, enough hp hc]
end RD
/-! Cov: the least filling of stretches, in plain Lean: filled from one end, each stretch as late as can be, no filling is less. -/
namespace Cov
/-- the sum of f over what is so in al -/
def sm (al : List Int) (p : Int → Bool) (f : Int → Int) : Int := ((al.filter p).map f).sum
def below (t : Int) (x : Int) : Bool := decide (x < t)
def btw (a e : Int) (x : Int) : Bool := decide (a ≤ x) && decide (x < e)
theorem sm_nil (p : Int → Bool) (f : Int → Int) : sm [] p f = 0 := rfl
theorem sm_cons (x : Int) (al : List Int) (p : Int → Bool) (f : Int → Int) : sm (x :: al) p f = (if p x then f x else 0) + sm al p f := by
  unfold sm
  by_cases h : p x = true
  · rw [List.filter_cons_of_pos h, if_pos h]; rfl
  · rw [List.filter_cons_of_neg h, if_neg h]; omega
theorem sm_congr {al : List Int} {p : Int → Bool} {f g : Int → Int} (h : ∀ x ∈ al, p x = true → f x = g x) : sm al p f = sm al p g := by
  induction al with
  | nil => rfl
  | cons x r ih =>
    rw [sm_cons, sm_cons, ih fun y hy => h y (List.mem_cons_of_mem _ hy)]
    by_cases hp : p x = true
    · rw [if_pos hp, if_pos hp, h x List.mem_cons_self hp]
    · rw [if_neg hp, if_neg hp]
theorem sm_le {al : List Int} {p : Int → Bool} {f g : Int → Int} (h : ∀ x ∈ al, p x = true → f x ≤ g x) : sm al p f ≤ sm al p g := by
  induction al with
  | nil => exact Int.le_refl _
  | cons x r ih =>
    rw [sm_cons, sm_cons]
    have := ih fun y hy => h y (List.mem_cons_of_mem _ hy)
    by_cases hp : p x = true
    · rw [if_pos hp, if_pos hp]; have := h x List.mem_cons_self hp; omega
    · rw [if_neg hp, if_neg hp]; omega
theorem sm_zero {al : List Int} {p : Int → Bool} {f : Int → Int} (h : ∀ x ∈ al, p x = true → f x = 0) : sm al p f = 0 := by
  induction al with
  | nil => rfl
  | cons x r ih =>
    rw [sm_cons, ih fun y hy => h y (List.mem_cons_of_mem _ hy)]
    by_cases hp : p x = true
    · rw [if_pos hp, h x List.mem_cons_self hp]; rfl
    · rw [if_neg hp]; rfl
theorem sm_nonneg {al : List Int} {p : Int → Bool} {f : Int → Int} (h : ∀ x ∈ al, p x = true → 0 ≤ f x) : 0 ≤ sm al p f := by
  have := sm_le (p := p) (f := fun _ => 0) (g := f) h
  rwa [sm_zero (f := fun _ => 0) fun _ _ _ => rfl] at this
theorem sm_pred {al : List Int} {p q : Int → Bool} {f : Int → Int} (h : ∀ x ∈ al, p x = q x) : sm al p f = sm al q f := by
  induction al with
  | nil => rfl
  | cons x r ih => rw [sm_cons, sm_cons, ih fun y hy => h y (List.mem_cons_of_mem _ hy), h x List.mem_cons_self]
/-- put together of two parts -/
theorem sm_split {al : List Int} {p q r : Int → Bool} {f : Int → Int} (h : ∀ x ∈ al, p x = (q x || r x)) (h2 : ∀ x ∈ al, q x = true → r x = true → False) : sm al p f = sm al q f + sm al r f := by
  induction al with
  | nil => rfl
  | cons x l ih =>
    rw [sm_cons, sm_cons, sm_cons, ih (fun y hy => h y (List.mem_cons_of_mem _ hy)) fun y hy => h2 y (List.mem_cons_of_mem _ hy), h x List.mem_cons_self]
    have := h2 x List.mem_cons_self
    cases hq : q x <;> cases hr : r x <;> simp [hq, hr] at this ⊢ <;> omega
theorem sm_cut {al : List Int} {f : Int → Int} {a e : Int} (h : a ≤ e) : sm al (below e) f = sm al (below a) f + sm al (btw a e) f := by
  refine sm_split (fun x _ => ?_) fun x _ h1 h2 => ?_
  · rw [Bool.eq_iff_iff]; simp only [below, btw, Bool.or_eq_true, Bool.and_eq_true, decide_eq_true_eq]; omega
  · simp only [below, btw, Bool.and_eq_true, decide_eq_true_eq] at h1 h2; omega
theorem sm_cut2 {al : List Int} {f : Int → Int} {a b e : Int} (h : a ≤ b) (h2 : b ≤ e) : sm al (btw a e) f = sm al (btw a b) f + sm al (btw b e) f := by
  have h3 := sm_cut (al := al) (f := f) (Int.le_trans h h2)
  have h4 := sm_cut (al := al) (f := f) h
  have h5 := sm_cut (al := al) (f := f) h2
  omega
theorem sm_mono {al : List Int} {f : Int → Int} {t u : Int} (h : t ≤ u) (h2 : ∀ x ∈ al, 0 ≤ f x) : sm al (below t) f ≤ sm al (below u) f := by
  rw [sm_cut h]
  have := sm_nonneg (p := btw t u) (f := f) (al := al) fun x hx _ => h2 x hx
  omega

/-- one stretch filled as late as can be keeps below every filling -/
theorem exch {al : List Int} {m m' F : Int → Int} {c : Int → Int} {a e D : Int} (hae : a ≤ e)
    (h1 : ∀ t, sm al (below t) m ≤ sm al (below t) F) (h2 : ∀ x ∈ al, e ≤ x → m' x = 0)
    (hF : ∀ x ∈ al, 0 ≤ F x ∧ F x ≤ c x) (hW : D ≤ sm al (btw a e) F)
    (g1 : ∀ x ∈ al, x < a → m' x = m x)
    (g2 : sm al (btw a e) m' = sm al (btw a e) m ∨ sm al (btw a e) m' ≤ D)
    (g3 : ∀ x ∈ al, a ≤ x → x < e → m' x ≠ m x → ∀ y ∈ al, x < y → y < e → m' y = c y) :
    ∀ t, sm al (below t) m' ≤ sm al (below t) F := by
  have eA : sm al (below a) m' = sm al (below a) m := sm_congr fun x hx p => g1 x hx (by simpa [below] using p)
  have low : ∀ t, t ≤ a → sm al (below t) m' = sm al (below t) m := fun t ht => sm_congr fun x hx p => g1 x hx (by have : x < t := by simpa [below] using p
                                                                                                                   omega)
  have eE : sm al (below e) m' ≤ sm al (below e) F := by
    have h3 := sm_cut (al := al) (f := m') hae
    have h4 := sm_cut (al := al) (f := m) hae
    have h5 := sm_cut (al := al) (f := F) hae
    have h6 := h1 a
    have h7 := h1 e
    rcases g2 with g | g <;> omega
  intro t
  by_cases ta : t ≤ a
  · rw [low t ta]; exact h1 t
  by_cases te : e ≤ t
  · have h3 := sm_cut (al := al) (f := m') te
    have h4 : sm al (btw e t) m' = 0 := sm_zero fun x hx p => h2 x hx (by simp only [btw, Bool.and_eq_true, decide_eq_true_eq] at p; exact p.1)
    have h5 := sm_mono (al := al) (f := F) te fun x hx => (hF x hx).1
    omega
  have ht : a ≤ t ∧ t ≤ e := by omega
  by_cases hc : ∀ x ∈ al, a ≤ x → x < t → m' x = m x
  · have : sm al (below t) m' = sm al (below t) m := sm_congr fun x hx p => by
      have hxt : x < t := by simpa [below] using p
      by_cases hxa : a ≤ x
      · exact hc x hx hxa hxt
      · exact g1 x hx (by omega)
    rw [this]; exact h1 t
  · have ⟨x, hx, x1, x2, x3⟩ : ∃ x, x ∈ al ∧ a ≤ x ∧ x < t ∧ m' x ≠ m x := by
      simpa only [Classical.not_forall, exists_prop, ne_eq] using hc
    have h3 := sm_cut (al := al) (f := m') ht.2
    have h4 := sm_cut (al := al) (f := F) ht.2
    have h5 : sm al (btw t e) F ≤ sm al (btw t e) m' := sm_le fun y hy p => by
      simp only [btw, Bool.and_eq_true, decide_eq_true_eq] at p
      rw [g3 x hx x1 (by omega) x3 y hy (by omega) p.2]
      exact (hF y hy).2
    omega

/-! ### filling -/
def upd (m : Int → Int) (x v : Int) : Int → Int := fun y => if y = x then v else m y
def more (c : Int → Int) (m : Int → Int) (lack x : Int) : Int := max 0 (min lack (c x - m x))
/-- places put at the beats of a list one after another, until nothing lacks -/
def fill (c : Int → Int) : List Int → Int → (Int → Int) → Int → Int
  | [], _, m => m
  | x :: r, lack, m => fill c r (lack - more c m lack x) (upd m x (m x + more c m lack x))
theorem fill_out {c : Int → Int} {y : Int} : ∀ {l : List Int} {lack : Int} {m : Int → Int}, y ∉ l → fill c l lack m y = m y
  | [], _, _, _ => rfl
  | x :: r, lack, m, h => by
    rw [fill, fill_out fun z => h (List.mem_cons_of_mem _ z), upd, if_neg fun e : y = x => h (e ▸ List.mem_cons_self)]
theorem fill_ge {c : Int → Int} {y : Int} : ∀ {l : List Int} {lack : Int} {m : Int → Int}, m y ≤ fill c l lack m y
  | [], _, _ => Int.le_refl _
  | x :: r, lack, m => by
    have h := fill_ge (c := c) (y := y) (l := r) (lack := lack - more c m lack x) (m := upd m x (m x + more c m lack x))
    rw [fill]
    refine Int.le_trans ?_ h
    unfold upd
    split
    · rename_i e; subst e; unfold more; omega
    · exact Int.le_refl _
theorem fill_le {c : Int → Int} {y : Int} : ∀ {l : List Int} {lack : Int} {m : Int → Int}, m y ≤ c y → fill c l lack m y ≤ c y
  | [], _, _, h => h
  | x :: r, lack, m, h => by
    rw [fill]
    refine fill_le ?_
    unfold upd
    split
    · rename_i e; subst e; unfold more; omega
    · exact h
theorem fill_no {c : Int → Int} : ∀ {l : List Int} {lack : Int} {m : Int → Int}, lack ≤ 0 → fill c l lack m = m
  | [], _, _, _ => rfl
  | x :: r, lack, m, h => by
    have e : more c m lack x = 0 := by unfold more; omega
    rw [fill, e, Int.sub_zero, Int.add_zero]
    have : upd m x (m x) = m := by funext y; unfold upd; split <;> simp [*]
    rw [this]
    exact fill_no h
/-- what is put in all -/
def put (c : Int → Int) (l : List Int) (lack : Int) (m : Int → Int) : Int := (l.map (fill c l lack m)).sum - (l.map m).sum
theorem sum_congr {f g : Int → Int} : ∀ {l : List Int}, (∀ x ∈ l, f x = g x) → (l.map f).sum = (l.map g).sum
  | [], _ => rfl
  | x :: r, h => by simp only [List.map_cons, List.sum_cons]; rw [h x List.mem_cons_self, sum_congr fun y hy => h y (List.mem_cons_of_mem _ hy)]
theorem sum_map_le {f g : Int → Int} : ∀ {l : List Int}, (∀ x ∈ l, f x ≤ g x) → (l.map f).sum ≤ (l.map g).sum
  | [], _ => Int.le_refl _
  | x :: r, h => by simp only [List.map_cons, List.sum_cons]; have := h x List.mem_cons_self; have := sum_map_le fun y hy => h y (List.mem_cons_of_mem _ hy); omega
/-- a list filled: what is put is what lacked, as far as there is room -/
theorem fill_sum {c : Int → Int} : ∀ {l : List Int} {lack : Int} {m : Int → Int}, l.Nodup → (∀ x ∈ l, m x ≤ c x) → 0 ≤ lack →
    (l.map (fill c l lack m)).sum = (l.map m).sum + min lack ((l.map c).sum - (l.map m).sum)
  | [], lack, m, _, _, h => by simp; omega
  | x :: r, lack, m, nd, hc, h => by
    obtain ⟨n1, n2⟩ := List.nodup_cons.mp nd
    have hx := hc x List.mem_cons_self
    have em : ∀ y ∈ r, upd m x (m x + more c m lack x) y = m y := fun y hy => by
      unfold upd; rw [if_neg fun e : y = x => n1 (e ▸ hy)]
    have ih := fill_sum (c := c) (l := r) (lack := lack - more c m lack x) (m := upd m x (m x + more c m lack x)) n2 (fun y hy => by rw [em y hy]; exact hc y (List.mem_cons_of_mem _ hy)) (by unfold more; omega)
    rw [sum_congr em] at ih
    have hr : (r.map m).sum ≤ (r.map c).sum := sum_map_le fun y hy => hc y (List.mem_cons_of_mem _ hy)
    simp only [List.map_cons, List.sum_cons]
    have e0 : fill c (x :: r) lack m x = m x + more c m lack x := by
      rw [fill, fill_out n1, upd, if_pos rfl]
    have e1 : (r.map (fill c (x :: r) lack m)) = r.map (fill c r (lack - more c m lack x) (upd m x (m x + more c m lack x))) := rfl
    rw [e0, e1, ih]
    unfold more
    omega
/-- what stands before a place that got more is full -/
theorem fill_full {c : Int → Int} : ∀ {l : List Int} {lack : Int} {m : Int → Int}, l.Nodup → (∀ x ∈ l, m x ≤ c x) → ∀ {p q : List Int} {x : Int}, l = p ++ x :: q → fill c l lack m x ≠ m x → ∀ y ∈ p, fill c l lack m y = c y
  | [], lack, m, _, _, p, q, x, e, _ => by cases p <;> cases e
  | z :: r, lack, m, nd, hc, p, q, x, e, hne => by
    obtain ⟨n1, n2⟩ := List.nodup_cons.mp nd
    cases p with
    | nil => intro y hy; cases hy
    | cons z' p' =>
      simp only [List.cons_append, List.cons.injEq] at e
      obtain ⟨rfl, e⟩ := e
      have em : ∀ y ∈ r, upd m z (m z + more c m lack z) y = m y := fun y hy => by
        unfold upd; rw [if_neg fun e : y = z => n1 (e ▸ hy)]
      have hxr : x ∈ r := by rw [e]; simp
      have ih := fill_full (c := c) (l := r) (lack := lack - more c m lack z) (m := upd m z (m z + more c m lack z)) n2 (fun y hy => by rw [em y hy]; exact hc y (List.mem_cons_of_mem _ hy)) e (by rw [em x hxr]; exact hne)
      intro y hy
      rcases List.mem_cons.mp hy with h | h
      · subst h
        rw [fill, fill_out n1, upd, if_pos rfl]
        have : 0 < lack - more c m lack y := by
          refine Int.not_le.mp fun hl => hne ?_
          rw [fill, fill_no hl]
          exact em x hxr
        have hz := hc y List.mem_cons_self
        unfold more at this ⊢
        omega
      · exact ih y h

/-! ### stretch after stretch -/
def inside (al : List Int) (b a : Int) : List Int := al.filter (btw a (a + b + 1))
def step (al : List Int) (b : Int) (c D m : Int → Int) (a : Int) : Int → Int := fill c (inside al b a).reverse (D a - ((inside al b a).map m).sum) m
def gr (al : List Int) (b : Int) (c D : Int → Int) : Nat → Int → Int
  | 0 => fun _ => 0
  | k + 1 => step al b c D (gr al b c D k) k
theorem sm_inside (al : List Int) (b a : Int) (f : Int → Int) : ((inside al b a).map f).sum = sm al (btw a (a + b + 1)) f := rfl
section
variable {al : List Int} {b : Int} {c D m : Int → Int} {a : Int}
theorem mem_inside {x : Int} : x ∈ inside al b a ↔ x ∈ al ∧ a ≤ x ∧ x < a + b + 1 := by
  unfold inside btw
  rw [List.mem_filter, Bool.and_eq_true, decide_eq_true_eq, decide_eq_true_eq]
theorem step_out {x : Int} (h : ¬ (a ≤ x ∧ x < a + b + 1)) : step al b c D m a x = m x := fill_out fun z => h (mem_inside.mp (List.mem_reverse.mp z)).2
theorem step_ge {x : Int} : m x ≤ step al b c D m a x := fill_ge
theorem step_le {x : Int} (h : m x ≤ c x) : step al b c D m a x ≤ c x := fill_le h
theorem sum_reverse (l : List Int) : l.reverse.sum = l.sum := by
  induction l with
  | nil => rfl
  | cons x r ih => rw [List.reverse_cons, List.sum_append, ih, List.sum_cons]; simp; omega
theorem step_sum (ha : al.Pairwise (· < ·)) (hc : ∀ x ∈ al, m x ≤ c x) :
    sm al (btw a (a + b + 1)) (step al b c D m a) = (if D a ≤ sm al (btw a (a + b + 1)) m then sm al (btw a (a + b + 1)) m else min (D a) (sm al (btw a (a + b + 1)) c)) := by
  have nd : (inside al b a).reverse.Nodup := List.pairwise_reverse.mpr ((ha.filter _).imp fun {a b} h => by omega)
  by_cases h : D a ≤ sm al (btw a (a + b + 1)) m
  · rw [if_pos h]
    unfold step
    rw [fill_no (by rw [sm_inside]; omega)]
  · rw [if_neg h]
    have h2 := fill_sum (c := c) (l := (inside al b a).reverse) (lack := D a - ((inside al b a).map m).sum) (m := m) nd (fun x hx => hc x (mem_inside.mp (List.mem_reverse.mp hx)).1) (by rw [sm_inside]; omega)
    rw [List.map_reverse, List.map_reverse, List.map_reverse, sum_reverse, sum_reverse, sum_reverse] at h2
    have h3 : sm al (btw a (a + b + 1)) (step al b c D m a) = ((inside al b a).map (fill c (inside al b a).reverse (D a - ((inside al b a).map m).sum) m)).sum := rfl
    rw [h3, h2, sm_inside, sm_inside]
    omega
theorem step_full (ha : al.Pairwise (· < ·)) (hc : ∀ x ∈ al, m x ≤ c x) {x : Int} (hx : x ∈ al) (x1 : a ≤ x) (x2 : x < a + b + 1) (hne : step al b c D m a x ≠ m x) {y : Int} (hy : y ∈ al) (y1 : x < y) (y2 : y < a + b + 1) : step al b c D m a y = c y := by
  have hp : (inside al b a).Pairwise (· < ·) := ha.filter _
  have nd : (inside al b a).reverse.Nodup := List.pairwise_reverse.mpr (hp.imp fun {a b} h => by omega)
  obtain ⟨p, q, e⟩ := List.append_of_mem (mem_inside.mpr ⟨hx, x1, x2⟩)
  have e2 : (inside al b a).reverse = q.reverse ++ x :: p.reverse := by rw [e]; simp
  refine fill_full nd (fun z hz => hc z (mem_inside.mp (List.mem_reverse.mp hz)).1) e2 hne y ?_
  rw [List.mem_reverse]
  have hy' : y ∈ inside al b a := mem_inside.mpr ⟨hy, by omega, y2⟩
  rw [e] at hy' hp
  rcases List.mem_append.mp hy' with h | h
  · have := (List.pairwise_append.mp hp).2.2 y h x List.mem_cons_self
    omega
  · rcases List.mem_cons.mp h with h | h
    · omega
    · exact h
theorem gr_ge : ∀ {k : Nat} {x : Int}, 0 ≤ gr al b c D k x
  | 0, _ => Int.le_refl _
  | k + 1, x => Int.le_trans (gr_ge (k := k)) step_ge
theorem gr_le (hc : ∀ x ∈ al, 0 ≤ c x) : ∀ {k : Nat} {x : Int}, x ∈ al → gr al b c D k x ≤ c x
  | 0, x, h => hc x h
  | k + 1, x, h => step_le (gr_le hc h)
theorem gr_far (hb : 0 ≤ b) : ∀ {k : Nat} {x : Int}, k + b ≤ x → gr al b c D k x = 0
  | 0, _, _ => rfl
  | k + 1, x, h => by
    rw [gr, step_out (by push_cast at h; omega)]
    exact gr_far hb (by push_cast at h; omega)
theorem gr_has (ha : al.Pairwise (· < ·)) (hc : ∀ x ∈ al, 0 ≤ c x) : ∀ {k : Nat}, (∀ a : Nat, a < k → D a ≤ sm al (btw a (a + b + 1)) c) → ∀ a : Nat, a < k → D a ≤ sm al (btw a (a + b + 1)) (gr al b c D k)
  | 0, _, a, h => by omega
  | k + 1, hD, a, h => by
    by_cases e : a = k
    · subst e
      have h1 := step_sum (b := b) (D := D) (c := c) (m := gr al b c D a) (a := (a : Int)) ha fun x hx => gr_le (b := b) (D := D) hc (k := a) hx
      have h2 := hD a h
      rw [gr, h1]
      split <;> omega
    · exact Int.le_trans (gr_has ha hc (fun a h => hD a (by omega)) a (by omega)) (sm_le fun x _ _ => step_ge)
theorem gr_least {F : Int → Int} (hb : 0 ≤ b) (ha : al.Pairwise (· < ·)) (hc : ∀ x ∈ al, 0 ≤ c x) (hF : ∀ x ∈ al, 0 ≤ F x ∧ F x ≤ c x) : ∀ {k : Nat}, (∀ a : Nat, a < k → D a ≤ sm al (btw a (a + b + 1)) F) → ∀ t, sm al (below t) (gr al b c D k) ≤ sm al (below t) F
  | 0, _, t => by
    rw [sm_zero (f := gr al b c D 0) fun _ _ _ => rfl]
    exact sm_nonneg fun x hx _ => (hF x hx).1
  | k + 1, hW, t => by
    have hm : ∀ x ∈ al, gr al b c D k x ≤ c x := fun x (hx : x ∈ al) => gr_le (b := b) (D := D) hc (k := k) hx
    refine exch (m := gr al b c D k) (m' := step al b c D (gr al b c D k) k) (c := c) (a := (k : Int)) (e := k + b + 1) (D := D k) (by omega) (gr_least hb ha hc hF fun a h => hW a (by omega)) (fun x hx h => gr_far (k := k + 1) hb (by push_cast; omega)) hF (hW k (by omega)) (fun x hx h => step_out (by omega)) ?_ (fun x hx x1 x2 hne y hy y1 y2 => step_full ha hm hx x1 x2 hne hy y1 y2) t
    rw [step_sum ha hm]
    split <;> omega
end
end Cov
/-! Deal: places dealt round and round; what each row has. -/
namespace Deal
theorem snoc_ind {α : Type _} {P : List α → Prop} (h0 : P []) (h1 : ∀ l x, P l → P (l ++ [x])) (l : List α) : P l := by
  have : ∀ r : List α, P r.reverse := fun r => by
    induction r with
    | nil => exact h0
    | cons x r ih => rw [List.reverse_cons]; exact h1 _ _ ih
  have h := this l.reverse
  rwa [List.reverse_reverse] at h
def deal (ord : Nat → Nat) : List Int → Nat → List (List Int) → List (List Int)
  | [], _, rows => rows
  | x :: r, i, rows => deal ord r (i + 1) (rows.modify (ord i) (· ++ [x]))
def row (rows : List (List Int)) (j : Nat) : List Int := rows[j]?.getD []
theorem deal_snoc {ord : Nat → Nat} {x : Int} : ∀ {ps : List Int} {i : Nat} {rows : List (List Int)}, deal ord (ps ++ [x]) i rows = (deal ord ps i rows).modify (ord (i + ps.length)) (· ++ [x])
  | [], _, _ => rfl
  | y :: r, i, rows => by
    rw [List.cons_append, deal, deal_snoc, deal, List.length_cons, show i + 1 + r.length = i + (r.length + 1) by omega]
theorem deal_len {ord : Nat → Nat} : ∀ {ps : List Int} {i : Nat} {rows : List (List Int)}, (deal ord ps i rows).length = rows.length
  | [], _, _ => rfl
  | y :: r, i, rows => by rw [deal, deal_len, List.length_modify]
theorem row_modify {rows : List (List Int)} {k j : Nat} {x : Int} (hk : k < rows.length) : row (rows.modify k (· ++ [x])) j = if k = j then row rows j ++ [x] else row rows j := by
  unfold row
  rw [List.getElem?_modify]
  by_cases h : k = j
  · subst h
    simp [hk]
  · simp [h]
/-- the numbers of a row's places -/
def nums (ord : Nat → Nat) (j n : Nat) : List Nat := (List.range n).filter fun i => decide (ord i = j)
theorem nums_succ {ord : Nat → Nat} {j n : Nat} : nums ord j (n + 1) = nums ord j n ++ (if ord n = j then [n] else []) := by
  unfold nums
  rw [List.range_succ, List.filter_append]
  congr 1
  by_cases h : ord n = j
  · rw [if_pos h, List.filter_cons_of_pos (by simpa using h), List.filter_nil]
  · rw [if_neg h, List.filter_cons_of_neg (by simpa using h), List.filter_nil]
section
variable {ord : Nat → Nat} {s : Nat}
/-- what a row is: the places at its numbers -/
theorem row_deal (ho : ∀ i, ord i < s) (j : Nat) (ps : List Int) : row (deal ord ps 0 (List.replicate s [])) j = (nums ord j ps.length).map fun i => ps[i]?.getD 0 := by
  induction ps using snoc_ind with
  | h0 =>
    show (List.replicate s [])[j]?.getD [] = []
    rw [List.getElem?_replicate]
    split <;> rfl
  | h1 ps x ih =>
    have hl : (deal ord ps 0 (List.replicate s [])).length = s := by rw [deal_len, List.length_replicate]
    rw [deal_snoc, Nat.zero_add, row_modify (by rw [hl]; exact ho _), List.length_append, List.length_singleton, nums_succ, List.map_append]
    have e : (nums ord j ps.length).map (fun i => (ps ++ [x])[i]?.getD 0) = (nums ord j ps.length).map fun i => ps[i]?.getD 0 := by
      refine List.map_congr_left fun i hi => ?_
      have : i < ps.length := List.mem_range.mp (List.mem_filter.mp hi).1
      rw [List.getElem?_append_left this]
    rw [e, ← ih]
    by_cases h : ord ps.length = j
    · rw [if_pos h, if_pos h]
      simp
    · rw [if_neg h, if_neg h]
      simp
theorem mem_row (ho : ∀ i, ord i < s) {j : Nat} {ps : List Int} {t : Int} : t ∈ row (deal ord ps 0 (List.replicate s [])) j ↔ ∃ i, ps[i]? = some t ∧ ord i = j := by
  rw [row_deal ho]
  constructor
  · intro h
    obtain ⟨i, hi, e⟩ := List.mem_map.mp h
    obtain ⟨h1, h2⟩ := List.mem_filter.mp hi
    have h1 := List.mem_range.mp h1
    rw [List.getElem?_eq_getElem h1] at e
    exact ⟨i, by rw [List.getElem?_eq_getElem h1, ← e]; rfl, by simpa using h2⟩
  · rintro ⟨i, h1, h2⟩
    refine List.mem_map.mpr ⟨i, List.mem_filter.mpr ⟨List.mem_range.mpr (List.getElem?_eq_some_iff.mp h1).1, by simpa using h2⟩, by rw [h1]; rfl⟩
theorem row_asc (ho : ∀ i, ord i < s) {j : Nat} {ps : List Int} (h : ∀ (i i' : Nat) (x y : Int), i < i' → ord i = ord i' → ps[i]? = some x → ps[i']? = some y → x < y) : (row (deal ord ps 0 (List.replicate s [])) j).Pairwise (· < ·) := by
  rw [row_deal ho, List.pairwise_map]
  have hp : (nums ord j ps.length).Pairwise (· < ·) := List.pairwise_lt_range.filter _
  have hq : ∀ i ∈ nums ord j ps.length, i < ps.length ∧ ord i = j := fun i hi => ⟨List.mem_range.mp (List.mem_filter.mp hi).1, by simpa using (List.mem_filter.mp hi).2⟩
  refine hp.imp_of_mem fun {a b} ha hb hab => ?_
  obtain ⟨a1, a2⟩ := hq a ha
  obtain ⟨b1, b2⟩ := hq b hb
  have := h a b ps[a] ps[b] hab (a2.trans b2.symm) (List.getElem?_eq_getElem a1) (List.getElem?_eq_getElem b1)
  rw [List.getElem?_eq_getElem a1, List.getElem?_eq_getElem b1]
  exact this
/-- how many rows have a beat -/
theorem rows_with (ho : ∀ i, ord i < s) (t : Int) (ps : List Int) : ((List.range s).filter fun j => decide (t ∈ row (deal ord ps 0 (List.replicate s [])) j)).length ≤ ps.count t := by
  induction ps using snoc_ind with
  | h0 =>
    rw [List.filter_eq_nil_iff.mpr]
    · exact Nat.zero_le _
    · intro j _
      have : row (deal ord [] 0 (List.replicate s [])) j = [] := by
        show (List.replicate s [])[j]?.getD [] = []
        rw [List.getElem?_replicate]
        split <;> rfl
      rw [this]; simp
  | h1 ps x ih =>
    have hl : (deal ord ps 0 (List.replicate s [])).length = s := by rw [deal_len, List.length_replicate]
    have hm : ∀ j, row (deal ord (ps ++ [x]) 0 (List.replicate s [])) j = if ord ps.length = j then row (deal ord ps 0 (List.replicate s [])) j ++ [x] else row (deal ord ps 0 (List.replicate s [])) j := fun j => by
      rw [deal_snoc, Nat.zero_add, row_modify (by rw [hl]; exact ho _)]
    rw [List.count_append]
    by_cases e : x = t
    · subst e
      have h1 : ([x].count x) = 1 := by simp
      rw [h1]
      refine Nat.le_trans ?_ (Nat.add_le_add_right ih 1)
      have h2 : ∀ (l : List Nat), l.Nodup → (l.filter fun j => decide (x ∈ row (deal ord (ps ++ [x]) 0 (List.replicate s [])) j)).length ≤ (l.filter fun j => decide (x ∈ row (deal ord ps 0 (List.replicate s [])) j)).length + (if ord ps.length ∈ l then 1 else 0) := by
        intro l nd
        induction l with
        | nil => exact Nat.zero_le _
        | cons j r ihr =>
          obtain ⟨n1, n2⟩ := List.nodup_cons.mp nd
          have ihr := ihr n2
          rw [List.filter_cons, List.filter_cons, hm j]
          by_cases hj : ord ps.length = j
          · have hr : ord ps.length ∉ r := by rw [hj]; exact n1
            rw [if_neg hr] at ihr
            have h5 : (if ord ps.length ∈ j :: r then 1 else 0) = 1 := if_pos (by rw [hj]; exact List.mem_cons_self)
            rw [h5]
            by_cases z : x ∈ row (deal ord ps 0 (List.replicate s [])) j <;> by_cases z2 : x ∈ (if ord ps.length = j then row (deal ord ps 0 (List.replicate s [])) j ++ [x] else row (deal ord ps 0 (List.replicate s [])) j) <;> simp only [z, z2, decide_true, decide_false, if_true, if_false, Bool.false_eq_true, List.length_cons] <;> omega
          · have : (if ord ps.length ∈ j :: r then 1 else 0) = (if ord ps.length ∈ r then 1 else 0) := by simp [hj]
            rw [this, if_neg hj]
            by_cases z : x ∈ row (deal ord ps 0 (List.replicate s [])) j <;> simp only [z, decide_true, decide_false, if_true, if_false, Bool.false_eq_true, List.length_cons] <;> omega
      refine Nat.le_trans (h2 _ List.nodup_range) (Nat.add_le_add_left ?_ _)
      split <;> omega
    · have h1 : ([x].count t) = 0 := by simp [e]
      rw [h1, Nat.add_zero]
      refine Nat.le_trans (Nat.le_of_eq (congrArg List.length (List.filter_congr fun j _ => ?_))) ih
      rw [hm j]
      split
      · have : ¬ t = x := fun z => e z.symm
        simp [this]
      · rfl
theorem sum_set_len : ∀ {rows : List (List Int)} {k : Nat} {x : Int}, k < rows.length → ((rows.modify k (· ++ [x])).map List.length).sum = (rows.map List.length).sum + 1
  | [], k, x, h => by simp at h
  | r :: rows, 0, x, _ => by simp; omega
  | r :: rows, k + 1, x, h => by
    have := sum_set_len (rows := rows) (k := k) (x := x) (by simpa using h)
    simp only [List.modify_succ_cons, List.map_cons, List.sum_cons, this]; omega
theorem deal_sum (ho : ∀ i, ord i < s) (ps : List Int) : ((deal ord ps 0 (List.replicate s [])).map List.length).sum = ps.length := by
  induction ps using snoc_ind with
  | h0 =>
    show ((List.replicate s []).map List.length).sum = 0
    induction s with
    | zero => rfl
    | succ n ih => rw [List.replicate_succ]; simp
  | h1 ps x ih =>
    have hl : (deal ord ps 0 (List.replicate s [])).length = s := by rw [deal_len, List.length_replicate]
    rw [deal_snoc, Nat.zero_add, sum_set_len (by rw [hl]; exact ho _), ih, List.length_append, List.length_singleton]
end
/-! ### places in order -/
theorem asc_count {ps : List Int} {a : Int} (h : ps.Pairwise (· ≤ ·)) : ∀ {i : Nat} {x : Int}, ps[i]? = some x → (i < ps.countP (fun y => decide (y < a)) ↔ x < a) := by
  induction ps with
  | nil => intro i x e; simp at e
  | cons y r ih =>
    obtain ⟨h1, h2⟩ := List.pairwise_cons.mp h
    intro i x e
    by_cases hy : y < a
    · rw [List.countP_cons_of_pos (by simpa using hy)]
      cases i with
      | zero => simp at e; subst e; simp [hy]
      | succ i =>
        have := ih h2 (i := i) (x := x) (by simpa using e)
        omega
    · have hr : ∀ z ∈ r, ¬ z < a := fun z hz => by have := h1 z hz; omega
      rw [List.countP_cons_of_neg (by simpa using hy), List.countP_eq_zero.mpr fun z hz => by simpa using hr z hz]
      have : y ≤ x := by
        cases i with
        | zero => simp at e; omega
        | succ i => exact h1 x (List.mem_of_getElem? (by simpa using e))
      omega
theorem res_in {lo hi q k : Nat} (hq : 0 < q) (hk : k < q) (h : lo + q ≤ hi) : ∃ i, lo ≤ i ∧ i < hi ∧ i % q = k := by
  refine ⟨lo + (k + (q - lo % q)) % q, by omega, ?_, ?_⟩
  · have := Nat.mod_lt (k + (q - lo % q)) hq
    omega
  · have h1 : lo % q < q := Nat.mod_lt _ hq
    rw [Nat.add_mod, Nat.mod_mod, ← Nat.add_mod]
    have h2 : lo + (k + (q - lo % q)) = k + (lo / q + 1) * q := by
      have := Nat.div_add_mod lo q
      rw [Nat.add_mul, Nat.one_mul, Nat.mul_comm (lo / q) q]
      omega
    rw [h2, Nat.add_mul_mod_self_right]
    exact Nat.mod_eq_of_lt hk
/-- a stretch with q places or more has one of each of q singers -/
theorem each_in {ps : List Int} {a e : Int} {q k : Nat} (h : ps.Pairwise (· ≤ ·)) (hq : 0 < q) (hk : k < q) (hae : a ≤ e) (hc : ps.countP (fun y => decide (y < a)) + q ≤ ps.countP (fun y => decide (y < e))) : ∃ (i : Nat) (x : Int), ps[i]? = some x ∧ i % q = k ∧ a ≤ x ∧ x < e := by
  obtain ⟨i, h1, h2, h3⟩ := res_in hq hk hc
  have hl : i < ps.length := Nat.lt_of_lt_of_le h2 List.countP_le_length
  refine ⟨i, ps[i], List.getElem?_eq_getElem hl, h3, ?_, ?_⟩
  · have := asc_count (a := a) h (List.getElem?_eq_getElem hl)
    omega
  · exact (asc_count (a := e) h (List.getElem?_eq_getElem hl)).mp h2
theorem apart {ps : List Int} {q : Nat} (h : ps.Pairwise (· ≤ ·)) (hc : ∀ t, ps.count t ≤ q) : ∀ (i i' : Nat) (x y : Int), i + q ≤ i' → ps[i]? = some x → ps[i']? = some y → x < y := by
  intro i i' x y hi hx hy
  have h1 := asc_count (a := x) h hx
  have h2 := asc_count (a := x + 1) h hx
  have h3 := asc_count (a := x + 1) h hy
  have h4 : ps.countP (fun y => decide (y < x + 1)) = ps.countP (fun y => decide (y < x)) + ps.count x := by
    clear h1 h2 h3 hx hy hc h
    induction ps with
    | nil => rfl
    | cons z r ih =>
      rw [List.countP_cons, List.countP_cons, List.count_cons, ih]
      by_cases e : z = x
      · subst e
        have h1 : z < z + 1 := by omega
        simp [h1]
        omega
      · by_cases l : z < x
        · have : z < x + 1 := by omega
          simp [e, l, this]; omega
        · have : ¬ z < x + 1 := by omega
          simp [e, l, this]
  have h5 := hc x
  omega
/-! ### the beats a singer has sung -/
def held (row : List Int) (d : Int) : Nat → Int
  | 0 => d
  | t + 1 => if (t : Int) ∈ row then 0 else held row d t + 1
theorem held_le {row : List Int} {d : Int} (hd : 0 ≤ d) : ∀ {t : Nat}, 0 ≤ held row d t ∧ held row d t ≤ d + t
  | 0 => ⟨hd, by show d ≤ d + _; omega⟩
  | t + 1 => by
    rw [held]
    have h := held_le (row := row) hd (t := t)
    split
    · omega
    · push_cast; omega
theorem held_since {row : List Int} {d : Int} (hd : 0 ≤ d) {x : Nat} (hx : (x : Int) ∈ row) : ∀ {t : Nat}, x < t → held row d t ≤ t - 1 - x
  | 0, h => by omega
  | t + 1, h => by
    rw [held]
    split
    · push_cast; omega
    · rename_i hn
      have : x ≠ t := fun e => hn (e ▸ hx)
      have := held_since hd hx (t := t) (by omega)
      push_cast
      omega
/-- nobody sings too long: each has breathed lately, or was fresh enough -/
theorem held_ok {row : List Int} {d b : Int} (hd : 0 ≤ d) {t : Nat} (h : d + (t + 1) ≤ b ∨ ∃ x ∈ row, 0 ≤ x ∧ x ≤ t ∧ t ≤ x + b) : held row d (t + 1) ≤ b := by
  rcases h with h | ⟨x, h1, h2, h3, h4⟩
  · have := (held_le (row := row) hd (t := t + 1)).2
    push_cast at this
    omega
  · have e : ((x.toNat : Nat) : Int) = x := Int.toNat_of_nonneg h2
    have := held_since (t := t + 1) hd (x := x.toNat) (row := row) (by rw [e]; exact h1) (by omega)
    push_cast at this
    omega
end Deal
/-! RDc: places dealt, read. -/
namespace RD
open PySem TL AL Q
def ordN (order : List Int) (i : Nat) : Nat := (order[i % order.length]?.getD 0).toNat
def dealOf (s : Int) (ps order : List Int) : List (List Int) := Deal.deal (ordN order) ps 0 (List.replicate s.toNat [])
theorem enumP_eq (ps : List Int) : enumP (ps.map .int) = (ps.zipIdx).map fun z => PyData.tuple [.int (z.2 : Nat), .int z.1] := by
  unfold enumP
  apply List.ext_getElem?
  intro i
  rw [List.getElem?_zipWith, List.getElem?_map, List.getElem?_map, List.getElem?_zipIdx]
  by_cases h : i < ps.length
  · rw [List.getElem?_range (by rw [List.length_map]; exact h), List.getElem?_eq_getElem h]
    simp
  · rw [List.getElem?_eq_none (l := ps) (by omega)]
    simp
theorem deal_fold {ord : Nat → Nat} : ∀ (ps : List Int) (i : Nat) (rows : List (List Int)), (ps.zipIdx i).foldl (fun r z => r.modify (ord z.2) (· ++ [z.1])) rows = Deal.deal ord ps i rows
  | [], _, _ => rfl
  | x :: r, i, rows => by rw [List.zipIdx_cons, List.foldl_cons, deal_fold r]; rfl
abbrev DS := List (List Int) × SD × SD
theorem fold_snd (ord : Nat → Nat) : ∀ (l : List (Int × Nat)) (st : DS), (l.foldl (fun (st : DS) z => (st.1.modify (ord z.2) (· ++ [z.1]), SD.da (.int (z.2 : Nat)), SD.da (.int z.1))) st).1 = l.foldl (fun r z => r.modify (ord z.2) (· ++ [z.1])) st.1
  | [], _ => rfl
  | z :: l, st => by rw [List.foldl_cons, List.foldl_cons, fold_snd ord l]
def encR (rows : List (List Int)) : List (List PyData) := rows.map fun r => r.map .int
theorem appAt_enc {rows : List (List Int)} {n : Int} {x : Int} (h0 : 0 ≤ n) (h1 : n < (rows.length : Nat)) (h2 : ∀ r ∈ rows, r.length ≤ 4000) : appAt (encR rows) n (.int x) = some (encR (rows.modify n.toNat (· ++ [x]))) := by
  have hl : n.toNat < rows.length := by omega
  unfold appAt encR
  rw [if_pos h0, List.getElem?_map, List.getElem?_eq_getElem hl]
  show (if _ ∧ _ then _ else _) = _
  rw [if_pos ⟨by rw [List.length_map]; have := h2 _ (List.getElem_mem hl); show _ ≤ 4096; omega, rfl⟩]
  congr 1
  apply List.ext_getElem?
  intro i
  simp only [List.getElem?_set, List.getElem?_map, List.getElem?_modify, List.length_map]
  by_cases e : n.toNat = i
  · subst e
    simp [hl]
  · simp [e]
theorem modify_len {rows : List (List Int)} {n k : Nat} {x : Int} (h : ∀ r ∈ rows, r.length ≤ k) : ∀ r ∈ rows.modify n (· ++ [x]), r.length ≤ k + 1 := by
  intro r hr
  obtain ⟨i, hi⟩ := List.getElem?_of_mem hr
  rw [List.getElem?_modify] at hi
  cases e : rows[i]? with
  | none => rw [e] at hi; simp at hi
  | some r0 =>
    rw [e] at hi
    have := h r0 (List.mem_of_getElem? e)
    have hi : (if n = i then r0 ++ [x] else r0) = r := by simpa using hi
    rw [← hi]
    split
    · simp; omega
    · omega
theorem dealt {s : Int} {ps order : List Int} (s0 : 1 ≤ s) (s1 : s ≤ 30) (hp : ps.length ≤ 4000) (ho : ∀ x ∈ order, 0 ≤ x ∧ x < s) (hne : ps ≠ [] → order ≠ []) :
    M.dealt [.int s, .list (ps.map .int), .list (order.map .int)] = .ok (.tuple ((dealOf s ps order).map tI)) := by
  unfold M.dealt M.b_dealt
  rw [runD_eq rfl]
  simp [fRg1_ap (n := s) (by omega) (by omega), rng_len, mVar_eq, enumP_eq]
  have hl := forL_at (tg := g2 5 6) (bo := mSeq (mDrop (mV (mAppLL 3 (mOp ixL (mVar 2) (mOp modI (mVar 5) (mCb fLen (mCons (mVar 2) mNil)))) (mVar 6)))) mNext)
    (fun z : Int × Nat => PyData.tuple [.int (z.2 : Nat), .int z.1])
    (fun st : DS => [SD.da (.int s), .da (.list (ps.map .int)), .da (.list (order.map .int)), .ll (encR st.1), .no, st.2.1, st.2.2, .no])
    (fun (st : DS) z => (st.1.modify (ordN order z.2) (· ++ [z.1]), SD.da (.int (z.2 : Nat)), SD.da (.int z.1)))
    (fun k st => st.1.length = s.toNat ∧ ∀ r ∈ st.1, r.length ≤ k) ps.zipIdx 0 (List.replicate s.toNat [], .no, .no)
    ⟨by simp, fun r hr => by rw [(List.mem_replicate.mp hr).2]; exact Nat.le_refl _⟩ ?_
  · have e0 : encR (List.replicate s.toNat []) = List.replicate s.toNat [] := by simp [encR]
    rw [e0] at hl
    rw [hl.1]
    have hd : (ps.zipIdx.foldl (fun (st : DS) z => (st.1.modify (ordN order z.2) (· ++ [z.1]), SD.da (.int (z.2 : Nat)), SD.da (.int z.1))) (List.replicate s.toNat [], .no, .no)).1 = dealOf s ps order := by
      rw [fold_snd]
      exact deal_fold ps 0 _
    simp only [hd]
    generalize (ps.zipIdx.foldl (fun (st : DS) z => (st.1.modify (ordN order z.2) (· ++ [z.1]), SD.da (.int (z.2 : Nat)), SD.da (.int z.1))) (List.replicate s.toNat [], .no, .no)).2.1 = z5
    generalize (ps.zipIdx.foldl (fun (st : DS) z => (st.1.modify (ordN order z.2) (· ++ [z.1]), SD.da (.int (z.2 : Nat)), SD.da (.int z.1))) (List.replicate s.toNat [], .no, .no)).2.2 = z6
    simp
    rw [lc_all (fun r : List Int => PyData.list (r.map .int)) (dealOf s ps order) tI]
    · simp [noLs_map (f := tI) (fun x => by simp [tI])]
    · simp [mVar_eq, encR, Function.comp_def]
    · rfl
    · intro r _
      refine ⟨_, rfl, rfl, ?_⟩
      simp [mVar_eq, tI]
  · rintro i ⟨x, n⟩ hx ⟨rows, z5, z6⟩ ⟨h1, h2⟩
    rw [List.getElem?_zipIdx] at hx
    cases e : ps[i]? with
    | none => rw [e] at hx; cases hx
    | some y =>
      rw [e] at hx
      simp only [Option.map_some, Option.some.injEq, Prod.mk.injEq] at hx
      obtain ⟨rfl, rfl⟩ := hx
      have hi := (List.getElem?_eq_some_iff.mp e).1
      have hq : order ≠ [] := hne fun z => by rw [z] at hi; simp at hi
      have hq : 0 < order.length := List.length_pos_iff.mpr hq
      have hm : i % order.length < order.length := Nat.mod_lt _ hq
      obtain ⟨o1, o2⟩ := ho _ (List.getElem_mem hm)
      have hat : L2.atI (order.map PyData.int) ((i : Int) % (order.length : Int)) = some (.int order[i % order.length]) := by
        rw [show ((i : Int) % (order.length : Int)) = ((i % order.length : Nat) : Int) from by omega]
        exact at_nat (by rw [List.getElem?_map, List.getElem?_eq_getElem hm]; rfl)
      have eo : ordN order i = order[i % order.length].toNat := by unfold ordN; rw [List.getElem?_eq_getElem hm]; rfl
      refine ⟨⟨by rw [List.length_modify]; exact h1, ?_⟩, _, rfl, .inl ?_⟩
      · have := modify_len (n := ordN order (0 + i)) (x := y) h2
        simpa using this
      · have ha := appAt_enc (rows := rows) (n := order[i % order.length]) (x := y) o1 (by rw [h1]; omega) fun r hr => by have := h2 r hr; omega
        rw [Nat.zero_add, eo]
        simp [mVar_eq, modI_ap (n := (order.length : Int)) (m := (i : Int)) (by omega), hat, ha, llAt_eq]
end RD
/-! RP: places told by numbers. -/
namespace RD
open PySem TL AL Q
theorem asc_len {c : Int} : ∀ {al : List Int} {a : Int}, al.Pairwise (· < ·) → (∀ x ∈ al, a ≤ x ∧ x < c) → a ≤ c → (al.length : Int) ≤ c - a
  | [], a, _, _, h => by simp; omega
  | x :: r, a, h, hx, _ => by
    obtain ⟨h1, h2⟩ := List.pairwise_cons.mp h
    have hxx := hx x List.mem_cons_self
    have := asc_len (c := c) (a := x + 1) h2 (fun y hy => ⟨by have := h1 y hy; omega, (hx y (List.mem_cons_of_mem _ hy)).2⟩) (by omega)
    rw [List.length_cons]
    omega
theorem vp_len {c : Int} {al : List Int} (h : ValidP c al) : al.length ≤ 60 := by
  have := asc_len (a := 0) h.asc (fun x hx => ⟨h.lo x hx, h.hi x hx⟩) (by have := h.c1; omega)
  have := h.c2
  omega
/-- the places told by m, beat after beat -/
def places (al : List Int) (m : Int → Int) : List Int := al.flatMap fun x => List.replicate (m x).toNat x
theorem places_len {m : Int → Int} {n : Nat} : ∀ {al : List Int}, (∀ x ∈ al, m x ≤ n) → (places al m).length ≤ n * al.length
  | [], _ => Nat.le_refl _
  | x :: r, h => by
    have h1 := places_len (m := m) (n := n) (al := r) fun y hy => h y (List.mem_cons_of_mem _ hy)
    have h2 := h x List.mem_cons_self
    show (List.replicate (m x).toNat x ++ places r m).length ≤ _
    rw [List.length_append, List.length_replicate, List.length_cons, Nat.mul_add]
    omega
theorem places_snoc {m : Int → Int} {al : List Int} {x : Int} : places (al ++ [x]) m = places al m ++ List.replicate (m x).toNat x := by
  unfold places; simp
end RD
/-! RDd: as few places as can be, read. -/
namespace RD
open PySem TL AL Q
/-- a dict from the beats to numbers -/
def dl (al : List Int) (m : Int → Int) : List (Int × Int) := al.map fun x => (x, m x)
theorem vI_dl {m : Int → Int} {k : Int} : ∀ {al : List Int}, k ∈ al → vI (dl al m) k = some (m k)
  | [], h => nomatch h
  | x :: r, h => by
    unfold vI dl
    rw [List.map_cons, List.find?_cons]
    by_cases e : x = k
    · subst e; simp
    · have := vI_dl (m := m) (k := k) (al := r) ((List.mem_cons.mp h).resolve_left fun z => e z.symm)
      unfold vI dl at this
      simp only [e, decide_false]
      exact this
theorem pI_dl {m : Int → Int} {al : List Int} {k v : Int} (h : k ∈ al) : pI (dl al m) k v = dl al (Cov.upd m k v) := by
  unfold pI dl
  rw [if_pos (by rw [List.any_eq_true]; exact ⟨(k, m k), List.mem_map.mpr ⟨k, h, rfl⟩, by simp⟩), List.map_map]
  refine List.map_congr_left fun x _ => ?_
  show (if x = k then (x, v) else (x, m x)) = (x, Cov.upd m k v x)
  unfold Cov.upd
  split <;> rfl
theorem pI_new {m : Int → Int} {al : List Int} {k v : Int} (h : k ∉ al) : pI (dl al m) k v = dl al m ++ [(k, v)] := by
  unfold pI dl
  rw [if_neg]
  intro z
  obtain ⟨y, hy, e⟩ := List.any_eq_true.mp z
  obtain ⟨x, hx, rfl⟩ := List.mem_map.mp hy
  exact h (by simpa using (show x = k from by simpa using e) ▸ hx)
theorem few_dl {al : List Int} {m : Int → Int} (h : al.length ≤ 60) : fewI (dl al m) = some (dl al m) := by
  unfold fewI
  rw [if_pos]
  unfold dl
  rw [List.length_map]
  show _ ≤ 4096
  omega
theorem mDc_ap {it : Mi} {tg : Mg} {ek ev : Md} {vs : List Nat} {g : En} : mDc it tg ek ev vs g = (it g).bind fun p => (dcL tg ek ev vs p.2 p.1 []).noE.bind fun q => .ok (q.1, .ow 0 0 (mkI q.2)) := rfl
theorem dcL_at {tg : Mg} {ek ev : Md} {vs : List Nat} {g : En} {m : Int → Int} (hp : plainAt g vs = true) : ∀ (xs pre : List Int), (pre ++ xs).Pairwise (· < ·) →
    (∀ x ∈ xs, ∃ g2, tg (.int x) (wipeE g vs) = some g2 ∧ backE g g2 vs = g ∧ ek g2 = .ok (g2, .int x) ∧ ev g2 = .ok (g2, .int (m x))) → dcL tg ek ev vs (xs.map .int) g (dl pre m) = .ok (g, dl (pre ++ xs) m)
  | [], pre, _, _ => by rw [List.append_nil]; rfl
  | x :: r, pre, h, hx => by
    obtain ⟨g2, h1, h2, h3, h4⟩ := hx x List.mem_cons_self
    have hn : x ∉ pre := fun z => by
      have := (List.pairwise_append.mp h).2.2 x z x List.mem_cons_self
      omega
    have ih := dcL_at (m := m) hp r (pre ++ [x]) (by rw [List.append_assoc]; exact h) fun y hy => hx y (List.mem_cons_of_mem _ hy)
    have e : dl (pre ++ [x]) m = dl pre m ++ [(x, m x)] := by unfold dl; rw [List.map_append]; rfl
    rw [List.append_assoc] at ih
    rw [List.map_cons, dcL, hp]
    simp only [h1, R.of_some, R.ok_bind, h3, R.noE_ok, int?_ap, h4, h2, pI_new hn]
    rw [← e]
    exact ih
section
variable {P C : PyData} {s b v c : Int} {al : List Int}
theorem chosen_inner (hl : al.length ≤ 60) (sa : 0 ≤ s) (z9 z10 : SD) (m0 : Int → Int) (lack0 : Int) : ∀ (xs : List Int), (∀ x ∈ xs, x ∈ al) → ∀ (z8 z12 : SD), z8.plain = true → ∃ z8' z11' z12', z8'.plain = true ∧
    forL (gN 8) (mSeq (mSet 12 (mV (mCb fMax2 (mCons (mC (.int (0))) (mCons (mCb fMin2 (mCons (mVar 11) (mCons (mOp subI (mOp subI (mVar 2) (mVar 4)) (mDGet 7 (mVar 8))) mNil))) mNil))))) (mSeq (mDAug 7 (mVar 8) (mVar 12)) (mSeq (mAug 11 (fun a b => a - b) (mVar 12)) mNext)))
      (xs.map .int) [.da P, .da C, .da (.int s), .da (.int b), .da (.int v), .da (.int c), .da (.tuple (al.map .int)), .ow 0 0 (mkI (dl al m0)), z8, z9, z10, .da (.int lack0), z12, .no] =
    .ok (.nx [.da P, .da C, .da (.int s), .da (.int b), .da (.int v), .da (.int c), .da (.tuple (al.map .int)), .ow 0 0 (mkI (dl al (Cov.fill (fun _ => s - v) xs lack0 m0))), z8', z9, z10, z11', z12', .no]) := by
  intro xs hx z8 z12 hz
  obtain ⟨⟨m, lack, z8', z12'⟩, h1, h0, h2⟩ := forL_ex (tg := gN 8) (bo := mSeq (mSet 12 (mV (mCb fMax2 (mCons (mC (.int (0))) (mCons (mCb fMin2 (mCons (mVar 11) (mCons (mOp subI (mOp subI (mVar 2) (mVar 4)) (mDGet 7 (mVar 8))) mNil))) mNil))))) (mSeq (mDAug 7 (mVar 8) (mVar 12)) (mSeq (mAug 11 (fun a b => a - b) (mVar 12)) mNext)))
    PyData.int (fun st : (Int → Int) × Int × SD × SD => [.da P, .da C, .da (.int s), .da (.int b), .da (.int v), .da (.int c), .da (.tuple (al.map .int)), .ow 0 0 (mkI (dl al st.1)), st.2.2.1, z9, z10, .da (.int st.2.1), st.2.2.2, .no])
    (fun j st => st.2.2.1.plain = true ∧ Cov.fill (fun _ => s - v) (xs.drop j) st.2.1 st.1 = Cov.fill (fun _ => s - v) xs lack0 m0) xs 0 (m0, lack0, z8, z12) ⟨hz, rfl⟩ (by
      rintro i x hi ⟨m, lack, z8, z12⟩ ⟨_, h⟩
      have hxa : x ∈ al := hx x (List.mem_of_getElem? hi)
      refine ⟨(Cov.upd m x (m x + Cov.more (fun _ => s - v) m lack x), lack - Cov.more (fun _ => s - v) m lack x, .da (.int x), .da (.int (Cov.more (fun _ => s - v) m lack x))), ?_, _, rfl, .inl ?_⟩
      · refine ⟨rfl, ?_⟩
        rw [← h, Nat.zero_add, show xs.drop i = x :: xs.drop (i + 1) from (List.drop_eq_getElem_cons (List.getElem?_eq_some_iff.mp hi).1).trans (by rw [(List.getElem?_eq_some_iff.mp hi).2])]
        rfl
      · simp [mVar_eq, vI_dl hxa, pI_dl hxa, few_dl hl, Cov.more])
  rw [Nat.zero_add, List.drop_length] at h2
  have h2 : m = Cov.fill (fun _ => s - v) xs lack0 m0 := h2
  subst h2
  exact ⟨_, _, _, h0, h1⟩
theorem found_loop {z9 z10 z11 z12 : SD} (hl : al.length ≤ 60) (m : Int → Int) (hm : ∀ x ∈ al, 0 ≤ m x ∧ m x ≤ 30) (z8 : SD) : ∃ z8',
    forL (gN 8) (mSeq (mSet 13 (mCatO 13 (mD (mRep (mLst (mCons (mVar 8) mNil)) (mDGet 7 (mVar 8)))))) mNext)
      (al.map .int) [.da P, .da C, .da (.int s), .da (.int b), .da (.int v), .da (.int c), .da (.tuple (al.map .int)), .ow 0 0 (mkI (dl al m)), z8, z9, z10, z11, z12, .ls 0 []] =
    .ok (.nx [.da P, .da C, .da (.int s), .da (.int b), .da (.int v), .da (.int c), .da (.tuple (al.map .int)), .ow 0 0 (mkI (dl al m)), z8', z9, z10, z11, z12, .ls 0 ((places al m).map .int)]) := by
  obtain ⟨⟨f, z8'⟩, h1, h2⟩ := forL_ex (tg := gN 8) (bo := mSeq (mSet 13 (mCatO 13 (mD (mRep (mLst (mCons (mVar 8) mNil)) (mDGet 7 (mVar 8)))))) mNext)
    PyData.int (fun st : List Int × SD => [.da P, .da C, .da (.int s), .da (.int b), .da (.int v), .da (.int c), .da (.tuple (al.map .int)), .ow 0 0 (mkI (dl al m)), st.2, z9, z10, z11, z12, .ls 0 (st.1.map .int)])
    (fun k st => st.1 = places (al.take k) m) al 0 ([], z8) rfl (by
      rintro i x hi ⟨f, z⟩ h
      have hxa : x ∈ al := List.mem_of_getElem? hi
      obtain ⟨m0, m1⟩ := hm x hxa
      have hil := (List.getElem?_eq_some_iff.mp hi).1
      have h : f = places (al.take i) m := by rw [← Nat.zero_add i]; exact h
      have e : f ++ List.replicate (m x).toNat x = places (al.take (i + 1)) m := by
        rw [List.take_add_one, hi, h]
        exact places_snoc.symm
      refine ⟨(f ++ List.replicate (m x).toNat x, .da (.int x)), ?_, _, rfl, .inl ?_⟩
      · rw [Nat.zero_add]
        exact e
      · have hlen : (List.map PyData.int f ++ List.replicate (m x).toNat (PyData.int x)).length ≤ 4096 := by
          have := places_len (m := m) (n := 30) (al := al.take (i + 1)) fun y hy => (hm y (List.mem_of_mem_take hy)).2
          rw [← e, List.length_append, List.length_take] at this
          rw [List.length_append, List.length_map]
          simp only [List.length_replicate] at this ⊢
          omega
        simp [mVar_eq, vI_dl hxa, rep?_1 m0 (Int.le_trans m1 (by decide)), few_ok hlen])
  refine ⟨z8', ?_⟩
  have h2 : f = places al m := by rw [Nat.zero_add, List.take_length] at h2; exact h2
  subst h2
  exact h1
theorem inside_at {st b x : Int} : (decide (st ≤ x) && decide (x ≤ st + b)) = Cov.btw st (st + b + 1) x := by
  unfold Cov.btw
  congr 1
  rw [Bool.eq_iff_iff, decide_eq_true_eq, decide_eq_true_eq]
  omega
theorem chosen_outer (hl : al.length ≤ 60) (hs : 0 ≤ s) : ∀ (k : Nat), ∃ z8 z9 z10 z11 z12,
    forL (gN 9) (mSeq (mSet 10 (mV (mD (mLc (mI1 tup? (mVar 6)) (gN 8) (mT (mChain leI leI (mVar 9) (mVar 8) (mOp addI (mVar 9) (mVar 3)))) (mVar 8) [8])))) (mSeq (mSet 11 (mV (mOp subI (mVar 2) (mCb fSum (mCons (mD (mLc (mI1 lst? (mVar 10)) (gN 8) mYes (mDGet 7 (mVar 8)) [8])) mNil))))) (mSeq (mFor (mI1 lst? (mD (mRevL (mVar 10)))) (gN 8) (mSeq (mSet 12 (mV (mCb fMax2 (mCons (mC (.int 0)) (mCons (mCb fMin2 (mCons (mVar 11) (mCons (mOp subI (mOp subI (mVar 2) (mVar 4)) (mDGet 7 (mVar 8))) mNil))) mNil))))) (mSeq (mDAug 7 (mVar 8) (mVar 12)) (mSeq (mAug 11 (fun a b => a - b) (mVar 12)) mNext)))) mNext)))
      ((rng 0 k).map .int) [.da P, .da C, .da (.int s), .da (.int b), .da (.int v), .da (.int c), .da (.tuple (al.map .int)), .ow 0 0 (mkI (dl al (fun _ => 0))), .no, .no, .no, .no, .no, .no] =
    .ok (.nx [.da P, .da C, .da (.int s), .da (.int b), .da (.int v), .da (.int c), .da (.tuple (al.map .int)), .ow 0 0 (mkI (dl al (Cov.gr al b (fun _ => s - v) (fun _ => s) k))), z8, z9, z10, z11, z12, .no]) := by
  intro k
  obtain ⟨⟨m, z8, z9, z10, z11, z12⟩, h1, h0, h2⟩ := forL_ex (tg := gN 9) (bo := (mSeq (mSet 10 (mV (mD (mLc (mI1 tup? (mVar 6)) (gN 8) (mT (mChain leI leI (mVar 9) (mVar 8) (mOp addI (mVar 9) (mVar 3)))) (mVar 8) [8])))) (mSeq (mSet 11 (mV (mOp subI (mVar 2) (mCb fSum (mCons (mD (mLc (mI1 lst? (mVar 10)) (gN 8) mYes (mDGet 7 (mVar 8)) [8])) mNil))))) (mSeq (mFor (mI1 lst? (mD (mRevL (mVar 10)))) (gN 8) (mSeq (mSet 12 (mV (mCb fMax2 (mCons (mC (.int 0)) (mCons (mCb fMin2 (mCons (mVar 11) (mCons (mOp subI (mOp subI (mVar 2) (mVar 4)) (mDGet 7 (mVar 8))) mNil))) mNil))))) (mSeq (mDAug 7 (mVar 8) (mVar 12)) (mSeq (mAug 11 (fun a b => a - b) (mVar 12)) mNext)))) mNext))))
    PyData.int (fun st : (Int → Int) × SD × SD × SD × SD × SD => [.da P, .da C, .da (.int s), .da (.int b), .da (.int v), .da (.int c), .da (.tuple (al.map .int)), .ow 0 0 (mkI (dl al st.1)), st.2.1, st.2.2.1, st.2.2.2.1, st.2.2.2.2.1, st.2.2.2.2.2, .no])
    (fun j st => st.2.1.plain = true ∧ st.1 = Cov.gr al b (fun _ => s - v) (fun _ => s) j) (rng 0 k) 0 (fun _ => 0, .no, .no, .no, .no, .no) ⟨rfl, rfl⟩ (by
      rintro i x hi ⟨m, z8, z9, z10, z11, z12⟩ ⟨h0, h⟩
      have h : m = Cov.gr al b (fun _ => s - v) (fun _ => s) i := by rw [← Nat.zero_add i]; exact h
      have hx : x = (i : Int) := by rw [TL.rng_get hi]; omega
      subst hx
      obtain ⟨z8', z11', z12', q0, q1⟩ := chosen_inner (P := P) (C := C) (s := s) (b := b) (v := v) (c := c) hl hs (.da (.int (i : Int))) (.da (.list ((Cov.inside al b i).map .int))) m (s - ((Cov.inside al b i).map m).sum) (Cov.inside al b i).reverse (fun y hy => (Cov.mem_inside.mp (List.mem_reverse.mp hy)).1) z8 z12 h0
      refine ⟨(Cov.step al b (fun _ => s - v) (fun _ => s) m i, z8', .da (.int (i : Int)), .da (.list ((Cov.inside al b i).map .int)), z11', z12'), ⟨q0, ?_⟩, _, rfl, .inl ?_⟩
      · show _ = Cov.gr al b (fun _ => s - v) (fun _ => s) (0 + i + 1)
        rw [h, Nat.zero_add]
        rfl
      · simp
        rw [lc_at PyData.int al (Cov.btw i (i + b + 1)) PyData.int]
        · simp [mVar_eq]
          rw [lc_all PyData.int (Cov.inside al b i) (fun y => .int (m y))]
          · simp [mVar_eq, ← List.map_reverse]
            rw [show al.filter (Cov.btw i (i + b + 1)) = Cov.inside al b i from rfl, q1]
            rfl
          · simp [mVar_eq]
            rfl
          · simp [h0]
          · intro y hy
            refine ⟨_, rfl, rfl, ?_⟩
            simp [mVar_eq, vI_dl (Cov.mem_inside.mp hy).1]
        · simp [mVar_eq]
        · simp [h0]
        · intro y _
          refine ⟨_, rfl, rfl, ?_, fun _ => rfl⟩
          by_cases hh : (i : Int) ≤ y <;> simp [mVar_eq, ← inside_at, hh])
  refine ⟨z8, z9, z10, z11, z12, ?_⟩
  rw [h1, h2, Nat.zero_add, rng_len, Int.sub_zero, Int.toNat_natCast]
theorem chosen (hp : ValidP c al) (hc : ValidC s b v) : M.chosen [pcD c al, chD s b v] = .ok (lI (places al (Cov.gr al b (fun _ => s - v) (fun _ => s) (c - b).toNat))) := by
  have hl := vp_len hp
  obtain ⟨s1, s2, b1, b2, v1, v2⟩ := hc
  have c1 := hp.c1
  have c2 := hp.c2
  unfold M.chosen M.b_chosen
  rw [runD_eq rfl]
  simp [pcD, chD, tI, mVar_eq, mDc_ap]
  have hd := dcL_at (tg := gN 8) (ek := mVar 8) (ev := mC (.int 0)) (vs := [8]) (m := fun _ => 0) (g := [.da (pcD c al), .da (chD s b v), .da (.int s), .da (.int b), .da (.int v), .da (.int c), .da (.tuple (al.map .int)), .no, .no, .no, .no, .no, .no, .no]) rfl al [] hp.asc fun x _ => ⟨_, rfl, rfl, rfl, rfl⟩
  simp only [pcD, chD, tI, List.nil_append, dl, List.map_nil] at hd
  rw [hd]
  simp [mVar_eq, fRg1_ap (n := c - b) (by omega) (by omega)]
  by_cases hk : 0 ≤ c - b
  · obtain ⟨z8, z9, z10, z11, z12, q⟩ := chosen_outer (P := pcD c al) (C := chD s b v) (s := s) (b := b) (v := v) (c := c) hl (by omega) (c - b).toNat
    rw [Int.toNat_of_nonneg hk] at q
    simp only [pcD, chD, tI, dl] at q
    rw [q]
    have hm : ∀ x ∈ al, 0 ≤ Cov.gr al b (fun _ => s - v) (fun _ => s) (c - b).toNat x ∧ Cov.gr al b (fun _ => s - v) (fun _ => s) (c - b).toNat x ≤ 30 := fun x hx => ⟨Cov.gr_ge, Int.le_trans (Cov.gr_le (fun _ _ => by omega) hx) (by omega)⟩
    obtain ⟨z8', q⟩ := found_loop (P := pcD c al) (C := chD s b v) (s := s) (b := b) (v := v) (c := c) (z9 := z9) (z10 := z10) (z11 := z11) (z12 := z12) hl _ hm z8
    simp only [pcD, chD, tI, dl] at q
    simp [mVar_eq]
    rw [q]
    simp [mMv_ap, lI]
  · have e : (c - b).toNat = 0 := by omega
    have e2 : rng 0 (c - b) = [] := by unfold rng; rw [show (c - b - 0).toNat = 0 by omega]; rfl
    rw [e, e2]
    obtain ⟨z8', q⟩ := found_loop (P := pcD c al) (C := chD s b v) (s := s) (b := b) (v := v) (c := c) (z9 := .no) (z10 := .no) (z11 := .no) (z12 := .no) hl (fun _ => 0) (fun _ _ => ⟨by decide, by decide⟩) .no
    simp only [pcD, chD, tI, dl] at q
    simp [mVar_eq, forL]
    rw [q]
    simp [mMv_ap, lI]
    rfl
theorem fewest_breaths (hp : ValidP c al) (hc : ValidC s b v) : M.fewest_breaths [pcD c al, chD s b v] = if en c al s b v then .ok (.int (places al (Cov.gr al b (fun _ => s - v) (fun _ => s) (c - b).toNat)).length) else .err "NotPossible" := by
  unfold M.fewest_breaths M.b_fewest_breaths
  rw [runD_eq rfl]
  cases he : en c al s b v <;> simp [mVar_eq, need_choir hp hc, enough hp hc, he, chosen hp hc, lI]
theorem sparing_plan (hp : ValidP c al) (hc : ValidC s b v) : M.sparing_plan [pcD c al, chD s b v] = if en c al s b v then .ok (.tuple ((dealOf s (places al (Cov.gr al b (fun _ => s - v) (fun _ => s) (c - b).toNat)) (rng 0 s)).map tI)) else .err "NotPossible" := by
  have hl := vp_len hp
  have h1 := hc.s1
  have h2 := hc.s2
  have h3 := hc.h1
  have hk := hc.h2
  unfold M.sparing_plan M.b_sparing_plan
  rw [runD_eq rfl]
  have hlen : (places al (Cov.gr al b (fun _ => s - v) (fun _ => s) (c - b).toNat)).length ≤ 4000 := by
    have := places_len (n := 30) (al := al) (m := Cov.gr al b (fun _ => s - v) (fun _ => s) (c - b).toNat) fun x hx => Int.le_trans (Cov.gr_le (fun _ _ => by omega) hx) (by omega)
    omega
  have hd := dealt (s := s) (ps := places al (Cov.gr al b (fun _ => s - v) (fun _ => s) (c - b).toNat)) (order := rng 0 s) h1 h2 hlen (fun x hx => by have := mem_rng.mp hx; omega) (fun _ z => by
    have := rng_len (a := 0) (b := s)
    rw [z] at this
    simp at this
    omega)
  have hr := rg?_ap (m := 0) (n := s) (by omega) (by omega) (by omega) (by omega) (by omega)
  have hch := chosen hp hc
  have hat : L2.atI [PyData.int s, PyData.int b, PyData.int v] 0 = some (.int s) := at_0
  cases he : en c al s b v
  · simp [mVar_eq, need_choir hp hc, enough hp hc, he]
  · simp [mVar_eq, need_choir hp hc, enough hp hc, he]
    simp [hch, lI, hr, hd]
end
end RD
/-! RL1: the laws' drawn numbers, pieces and choirs, read. -/
namespace RD
open PySem TL AL Q
theorem runO_eq {n np : Nat} {b : Bo} {c ds : List PyData} (hl : Nat.beq (ds.length + 1) np = true) : runO n np b c ds = (b (.ls 1 c :: (ds.map .da ++ List.replicate (n - 1 - ds.length) .no))).bind endO := by
  unfold runO
  rw [hl]
@[simp] theorem endO_rt {c : List PyData} {g : En} {s : SD} : endO (.rt (.ls 1 c :: g) s) = (R.of s.res).bind fun d => .ok (c, d) := rfl
@[simp] theorem endO_nx {c : List PyData} {g : En} : endO (.nx (.ls 1 c :: g)) = .ok (c, .none) := rfl
def DeckOk (k : Int) (ds : List PyData) : Prop := ∃ a b c : Int, ds = [.int a, .int b, .int c] ∧ 0 ≤ b ∧ b < 2147483579 ∧ 0 ≤ c ∧ c ≤ k
theorem DeckOk.mono {k l : Int} {ds : List PyData} (h : DeckOk k ds) (hl : k ≤ l) : DeckOk l ds := by
  obtain ⟨a, b, c, e, h1, h2, h3, h4⟩ := h
  exact ⟨a, b, c, e, h1, h2, h3, by omega⟩
theorem deck (n t : Int) (ht : 0 ≤ t) : ∃ ds, M.law_deck [.int n, .int t] = .ok (.list ds) ∧ DeckOk t ds := by
  have hp : powI (.int 10) (.int 18) = some (.int 1000000000000000000) := rfl
  by_cases h : (1000000000000000000 : Int) ≤ n
  · refine ⟨[.int (n - 1000000000000000000), .int (n % 2147483579), .int t], ?_, _, _, _, rfl, by omega, by omega, ht, Int.le_refl _⟩
    unfold M.law_deck M.b_law_deck
    rw [runD_eq rfl]
    simp [hp, h, modI_ap (m := n) (n := 2147483579) (by decide)]
  · refine ⟨[.int 0, .int (n % 2147483579), .int t], ?_, _, _, _, rfl, by omega, by omega, ht, Int.le_refl _⟩
    unfold M.law_deck M.b_law_deck
    rw [runD_eq rfl]
    simp [hp, h, modI_ap (m := n) (n := 2147483579) (by decide)]
theorem pick_ap {a b c L : Int} (hb : 0 ≤ b) (hb2 : b < 2147483579) (hc : 0 ≤ c) (hc2 : c ≤ 1000000) (hL : 0 < L) (hL2 : L ≤ 1000000) :
    ∃ a' c' r, M.law_pick [.int a, .int b, .int c] [.int L] = .ok ([.int a', .int b, .int c'], .int r) ∧ 0 ≤ r ∧ r < L ∧ c ≤ c' ∧ c' ≤ c + 1 := by
  by_cases h : (1 : Int) < a
  · refine ⟨a / L, c, a % L, ?_, Int.emod_nonneg _ (by omega), Int.emod_lt_of_pos _ hL, by omega, by omega⟩
    have h2 : L < 1073741824 := by omega
    simp [M.law_pick, M.b_law_pick, runO, mSeq, fNext, mIfS, mRet, mNext, mT, mOp, mV, mD, mVar, mC, mSet, mSetI, mBor, mBorT, frzE, SD.frz, SD.toD, noL, ownAt, SD.ls?, ixL, L2.atI, L2.ixN, int?, own1, endO, SD.res, isL, gtI, modI, divI, iop, iopC, R.bind, R.of, SD.bl?, h, hL, h2]
  · obtain ⟨d, hd⟩ : ∃ d, d = c + 1 := ⟨_, rfl⟩
    obtain ⟨x, hx⟩ : ∃ x, x = b + 15485867 * d := ⟨_, rfl⟩
    obtain ⟨y, hy⟩ : ∃ y, y = x ^ 5 % 2147483647 := ⟨_, rfl⟩
    obtain ⟨z, hz⟩ : ∃ z, z = y + 7919 * d := ⟨_, rfl⟩
    have y0 : 0 ≤ y := by rw [hy]; exact Int.emod_nonneg _ (by omega)
    have y1 : y < 2147483647 := by rw [hy]; exact Int.emod_lt_of_pos _ (by omega)
    refine ⟨a, d, (z ^ 3 % 2147483629 / 32) % L, ?_, Int.emod_nonneg _ (by omega), Int.emod_lt_of_pos _ hL, by omega, by omega⟩
    have h3 : ¬ (1000000 < L) := by omega
    have x1 : x.natAbs < 18446744073709551616 := by omega
    have z1 : z.natAbs < 18446744073709551616 := by omega
    have d1 : d < 18446744073709551616 := by omega
    have d2 : -18446744073709551616 < d := by omega
    simp [M.law_pick, M.b_law_pick, runO, mSeq, fNext, mIfS, mRet, mNext, mT, mOp, mV, mD, mVar, mC, mSet, mSetI, mBor, mBorT, frzE, SD.frz, SD.toD, noL, ownAt, SD.ls?, ixL, L2.atI, L2.ixN, int?, own1, endO, SD.res, isL, gtI, addI, mulI, modI, divI, powI, okMul, iop, iopC, R.bind, R.of, SD.bl?, h, hL, h3, ← hd, d1, d2, ← hx, x1, ← hy, ← hz, z1]
section
variable {k : Int} {ds : List PyData}
theorem pick {L : Int} (h : DeckOk k ds) (hk : k ≤ 1000000) (hL : 0 < L) (hL2 : L ≤ 1000000) : ∃ ds' r, M.law_pick ds [.int L] = .ok (ds', .int r) ∧ DeckOk (k + 1) ds' ∧ 0 ≤ r ∧ r < L := by
  obtain ⟨a, b, c, rfl, h1, h2, h3, h4⟩ := h
  obtain ⟨a', c', r, e, r1, r2, c1, c2⟩ := pick_ap (a := a) h1 h2 h3 (by omega) hL hL2
  exact ⟨_, r, e, ⟨a', b, c', rfl, h1, h2, by omega, by omega⟩, r1, r2⟩
theorem one {ns : List Int} (h : DeckOk k ds) (hk : k ≤ 1000000) (hn : ns ≠ []) (hn2 : ns.length ≤ 1000000) : ∃ ds' x, M.law_one ds [.list (ns.map .int)] = .ok (ds', .int x) ∧ DeckOk (k + 1) ds' ∧ x ∈ ns := by
  have hl : 0 < ns.length := List.length_pos_iff.mpr hn
  obtain ⟨ds', r, e, h2, r1, r2⟩ := pick (L := (ns.length : Int)) h hk (by omega) (by omega)
  have hr : r.toNat < ns.length := by omega
  refine ⟨ds', ns[r.toNat], ?_, h2, List.getElem_mem hr⟩
  unfold M.law_one M.b_law_one
  rw [runO_eq rfl]
  have ha := at_int (ds := ns.map PyData.int) (d := .int ns[r.toNat]) r1 (by rw [List.getElem?_map, List.getElem?_eq_getElem hr]; rfl)
  simp [e, ha]
theorem song {few many : Int} (h : DeckOk k ds) (hk : k ≤ 900000) (h1 : 1 ≤ few) (h2 : few ≤ many) (h3 : many ≤ 60) : ∃ ds' c al, M.law_song ds [.int few, .int many] = .ok (ds', pcD c al) ∧ DeckOk (k + 62) ds' ∧ ValidP c al ∧ few ≤ c ∧ c ≤ many := by
  obtain ⟨d1, r, e1, o1, r1, r2⟩ := pick (L := many - few + 1) h (by omega) (by omega) (by omega)
  obtain ⟨d2, ch, e2, o2, hch⟩ := one (ns := [1, 3, 8]) o1 (by omega) (by decide) (by decide)
  have e2 : M.law_one d1 [.list [.int 1, .int 3, .int 8]] = .ok (d2, .int ch) := e2
  have hch : ch = 1 ∨ ch = 3 ∨ ch = 8 := by simpa using hch
  have hlc := lcL_st (tg := gN 6) (t := mT (mOp gtI (mD (mCallO M.law_pick 0 (mCons (mOp addI (mVar 4) (mC (.int 1))) mNil))) (mC (.int 0)))) (e := mVar 6) (vs := [6]) PyData.int PyData.int
    (fun st : List PyData => [.ls 1 st, .da (.int few), .da (.int many), .da (.int (few + r)), .da (.int ch), .no, .no])
    (fun i st => DeckOk (k + 2 + i) st) (rng 0 (few + r)) 0 d2 (o2.mono (by omega)) (by
      intro i x hi st hs
      have hi2 := (List.getElem?_eq_some_iff.mp hi).1
      rw [rng_len] at hi2
      obtain ⟨d3, p, e3, o3, p1, p2⟩ := pick (L := ch + 1) hs (by omega) (by omega) (by omega)
      refine ⟨rfl, d3, o3.mono (by push_cast; omega), _, [.ls 1 d3, .da (.int few), .da (.int many), .da (.int (few + r)), .da (.int ch), .no, .da (.int x)], decide (0 < p), rfl, by simp [e3], ?_⟩
      by_cases hp : 0 < p
      · exact .inr ⟨by simp [hp], _, rfl, rfl⟩
      · exact .inl ⟨by simp [hp], rfl⟩)
  obtain ⟨d4, al, e4, sub, o4⟩ := hlc
  refine ⟨d4, few + r, al, ?_, o4.mono (by rw [rng_len]; omega), ⟨by omega, by omega, ?_, ?_, ?_⟩, by omega, by omega⟩
  · unfold M.law_song M.b_law_song
    rw [runO_eq rfl]
    have hf := fRg1_ap (n := few + r) (by omega) (by omega)
    simp [e1, e2, mLc, hf, e4, pcD, tI]
  · refine List.Pairwise.sublist sub ?_
    unfold rng
    rw [List.pairwise_map]
    exact List.pairwise_lt_range.imp fun h => by omega
  · intro x hx; have := mem_rng.mp (sub.subset hx); omega
  · intro x hx; have := mem_rng.mp (sub.subset hx); omega
theorem group {a b : Int} (h : DeckOk k ds) (hk : k ≤ 900000) (h1 : 1 ≤ a) (h2 : a ≤ 30) (h3 : 1 ≤ b) (h4 : b ≤ 60) : ∃ ds' s r v, M.law_group ds [.int a, .int b] = .ok (ds', chD s r v) ∧ DeckOk (k + 3) ds' ∧ ValidC s r v ∧ s ≤ a ∧ r ≤ b := by
  obtain ⟨d1, x, e1, o1, x1, x2⟩ := pick (L := a) h (by omega) (by omega) (by omega)
  obtain ⟨d2, y, e2, o2, y1, y2⟩ := pick (L := b) o1 (by omega) (by omega) (by omega)
  obtain ⟨d3, z, e3, o3, z1, z2⟩ := pick (L := 1 + x + 1) o2 (by omega) (by omega) (by omega)
  refine ⟨d3, 1 + x, 1 + y, z, ?_, o3.mono (by omega), ⟨by omega, by omega, by omega, by omega, by omega, by omega⟩, by omega, by omega⟩
  unfold M.law_group M.b_law_group
  rw [runO_eq rfl]
  simp [e1, e2, e3, chD]
end
theorem cells_cat (ns : List Int) (h : ns.length ≤ 63) : catL (.list [.int 0]) (.list (ns.map .int)) = some (.int 0 :: ns.map .int) := by
  show (if 1 + (ns.map PyData.int).length ≤ wee then _ else none) = _
  rw [if_pos (by rw [List.length_map]; exact Nat.le_trans (Nat.add_le_add_left h 1) (by decide))]
  rfl
theorem cells_cut (ns : List Int) (k : Nat) : cutD (.int 0 :: ns.map .int) none (some (k : Int)) = ((0 :: ns).take k).map .int := by
  have := TL.cutD_to (n := k) (ds := (0 :: ns).map PyData.int)
  rw [← List.map_take] at this
  exact this
end RD
/-! RL2: rows followed beat by beat, read where they are right. -/
namespace RD
open PySem TL AL Q
def heldAll (rows : List (List Int)) (before : List Int) (n t : Nat) : List Int := (List.range n).map fun j => Deal.held (Deal.row rows j) (before[j]?.getD 0) t
def breathing (rows : List (List Int)) (s t : Int) : List Int := (rng 0 s).filter fun j => decide (t ∈ Deal.row rows j.toNat)
structure RightP (c s b v : Int) (al : List Int) (rows : List (List Int)) (before : List Int) : Prop where
  len : (rows.length : Int) = s
  lenb : (before.length : Int) = s
  many : ∀ t, 0 ≤ t → t < c → v ≤ s - ((breathing rows s t).length : Nat)
  al : ∀ r ∈ rows, ∀ t ∈ r, t ∈ al
  held : ∀ j : Nat, (j : Int) < s → ∀ t : Nat, (t : Int) < c → Deal.held (Deal.row rows j) (before[j]?.getD 0) (t + 1) ≤ b
  asc : ∀ r ∈ rows, r.Pairwise (· < ·)
theorem row_mem {rows : List (List Int)} {j : Nat} (h : j < rows.length) : Deal.row rows j ∈ rows := by
  unfold Deal.row
  rw [List.getElem?_eq_getElem h]
  exact List.getElem_mem h
theorem rng_nat (n : Nat) : rng 0 n = (List.range n).map fun (i : Nat) => (i : Int) := by
  unfold rng
  rw [Int.sub_zero, Int.toNat_natCast]
  exact List.map_congr_left fun i _ => by omega
theorem mem_breathing {rows : List (List Int)} {s t x : Int} : x ∈ breathing rows s t ↔ 0 ≤ x ∧ x < s ∧ t ∈ Deal.row rows x.toNat := by
  unfold breathing
  rw [List.mem_filter, mem_rng, decide_eq_true_eq]
  constructor
  · rintro ⟨⟨a, b⟩, c⟩; exact ⟨a, b, c⟩
  · rintro ⟨a, b, c⟩; exact ⟨⟨a, b⟩, c⟩
theorem held_step {rows : List (List Int)} {before : List Int} {n : Nat} (t : Nat) :
    (heldAll rows before n t).zipIdx.map (fun z => if ((z.2 : Nat) : Int) ∈ breathing rows n t then 0 else z.1 + 1) = heldAll rows before n (t + 1) := by
  apply List.ext_getElem?
  intro j
  unfold heldAll
  rw [List.getElem?_map, List.getElem?_zipIdx, List.getElem?_map, List.getElem?_map]
  by_cases h : j < n
  · rw [List.getElem?_range h]
    simp only [Option.map_some, Nat.zero_add]
    congr 1
    have hm : ((j : Nat) : Int) ∈ breathing rows n t ↔ (t : Int) ∈ Deal.row rows j := by
      rw [mem_breathing, Int.toNat_natCast]
      exact ⟨fun z => z.2.2, fun z => ⟨by omega, by omega, z⟩⟩
    rw [Deal.held]
    by_cases q : (t : Int) ∈ Deal.row rows j
    · rw [if_pos (hm.mpr q), if_pos q]
    · rw [if_neg (fun z => q (hm.mp z)), if_neg q]
  · rw [List.getElem?_eq_none (by rw [List.length_range]; omega)]
    rfl
theorem sset_asc {ns : List Int} (h : ns.Pairwise (· < ·)) (hl : ns.length < 64) : sset? (.tuple (ns.map .int)) = some (ns.map .int) := by
  unfold sset?
  simp only [seq?_t, Option.bind_some, ints?_map, if_pos hl]
  rw [asc_eq (setI_asc (l := ns)) h fun x => mem_setI]
abbrev RS := List Int × SD × SD
theorem law_right {c s b v : Int} {al : List Int} {rows : List (List Int)} {before : List Int} (hp : ValidP c al) (hc : ValidC s b v) (h : RightP c s b v al rows before) :
    M.law_right [pcD c al, chD s b v, .tuple (rows.map tI), .tuple (before.map .int)] = .ok (.bool true) := by
  obtain ⟨s1, s2, b1, b2, v1, v2⟩ := hc
  have c1 := hp.c1
  have c2 := hp.c2
  have hn : s.toNat = rows.length := by have := h.len; omega
  have es : ((rows.length : Nat) : Int) = s := h.len
  unfold M.law_right M.b_law_right
  rw [runD_eq rfl]
  simp [isTup, es, fRg1_ap (n := c) (by omega) (by omega)]
  have hl := forL_ex (tg := gN 8) (bo := mSeq (mSet 9 (mV (mD (mLc (mIA fRg1 (mCons (mVar 4) mNil)) (gN 10) (mT (mOp (inI false) (mVar 8) (mOp ixT (mVar 2) (mVar 10)))) (mVar 10) [10])))) (mSeq (mIfS (mOr (mT (mOp ltI (mOp subI (mVar 4) (mCb fLen (mCons (mVar 9) mNil))) (mVar 6))) (mAnd (mT (mOp neD (mVar 9) (mD (mLst mNil)))) (mT (mOp (inI true) (mVar 8) (mOp ixT (mVar 0) (mC (.int 1))))))) (mSeq (mRet (mV (mC (.bool false)))) mNext) mNext) (mSeq (mSet 7 (mV (mD (mLc (mIA fEnum (mCons (mVar 7) mNil)) (g2 10 11) mYes (mD (mIf (mT (mOp (inI false) (mVar 10) (mVar 9))) (mV (mC (.int 0))) (mV (mOp addI (mVar 11) (mC (.int 1)))))) [10, 11])))) (mSeq (mIfS (mT (mOp gtI (mCb fMax (mCons (mVar 7) mNil)) (mVar 5))) (mSeq (mRet (mV (mC (.bool false)))) mNext) mNext) mNext))))
    PyData.int
    (fun st : RS => [.da (pcD c al), .da (chD s b v), .da (.tuple (rows.map tI)), .da (.tuple (before.map .int)), .da (.int s), .da (.int b), .da (.int v), .da (.list (st.1.map .int)), st.2.1, st.2.2, .no, .no, .no])
    (fun k st => st.1 = heldAll rows before rows.length k) (rng 0 c) 0 (before, .no, .no) (by
      show before = _
      unfold heldAll
      apply List.ext_getElem?
      intro j
      rw [List.getElem?_map]
      have hb : before.length = rows.length := by have := h.lenb; omega
      by_cases hj : j < rows.length
      · rw [List.getElem?_range hj, List.getElem?_eq_getElem (by omega)]
        simp only [Option.map_some, Deal.held]
        congr 1
        rw [List.getElem?_eq_getElem (by omega)]; rfl
      · rw [List.getElem?_eq_none (by omega), List.getElem?_eq_none (by rw [List.length_range]; omega)]
        rfl)
    (by
      rintro i x hi ⟨hs, z8, z9⟩ e
      have e : hs = heldAll rows before rows.length i := by rw [← Nat.zero_add i]; exact e
      have hi2 := (List.getElem?_eq_some_iff.mp hi).1
      rw [rng_len] at hi2
      have hx : x = (i : Int) := by rw [TL.rng_get hi]; omega
      subst hx
      have st := held_step (rows := rows) (before := before) (n := rows.length) i
      rw [es] at st
      have hmany := h.many i (by omega) (by omega)
      refine ⟨(heldAll rows before rows.length (i + 1), .da (.int (i : Int)), .da (.list ((breathing rows s i).map .int))), ?_, _, rfl, .inl ?_⟩
      · show _ = heldAll rows before rows.length (0 + i + 1)
        rw [Nat.zero_add]
      · simp
        rw [lc_at PyData.int (rng 0 s) (fun j => decide ((i : Int) ∈ Deal.row rows j.toNat)) PyData.int]
        · rw [show (rng 0 s).filter (fun j => decide ((i : Int) ∈ Deal.row rows j.toNat)) = breathing rows s i from rfl]
          have n1 : ¬ (s - ((breathing rows s i).length : Nat) < v) := by omega
          have n2 : breathing rows s i = [] ∨ (i : Int) ∈ al := by
            by_cases z : breathing rows s i = []
            · exact .inl z
            · obtain ⟨j, hj⟩ := List.exists_mem_of_ne_nil _ z
              obtain ⟨j0, j1, j2⟩ := mem_breathing.mp hj
              exact .inr (h.al _ (row_mem (by omega)) _ j2)
          have n3 : decide (breathing rows s i = []) = true ∨ (decide (breathing rows s i = []) = false ∧ decide ((i : Int) ∈ al) = true) := by
            by_cases z : breathing rows s i = []
            · exact .inl (by simp [z])
            · exact .inr ⟨by simp [z], by simpa using n2.resolve_left z⟩
          have hne : (heldAll rows before rows.length (i + 1)) ≠ [] := by
            intro z
            have := congrArg List.length z
            unfold heldAll at this
            simp at this
            rw [this] at es
            simp at es
            omega
          have hmax : ¬ (b < maxL (heldAll rows before rows.length (i + 1))) := by
            have hm := (maxL_mem hne).1
            generalize maxL (heldAll rows before rows.length (i + 1)) = y at hm ⊢
            obtain ⟨j, hj, rfl⟩ := List.mem_map.mp hm
            have hj := List.mem_range.mp hj
            have := h.held j (by omega) i (by omega)
            omega
          have hmx := fMax_ap hne
          have en := enumP_eq hs
          have fin : ∀ z8' : SD, (((mLc (mIA fEnum (mCons (mVar 7) mNil)) (g2 10 11) mYes (mD (mIf (mT (mOp (inI false) (mVar 10) (mVar 9))) (mV (mC (.int 0))) (mV (mOp addI (mVar 11) (mC (.int 1)))))) [10, 11]
              [.da (pcD c al), .da (chD s b v), .da (.tuple (rows.map tI)), .da (.tuple (before.map .int)), .da (.int s), .da (.int b), .da (.int v), .da (.list (hs.map .int)), .da (.int (i : Int)), .da (.list ((breathing rows s i).map .int)), .no, .no, .no])) =
              .ok ([.da (pcD c al), .da (chD s b v), .da (.tuple (rows.map tI)), .da (.tuple (before.map .int)), .da (.int s), .da (.int b), .da (.int v), .da (.list (hs.map .int)), .da (.int (i : Int)), .da (.list ((breathing rows s i).map .int)), .no, .no, .no], .ls 0 ((heldAll rows before rows.length (i + 1)).map .int))) := by
            intro _
            rw [lc_all (fun z : Int × Nat => PyData.tuple [.int (z.2 : Nat), .int z.1]) hs.zipIdx (fun z => .int (if ((z.2 : Nat) : Int) ∈ breathing rows s i then 0 else z.1 + 1))]
            · rw [← st, e, List.map_map]
              rfl
            · simp [en]
            · rfl
            · intro z _
              refine ⟨_, rfl, rfl, ?_⟩
              by_cases q : ((z.2 : Nat) : Int) ∈ breathing rows s i <;> simp [q]
          have fin := fin .no
          simp [n1]
          rcases n3 with z | ⟨z, z2⟩
          · rw [z]
            simp [fin, hmx, hmax]
          · rw [z, z2]
            simp [fin, hmx, hmax]
        · simp [fRg1_ap (n := s) (by omega) (by omega)]
        · rfl
        · intro j hj
          have hj := mem_rng.mp hj
          have hat : L2.atI (rows.map tI) j = some (tI (Deal.row rows j.toNat)) := at_int hj.1 (by unfold Deal.row; rw [List.getElem?_map, List.getElem?_eq_getElem (by omega)]; rfl)
          refine ⟨_, rfl, rfl, ?_, fun _ => rfl⟩
          simp [hat, tI])
  obtain ⟨⟨hs, z8, z9⟩, hl, _⟩ := hl
  rw [hl]
  simp
  rw [lc_at tI rows (fun _ => false) (fun _ => .int 1)]
  · have : rows.filter (fun _ => false) = [] := List.filter_eq_nil_iff.mpr fun _ _ => Bool.false_ne_true
    simp [this]
  · simp
  · rfl
  · intro r hr
    refine ⟨_, rfl, rfl, ?_, fun z => absurd z (by decide)⟩
    have ha := h.asc r hr
    have hlen : r.length ≤ 60 := by
      have := asc_len (a := 0) (c := c) ha (fun x hx => ⟨hp.lo x (h.al r hr x hx), hp.hi x (h.al r hr x hx)⟩) (by omega)
      omega
    have hss := sset_asc ha (by omega)
    simp [tI, hss]
    by_cases hz : r = []
    · subst hz; simp
    · have h0 : 0 < r.length := List.length_pos_iff.mpr hz
      have hlast := at_last (ds := r.map PyData.int) (by simpa using hz)
      have hm := List.getLast_mem hz
      have hb := hp.hi _ (h.al r hr _ hm)
      rw [List.getLast?_map, List.getLast?_eq_some_getLast hz] at hlast
      have n1 : ¬ (c ≤ r.getLast hz) := by omega
      simp only [Option.map_some] at hlast
      simp [h0, hlast, n1]
end RD
/-! RL3: values compared with their kinds, read. -/
namespace RD
open PySem TL AL Q
@[simp] theorem isBool_i {n : Int} : isBool (.int n) = false := rfl
@[simp] theorem isBool_b {z : Bool} : isBool (.bool z) = true := rfl
@[simp] theorem isBool_n : isBool .none = false := rfl
@[simp] theorem isBool_l {l : List PyData} : isBool (.list l) = false := rfl
@[simp] theorem isBool_t {l : List PyData} : isBool (.tuple l) = false := rfl
@[simp] theorem isInt_i {n : Int} : isInt (.int n) = true := rfl
@[simp] theorem isInt_n : isInt .none = false := rfl
@[simp] theorem isInt_l {l : List PyData} : isInt (.list l) = false := rfl
@[simp] theorem isInt_t {l : List PyData} : isInt (.tuple l) = false := rfl
@[simp] theorem isStr_n : isStr .none = false := rfl
@[simp] theorem isStr_l {l : List PyData} : isStr (.list l) = false := rfl
@[simp] theorem isStr_t {l : List PyData} : isStr (.tuple l) = false := rfl
@[simp] theorem isLst_n : isLst .none = false := rfl
@[simp] theorem isLst_l {l : List PyData} : isLst (.list l) = true := rfl
@[simp] theorem isLst_t {l : List PyData} : isLst (.tuple l) = false := rfl
@[simp] theorem isTup_n : isTup .none = false := rfl
@[simp] theorem isTup_t {l : List PyData} : isTup (.tuple l) = true := rfl
@[simp] theorem fEnumE_l {ds : List PyData} : fEnumE [.list ds] = some (enumP ds) := rfl
@[simp] theorem fEnumE_t {ds : List PyData} : fEnumE [.tuple ds] = some (enumP ds) := rfl
@[simp] theorem ixE_l {ds : List PyData} : ixE (.list ds) (.int m) = L2.atI ds m := rfl
@[simp] theorem ixE_t {ds : List PyData} : ixE (.tuple ds) (.int m) = L2.atI ds m := rfl
theorem sort_i {n : Int} : M.law_sort [.int n] = .ok (.int 2) := by unfold M.law_sort M.b_law_sort; rw [runD_eq rfl]; simp
theorem sort_b {z : Bool} : M.law_sort [.bool z] = .ok (.int 1) := by unfold M.law_sort M.b_law_sort; rw [runD_eq rfl]; simp
theorem sort_n : M.law_sort [.none] = .ok (.int 6) := by unfold M.law_sort M.b_law_sort; rw [runD_eq rfl]; simp
theorem sort_l {l : List PyData} : M.law_sort [.list l] = .ok (.int 4) := by unfold M.law_sort M.b_law_sort; rw [runD_eq rfl]; simp
theorem sort_t {l : List PyData} : M.law_sort [.tuple l] = .ok (.int 5) := by unfold M.law_sort M.b_law_sort; rw [runD_eq rfl]; simp
@[simp] theorem eqD_b {x y : Bool} : eqD (.bool x) (.bool y) = some (.bool (decide (x = y))) := eqD_ap (n1 := 0) (n2 := 0) sh_bool sh_bool (by decide) (by decide) (by simp only [PyData.eqv]; cases x <;> cases y <;> rfl)
theorem same_i_at {k : Nat} {m n : Int} : M.law_same_at (k + 1) [.int m, .int n] = .ok (.bool (decide (m = n))) := by
  unfold M.law_same_at M.b_law_same
  rw [runD_eq rfl]
  simp [sort_i]
theorem same_b_at {k : Nat} {x y : Bool} : M.law_same_at (k + 1) [.bool x, .bool y] = .ok (.bool (decide (x = y))) := by
  unfold M.law_same_at M.b_law_same
  rw [runD_eq rfl]
  simp [sort_b]
theorem same_i {m n : Int} : M.law_same [.int m, .int n] = .ok (.bool (decide (m = n))) := same_i_at
theorem same_b {x y : Bool} : M.law_same [.bool x, .bool y] = .ok (.bool (decide (x = y))) := same_b_at
/-- equal lists of ints are the same -/
theorem same_l {ns : List Int} : M.law_same [.list (ns.map .int), .list (ns.map .int)] = .ok (.bool true) := by
  show M.law_same_at (5 + 1) _ = _
  unfold M.law_same_at M.b_law_same
  rw [runD_eq rfl]
  simp [sort_l, enumP_eq]
  rw [lc_at (fun z : Int × Nat => PyData.tuple [.int (z.2 : Nat), .int z.1]) ns.zipIdx (fun _ => false) (fun z => .int (z.2 : Nat))]
  · have : ns.zipIdx.filter (fun _ => false) = [] := List.filter_eq_nil_iff.mpr fun _ _ => Bool.false_ne_true
    simp [this]
  · simp [enumP_eq]
  · rfl
  · rintro ⟨x, i⟩ hz
    refine ⟨_, rfl, rfl, ?_, fun z => absurd z (by decide)⟩
    have hi : ns[i]? = some x := by
      have := List.mem_zipIdx_iff_getElem?.mp hz
      simpa using this
    have := at_nat (ds := ns.map PyData.int) (n := i) (d := .int x) (by rw [List.getElem?_map, hi]; rfl)
    simp [this, same_i_at]
end RD
/-! RR: dealt places are right. -/
namespace RD
open PySem TL AL Q
theorem rngAsc {a b : Int} : (rng a b).Pairwise (· < ·) := by
  unfold rng
  rw [List.pairwise_map]
  exact List.pairwise_lt_range.imp fun h => by omega
theorem ordN_lt {s : Int} {order : List Int} (hs : 1 ≤ s) (ho : ∀ x ∈ order, 0 ≤ x ∧ x < s) (i : Nat) : ordN order i < s.toNat := by
  unfold ordN
  cases e : order[i % order.length]? with
  | none => show (0 : Int).toNat < _; omega
  | some x =>
    have := ho x (List.mem_of_getElem? e)
    show x.toNat < _
    omega
theorem dealOf_len {s : Int} {ps order : List Int} : (dealOf s ps order).length = s.toNat := by
  unfold dealOf
  rw [Deal.deal_len, List.length_replicate]
theorem range_breathing {rows : List (List Int)} {s t : Int} : (breathing rows s t).length = ((List.range s.toNat).filter fun j => decide (t ∈ Deal.row rows j)).length := by
  unfold breathing rng
  rw [List.filter_map, List.length_map, Int.sub_zero]
  congr 1
  refine List.filter_congr fun i _ => ?_
  show decide (t ∈ Deal.row rows (0 + (i : Int)).toNat) = _
  rw [show (0 + (i : Int)).toNat = i by omega]
theorem right_deal {c s b v : Int} {al : List Int} {ps order before : List Int} (hp : ValidP c al) (hc : ValidC s b v) (asc : ps.Pairwise (· ≤ ·)) (hal : ∀ x ∈ ps, x ∈ al) (hcnt : ∀ t, (ps.count t : Int) ≤ s - v)
    (ho : ∀ x ∈ order, 0 ≤ x ∧ x < s) (nd : order.Nodup) (hq : ∀ t, ps.count t ≤ order.length) (hb : (before.length : Int) = s) (hb0 : ∀ j : Nat, 0 ≤ before[j]?.getD 0)
    (H1 : ∀ (k : Nat) (j : Int), order[k]? = some j → ∃ x, ps[k]? = some x ∧ x ≤ b - before[j.toNat]?.getD 0)
    (H2 : ∀ a, 0 ≤ a → a + b < c → ps.countP (fun y => decide (y < a)) + order.length ≤ ps.countP (fun y => decide (y < a + b + 1)))
    (H3 : ∀ j : Nat, (j : Int) < s → (j : Int) ∉ order → c + before[j]?.getD 0 ≤ b) : RightP c s b v al (dealOf s ps order) before := by
  have s1 := hc.s1
  have hlt := ordN_lt s1 ho
  have hlen : (dealOf s ps order).length = s.toNat := dealOf_len
  have hrow : ∀ r ∈ dealOf s ps order, ∃ j, r = Deal.row (dealOf s ps order) j := fun r hr => by
    obtain ⟨j, hj⟩ := List.getElem?_of_mem hr
    exact ⟨j, by unfold Deal.row; rw [hj]; rfl⟩
  have hmem : ∀ {j : Nat} {t : Int}, t ∈ Deal.row (dealOf s ps order) j ↔ ∃ i, ps[i]? = some t ∧ ordN order i = j := Deal.mem_row hlt
  refine ⟨by rw [hlen]; omega, hb, fun t t0 t1 => ?_, fun r hr t ht => ?_, fun j hj t ht => ?_, fun r hr => ?_⟩
  · rw [range_breathing]
    have h1 := Deal.rows_with hlt t ps
    have h2 := hcnt t
    have h3 : ((List.range s.toNat).filter fun j => decide (t ∈ Deal.row (dealOf s ps order) j)).length ≤ ps.count t := h1
    omega
  · obtain ⟨j, rfl⟩ := hrow r hr
    obtain ⟨i, hi, _⟩ := hmem.mp ht
    exact hal _ (List.mem_of_getElem? hi)
  · by_cases hjo : (j : Int) ∈ order
    · obtain ⟨k, hk⟩ := List.getElem?_of_mem hjo
      obtain ⟨x, hx, hxb⟩ := H1 k j hk
      rw [Int.toNat_natCast] at hxb
      have hkl := (List.getElem?_eq_some_iff.mp hk).1
      have ek : ordN order k = j := by
        unfold ordN
        rw [Nat.mod_eq_of_lt hkl, hk]
        exact Int.toNat_natCast j
      have hx0 : 0 ≤ x := hp.lo x (hal x (List.mem_of_getElem? hx))
      refine Deal.held_ok (hb0 j) ?_
      by_cases h1 : before[j]?.getD 0 + ((t : Int) + 1) ≤ b
      · exact .inl h1
      · refine .inr ?_
        by_cases h2 : (t : Int) ≤ x + b
        · exact ⟨x, hmem.mpr ⟨k, hx, ek⟩, hx0, by omega, h2⟩
        · have h3 := H2 ((t : Int) - b) (by omega) (by omega)
          obtain ⟨i, y, e1, e2, e3, e4⟩ := Deal.each_in (k := k) asc (by omega) hkl (by have := hc.b1; omega) h3
          refine ⟨y, hmem.mpr ⟨i, e1, ?_⟩, by omega, by omega, by omega⟩
          unfold ordN
          rw [e2, hk]
          exact Int.toNat_natCast j
    · refine Deal.held_ok (hb0 j) (.inl ?_)
      have := H3 j hj hjo
      omega
  · obtain ⟨j, rfl⟩ := hrow r hr
    refine Deal.row_asc hlt fun i i' x y hi he hx hy => ?_
    have hql : 0 < order.length := by
      have h1 := hq x
      have : 0 < ps.count x := List.count_pos_iff.mpr (List.mem_of_getElem? hx)
      omega
    have m1 := Nat.mod_lt i hql
    have m2 := Nat.mod_lt i' hql
    have : i % order.length = i' % order.length := by
      have e : order[i % order.length].toNat = order[i' % order.length].toNat := by
        unfold ordN at he
        rw [List.getElem?_eq_getElem m1, List.getElem?_eq_getElem m2] at he
        exact he
      have o1 := ho _ (List.getElem_mem m1)
      have o2 := ho _ (List.getElem_mem m2)
      have e2 : order[i % order.length] = order[i' % order.length] := by omega
      exact (List.getElem?_inj m1 nd).mp (by rw [List.getElem?_eq_getElem m1, List.getElem?_eq_getElem m2, e2])
    refine Deal.apart asc hq i i' x y ?_ hx hy
    have d1 := Nat.div_add_mod i order.length
    have d2 := Nat.div_add_mod i' order.length
    have d3 : i / order.length < i' / order.length := by
      refine Nat.lt_of_not_le fun z => ?_
      have := Nat.mul_le_mul_left order.length z
      omega
    have := Nat.mul_le_mul_left order.length d3
    rw [Nat.succ_eq_add_one, Nat.mul_add, Nat.mul_one] at this
    omega
/-! ### places told by m -/
section
variable {al : List Int} {m : Int → Int}
theorem mem_places {x : Int} : x ∈ places al m → x ∈ al := by
  intro h
  obtain ⟨y, hy, hx⟩ := List.mem_flatMap.mp h
  rw [(List.mem_replicate.mp hx).2]
  exact hy
theorem places_asc : ∀ {al : List Int}, al.Pairwise (· < ·) → (places al m).Pairwise (· ≤ ·)
  | [], _ => .nil
  | x :: r, h => by
    obtain ⟨h1, h2⟩ := List.pairwise_cons.mp h
    show (List.replicate (m x).toNat x ++ places r m).Pairwise (· ≤ ·)
    refine List.pairwise_append.mpr ⟨List.pairwise_replicate.mpr (.inr (Int.le_refl x)), places_asc h2, fun a ha b hb => ?_⟩
    rw [(List.mem_replicate.mp ha).2]
    exact Int.le_of_lt (h1 b (mem_places hb))
theorem places_countP (p : Int → Bool) (h0 : ∀ x ∈ al, 0 ≤ m x) : ((places al m).countP p : Int) = Cov.sm al p m := by
  induction al with
  | nil => rfl
  | cons x r ih =>
    have ih := ih fun y hy => h0 y (List.mem_cons_of_mem _ hy)
    have hx := h0 x List.mem_cons_self
    show (((List.replicate (m x).toNat x ++ places r m).countP p : Nat) : Int) = _
    rw [List.countP_append, Cov.sm_cons, ← ih, List.countP_replicate]
    split <;> push_cast <;> omega
theorem places_length (h0 : ∀ x ∈ al, 0 ≤ m x) : ((places al m).length : Int) = (al.map m).sum := by
  have := places_countP (fun _ => true) h0
  rw [List.countP_true] at this
  rw [this]
  unfold Cov.sm
  rw [filter_yes]
theorem places_count (nd : al.Pairwise (· < ·)) (h0 : ∀ x ∈ al, 0 ≤ m x) {t : Int} {q : Int} (hq0 : 0 ≤ q) (hq : ∀ x ∈ al, m x ≤ q) : ((places al m).count t : Int) ≤ q := by
  induction al with
  | nil => exact hq0
  | cons x r ih =>
    obtain ⟨h1, h2⟩ := List.pairwise_cons.mp nd
    have hx := h0 x List.mem_cons_self
    have hxq := hq x List.mem_cons_self
    show (((List.replicate (m x).toNat x ++ places r m).count t : Nat) : Int) ≤ _
    rw [List.count_append, List.count_replicate]
    by_cases e : x = t
    · subst e
      have : (places r m).count x = 0 := List.count_eq_zero.mpr fun z => by have := h1 x (mem_places z); omega
      rw [this]
      simp
      omega
    · have ih := ih h2 (fun y hy => h0 y (List.mem_cons_of_mem _ hy)) fun y hy => hq y (List.mem_cons_of_mem _ hy)
      have : (x == t) = false := by simpa using e
      rw [this]
      simp
      exact ih
end
/-- fresh singers, places told by m, dealt in order -/
theorem right_fresh {c s b v : Int} {al : List Int} {m : Int → Int} (hp : ValidP c al) (hc : ValidC s b v) (h0 : ∀ x ∈ al, 0 ≤ m x ∧ m x ≤ s - v) (hcb : b < c)
    (H : ∀ a, 0 ≤ a → a + b < c → s ≤ Cov.sm al (Cov.btw a (a + b + 1)) m) : RightP c s b v al (dealOf s (places al m) (rng 0 s)) (List.replicate s.toNat 0) := by
  have s1 := hc.s1
  have v1 := hc.h1
  have v2 := hc.h2
  have b1 := hc.b1
  have m0 : ∀ x ∈ al, 0 ≤ m x := fun x hx => (h0 x hx).1
  have hrl : (rng 0 s).length = s.toNat := by rw [rng_len, Int.sub_zero]
  have hcount := fun t => places_count (t := t) hp.asc m0 (q := s - v) (by omega) fun x hx => (h0 x hx).2
  have hz : ∀ j : Nat, (List.replicate s.toNat (0 : Int))[j]?.getD 0 = 0 := fun j => by
    rw [List.getElem?_replicate]
    split <;> rfl
  have hw : ∀ a, 0 ≤ a → a + b < c → (places al m).countP (fun y => decide (y < a)) + s.toNat ≤ (places al m).countP (fun y => decide (y < a + b + 1)) := fun a a0 a1 => by
    have h1 := places_countP (al := al) (m := m) (Cov.below a) m0
    have h2 := places_countP (al := al) (m := m) (Cov.below (a + b + 1)) m0
    have h3 := Cov.sm_cut (al := al) (f := m) (a := a) (e := a + b + 1) (by omega)
    have h4 := H a a0 a1
    have e1 : (places al m).countP (fun y => decide (y < a)) = (places al m).countP (Cov.below a) := rfl
    have e2 : (places al m).countP (fun y => decide (y < a + b + 1)) = (places al m).countP (Cov.below (a + b + 1)) := rfl
    rw [e1, e2]
    omega
  refine right_deal hp hc (places_asc hp.asc) (fun x => mem_places) hcount (fun x hx => mem_rng.mp hx) ?_ (fun t => ?_) (by rw [List.length_replicate]; omega) (fun j => by rw [hz]; exact Int.le_refl 0) (fun k j hk => ?_) (fun a a0 a1 => by rw [hrl]; exact hw a a0 a1) fun j hj hn => absurd (mem_rng.mpr ⟨by omega, hj⟩) hn
  · exact rngAsc.imp fun h => by omega
  · rw [hrl]
    have := hcount t
    omega
  · have hkl := (List.getElem?_eq_some_iff.mp hk).1
    rw [hrl] at hkl
    have h2 := hw 0 (Int.le_refl 0) (by omega)
    have h3 : (places al m).countP (fun y => decide (y < 0)) = 0 := List.countP_eq_zero.mpr fun x hx => by
      have := hp.lo x (mem_places hx)
      simp; omega
    rw [h3, Nat.zero_add] at h2
    have hlen := List.countP_le_length (p := fun y => decide (y < 0 + b + 1)) (l := places al m)
    have hl : k < (places al m).length := by omega
    refine ⟨_, List.getElem?_eq_getElem hl, ?_⟩
    have := (Deal.asc_count (a := 0 + b + 1) (places_asc hp.asc) (List.getElem?_eq_getElem hl)).mp (by omega)
    rw [hz]
    omega
end RD
/-! Cov2: filled from the other end; one singer alone. -/
namespace Cov
theorem fill_map {r : Int → Int} (hr : ∀ x, r (r x) = x) {c : Int → Int} : ∀ (l : List Int) (lack : Int) (m : Int → Int), fill (fun x => c (r x)) (l.map r) lack (fun x => m (r x)) = fun x => fill c l lack m (r x)
  | [], _, _ => rfl
  | x :: l, lack, m => by
    rw [List.map_cons, fill, fill]
    have e1 : more (fun x => c (r x)) (fun x => m (r x)) lack (r x) = more c m lack x := by unfold more; simp only [hr]
    have e2 : upd (fun x => m (r x)) (r x) (m (r (r x)) + more c m lack x) = fun y => upd m x (m x + more c m lack x) (r y) := by
      funext y
      unfold upd
      rw [hr]
      by_cases h : y = r x
      · rw [if_pos h, if_pos (by rw [h, hr])]
      · rw [if_neg h, if_neg fun z => h (by rw [← z, hr])]
    rw [e1, e2]
    exact fill_map hr l _ _
/-- filled from the last stretch on, each as early as can be -/
def fl (al : List Int) (b : Int) (c D : Int → Int) (K : Nat) : Nat → Int → Int
  | 0 => fun _ => 0
  | j + 1 => fill c (inside al b (K - 1 - j)) (D (K - 1 - j) - ((inside al b (K - 1 - j)).map (fl al b c D K j)).sum) (fl al b c D K j)
def flip (N : Int) (al : List Int) : List Int := (al.map fun x => N - x).reverse
section
variable {al : List Int} {b : Int} {c D : Int → Int} {K : Nat} {N : Int}
theorem flip_asc (h : al.Pairwise (· < ·)) : (flip N al).Pairwise (· < ·) := by
  unfold flip
  rw [List.pairwise_reverse, List.pairwise_map]
  exact h.imp fun h => by omega
theorem mem_flip {x : Int} : x ∈ flip N al ↔ N - x ∈ al := by
  unfold flip
  rw [List.mem_reverse, List.mem_map]
  constructor
  · rintro ⟨y, hy, e⟩
    rw [show N - x = y by omega]; exact hy
  · intro h
    exact ⟨N - x, h, by omega⟩
theorem flip_inside {a a' : Int} (h : a + a' = N - b) : inside (flip N al) b a' = flip N (inside al b a) := by
  unfold inside flip
  rw [List.filter_reverse, List.filter_map]
  congr 2
  refine List.filter_congr fun x _ => ?_
  show btw a' (a' + b + 1) (N - x) = btw a (a + b + 1) x
  unfold btw
  rw [Bool.eq_iff_iff, Bool.and_eq_true, Bool.and_eq_true, decide_eq_true_eq, decide_eq_true_eq, decide_eq_true_eq, decide_eq_true_eq]
  omega
theorem flip_sum (l : List Int) (f : Int → Int) : ((flip N l).map fun x => f (N - x)).sum = (l.map f).sum := by
  unfold flip
  rw [List.map_reverse, sum_reverse, List.map_map]
  exact sum_congr fun x _ => by show f (N - (N - x)) = f x; rw [show N - (N - x) = x by omega]
theorem flip_sm {a a' : Int} (h : a + a' = N - b) (f : Int → Int) : sm (flip N al) (btw a' (a' + b + 1)) (fun x => f (N - x)) = sm al (btw a (a + b + 1)) f := by
  rw [← sm_inside, flip_inside h, flip_sum, sm_inside]
theorem gr_flip (hN : N = K - 1 + b) : ∀ j, j ≤ K → gr (flip N al) b (fun x => c (N - x)) (fun a => D (K - 1 - a)) j = fun x => fl al b c D K j (N - x)
  | 0, _ => rfl
  | j + 1, h => by
    have ih := gr_flip hN j (by omega)
    rw [gr, ih, step, flip_inside (a := K - 1 - j) (by omega), flip_sum]
    have e : (flip N (inside al b (K - 1 - j))).reverse = (inside al b (K - 1 - j)).map fun x => N - x := by unfold flip; rw [List.reverse_reverse]
    rw [e, fill_map (r := fun x => N - x) (fun x => by show N - (N - x) = x; omega)]
    rfl
theorem fl_ge (hN : N = K - 1 + b) {x : Int} : 0 ≤ fl al b c D K K x := by
  have := gr_ge (al := flip N al) (b := b) (c := fun x => c (N - x)) (D := fun a => D (K - 1 - a)) (k := K) (x := N - x)
  rw [gr_flip hN K (Nat.le_refl K)] at this
  have this : 0 ≤ fl al b c D K K (N - (N - x)) := this
  rwa [show N - (N - x) = x by omega] at this
theorem fl_le (hN : N = K - 1 + b) (hc : ∀ x ∈ al, 0 ≤ c x) {x : Int} (hx : x ∈ al) : fl al b c D K K x ≤ c x := by
  have := gr_le (al := flip N al) (b := b) (c := fun x => c (N - x)) (D := fun a => D (K - 1 - a)) (k := K) (x := N - x) (fun y hy => hc _ (mem_flip.mp hy)) (mem_flip.mpr (by rw [show N - (N - x) = x by omega]; exact hx))
  rw [gr_flip hN K (Nat.le_refl K)] at this
  have this : fl al b c D K K (N - (N - x)) ≤ c (N - (N - x)) := this
  rwa [show N - (N - x) = x by omega] at this
theorem fl_out {x : Int} (h : x ∉ al) : ∀ j, fl al b c D K j x = 0
  | 0 => rfl
  | j + 1 => by rw [fl, fill_out fun z => h (mem_inside.mp z).1]; exact fl_out h j
theorem fl_has (hN : N = K - 1 + b) (ha : al.Pairwise (· < ·)) (hc : ∀ x ∈ al, 0 ≤ c x) (hD : ∀ a : Nat, a < K → D a ≤ sm al (btw a (a + b + 1)) c) (a : Nat) (h : a < K) : D a ≤ sm al (btw a (a + b + 1)) (fl al b c D K K) := by
  have := gr_has (al := flip N al) (b := b) (c := fun x => c (N - x)) (D := fun a => D (K - 1 - a)) (flip_asc ha) (fun y hy => hc _ (mem_flip.mp hy)) (k := K) (fun a' h' => by
    rw [flip_sm (a := ((K - 1 - a' : Nat) : Int)) (by omega)]
    have := hD (K - 1 - a') (by omega)
    rw [show ((K : Int) - 1 - (a' : Int)) = ((K - 1 - a' : Nat) : Int) by omega]
    exact this) (K - 1 - a) (by omega)
  rw [gr_flip hN K (Nat.le_refl K)] at this
  have this : D (K - 1 - ((K - 1 - a : Nat) : Int)) ≤ sm (flip N al) (btw ((K - 1 - a : Nat) : Int) (((K - 1 - a : Nat) : Int) + b + 1)) (fun x => fl al b c D K K (N - x)) := this
  rw [flip_sm (a := (a : Int)) (by omega)] at this
  rwa [show ((K : Int) - 1 - ((K - 1 - a : Nat) : Int)) = (a : Int) by omega] at this
theorem sm_all {f : Int → Int} {t : Int} (h : ∀ x ∈ al, x < t) : sm al (below t) f = (al.map f).sum := by
  unfold sm
  rw [List.filter_eq_self.mpr fun x hx => by simpa [below] using h x hx]
theorem fl_least {F : Int → Int} (hb : 0 ≤ b) (hN : N = K - 1 + b) (ha : al.Pairwise (· < ·)) (h0 : ∀ x ∈ al, 0 ≤ x) (hc : ∀ x ∈ al, 0 ≤ c x) (hF : ∀ x ∈ al, 0 ≤ F x ∧ F x ≤ c x) (hW : ∀ a : Nat, a < K → D a ≤ sm al (btw a (a + b + 1)) F) :
    (al.map (fl al b c D K K)).sum ≤ (al.map F).sum := by
  have := gr_least (al := flip N al) (b := b) (c := fun x => c (N - x)) (D := fun a => D (K - 1 - a)) (F := fun x => F (N - x)) hb (flip_asc ha) (fun y hy => hc _ (mem_flip.mp hy)) (fun y hy => hF _ (mem_flip.mp hy)) (k := K) (fun a' h' => by
    rw [flip_sm (a := ((K - 1 - a' : Nat) : Int)) (by omega)]
    have := hW (K - 1 - a') (by omega)
    rw [show ((K : Int) - 1 - (a' : Int)) = ((K - 1 - a' : Nat) : Int) by omega]
    exact this) (N + 1)
  have hl : ∀ x ∈ flip N al, x < N + 1 := fun x hx => by have := h0 _ (mem_flip.mp hx); omega
  rw [sm_all hl, sm_all hl, gr_flip hN K (Nat.le_refl K), flip_sum, flip_sum] at this
  exact this
theorem gr_total {F : Int → Int} {n : Int} (hb : 0 ≤ b) (ha : al.Pairwise (· < ·)) (h1 : ∀ x ∈ al, x < n) (hc : ∀ x ∈ al, 0 ≤ c x) (hF : ∀ x ∈ al, 0 ≤ F x ∧ F x ≤ c x) (hW : ∀ a : Nat, a < K → D a ≤ sm al (btw a (a + b + 1)) F) :
    (al.map (gr al b c D K)).sum ≤ (al.map F).sum := by
  have := gr_least (D := D) hb ha hc hF hW n
  rwa [sm_all h1, sm_all h1] at this
/-- both are least -/
theorem both_least {n : Int} (hb : 0 ≤ b) (ha : al.Pairwise (· < ·)) (h0 : ∀ x ∈ al, 0 ≤ x) (h1 : ∀ x ∈ al, x < n) (hc : ∀ x ∈ al, 0 ≤ c x) (hD : ∀ a : Nat, a < K → D a ≤ sm al (btw a (a + b + 1)) c) :
    (al.map (gr al b c D K)).sum = (al.map (fl al b c D K K)).sum := by
  refine Int.le_antisymm ?_ ?_
  · exact gr_total (n := n) hb ha h1 hc (fun x hx => ⟨fl_ge rfl, fl_le rfl hc hx⟩) fun a h => fl_has rfl ha hc hD a h
  · exact fl_least hb rfl ha h0 hc (fun x hx => ⟨gr_ge, gr_le hc hx⟩) (gr_has ha hc hD)
end
/-! ### one singer alone -/
inductive Chain (al : List Int) (n b : Int) : Int → List Int → Prop
  | nil {last : Int} : n - last - 1 ≤ b → Chain al n b last []
  | cons {last x : Int} {xs : List Int} : b < n - last - 1 → x ∈ al → last < x → x ≤ last + b + 1 → (∀ y ∈ al, y ≤ last + b + 1 → y ≤ x) → Chain al n b x xs → Chain al n b last (x :: xs)
section
variable {al : List Int} {n b s : Int}
theorem Chain.lower {F : Int → Int} (hb : 0 ≤ b) (hF : ∀ x ∈ al, 0 ≤ F x) (hW : ∀ a, 0 ≤ a → a + b < n → s ≤ sm al (btw a (a + b + 1)) F) {last : Int} {xs : List Int} (h : Chain al n b last xs) (hl : -1 ≤ last) : s * xs.length ≤ sm al (fun x => decide (last < x)) F := by
  induction h with
  | nil _ => simp; exact sm_nonneg fun x hx _ => hF x hx
  | @cons last x xs h1 h2 h3 h4 h5 h6 ih =>
    have ih := ih (by omega)
    have h7 := hW (last + 1) (by omega) (by omega)
    have h8 : sm al (btw (last + 1) (last + 1 + b + 1)) F ≤ sm al (fun y => decide (last < y) && decide (y ≤ x)) F := by
      rw [show sm al (fun y => decide (last < y) && decide (y ≤ x)) F = sm al (btw (last + 1) (last + 1 + b + 1)) F from sm_pred fun y hy => ?_]
      · exact Int.le_refl _
      · unfold btw
        rw [Bool.eq_iff_iff, Bool.and_eq_true, Bool.and_eq_true, decide_eq_true_eq, decide_eq_true_eq, decide_eq_true_eq, decide_eq_true_eq]
        have := h5 y hy
        omega
    have h9 : sm al (fun y => decide (last < y)) F = sm al (fun y => decide (last < y) && decide (y ≤ x)) F + sm al (fun y => decide (x < y)) F := by
      refine sm_split (fun y _ => ?_) fun y _ a b => ?_
      · rw [Bool.eq_iff_iff, Bool.or_eq_true, Bool.and_eq_true, decide_eq_true_eq, decide_eq_true_eq, decide_eq_true_eq]
        omega
      · rw [Bool.and_eq_true, decide_eq_true_eq, decide_eq_true_eq] at a
        rw [decide_eq_true_eq] at b
        omega
    rw [List.length_cons, h9]
    push_cast
    rw [Int.mul_add, Int.mul_one]
    omega
theorem Chain.mem {last : Int} {xs : List Int} (h : Chain al n b last xs) : ∀ x ∈ xs, x ∈ al ∧ last < x := by
  induction h with
  | nil _ => exact fun _ h => nomatch h
  | @cons last x xs h1 h2 h3 h4 h5 h6 ih =>
    intro y hy
    rcases List.mem_cons.mp hy with e | e
    · exact e ▸ ⟨h2, h3⟩
    · have := ih y e
      exact ⟨this.1, by omega⟩
theorem Chain.asc {last : Int} {xs : List Int} (h : Chain al n b last xs) : xs.Pairwise (· < ·) := by
  induction h with
  | nil _ => exact .nil
  | @cons last x xs h1 h2 h3 h4 h5 h6 ih => exact List.pairwise_cons.mpr ⟨fun y hy => (h6.mem y hy).2, ih⟩
theorem Chain.hit {last : Int} {xs : List Int} (h : Chain al n b last xs) : ∀ a, last < a → a + b < n → ∃ x ∈ xs, a ≤ x ∧ x < a + b + 1 := by
  induction h with
  | nil h => intro a h1 h2; omega
  | @cons last x xs h1 h2 h3 h4 h5 h6 ih =>
    intro a ha hab
    by_cases hx : a ≤ x
    · exact ⟨x, List.mem_cons_self, hx, by omega⟩
    · obtain ⟨y, hy, z⟩ := ih a (by omega) hab
      exact ⟨y, List.mem_cons_of_mem _ hy, z⟩
def pick (s : Int) (xs : List Int) (x : Int) : Int := if x ∈ xs then s else 0
theorem sum_pick (hs : 0 ≤ s) : ∀ {al xs : List Int}, al.Nodup → ((al.map (pick s xs)).sum ≤ s * xs.length)
  | al, [], _ => by
    have : ∀ l : List Int, (l.map (pick s [])).sum = 0 := fun l => by
      induction l with
      | nil => rfl
      | cons x r ih =>
        rw [List.map_cons, List.sum_cons, ih]
        rfl
    rw [this]; simp
  | al, y :: xs, nd => by
    have ih := sum_pick hs (xs := xs) nd
    have h : ∀ {al : List Int}, al.Nodup → (al.map (pick s (y :: xs))).sum ≤ (al.map (pick s xs)).sum + (if y ∈ al then s else 0) := by
      intro al nd
      induction al with
      | nil => simp
      | cons x r ihr =>
        obtain ⟨n1, n2⟩ := List.nodup_cons.mp nd
        have ihr := ihr n2
        rw [List.map_cons, List.map_cons, List.sum_cons, List.sum_cons]
        by_cases e : y = x
        · subst e
          rw [if_neg n1] at ihr
          have h1 : pick s (y :: xs) y = s := if_pos List.mem_cons_self
          have h2 : 0 ≤ pick s xs y := by unfold pick; split <;> omega
          rw [if_pos List.mem_cons_self, h1]
          omega
        · have h1 : pick s (y :: xs) x = pick s xs x := by
            unfold pick
            have : (x ∈ y :: xs) ↔ x ∈ xs := by
              rw [List.mem_cons]
              exact ⟨fun z => z.resolve_left fun z => e z.symm, .inr⟩
            by_cases hx : x ∈ xs
            · rw [if_pos (this.mpr hx), if_pos hx]
            · rw [if_neg fun z => hx (this.mp z), if_neg hx]
          have h2 : (y ∈ x :: r) ↔ y ∈ r := by
            rw [List.mem_cons]
            exact ⟨fun z => z.resolve_left e, .inr⟩
          rw [h1]
          by_cases hy : y ∈ r
          · rw [if_pos (h2.mpr hy)]; rw [if_pos hy] at ihr; omega
          · rw [if_neg fun z => hy (h2.mp z)]; rw [if_neg hy] at ihr; omega
    have h3 := h nd
    rw [List.length_cons]
    push_cast
    rw [Int.mul_add, Int.mul_one]
    have : (if y ∈ al then s else 0) ≤ s := by split <;> omega
    omega
/-- all singers breathing where one alone does -/
theorem Chain.has {xs : List Int} (hs : 0 ≤ s) (h : Chain al n b (-1) xs) (a : Int) (h0 : 0 ≤ a) (h1 : a + b < n) : s ≤ sm al (btw a (a + b + 1)) (pick s xs) := by
  obtain ⟨x, hx, x1, x2⟩ := h.hit a (by omega) h1
  have hp : ∀ y, 0 ≤ pick s xs y := fun y => by unfold pick; split <;> omega
  have hxa := (h.mem x hx).1
  have : pick s xs x = s := if_pos hx
  obtain ⟨p, q, e⟩ := List.append_of_mem (mem_inside.mpr ⟨hxa, x1, x2⟩ : x ∈ inside al b a)
  rw [← sm_inside, e, List.map_append, List.sum_append, List.map_cons, List.sum_cons, this]
  have hnn : ∀ l : List Int, 0 ≤ (l.map (pick s xs)).sum := fun l => by
    induction l with
    | nil => exact Int.le_refl 0
    | cons z r ih => rw [List.map_cons, List.sum_cons]; have := hp z; omega
  have := hnn p
  have := hnn q
  omega
end
end Cov
/-! RS: what enough places give; fewest breaths, in plain numbers. -/
namespace RD
open PySem TL AL Q
section
variable {c s b v : Int} {al : List Int}
theorem sm_const (al : List Int) (p : Int → Bool) (q : Int) : Cov.sm al p (fun _ => q) = q * ((al.filter p).length : Nat) := by
  induction al with
  | nil => simp [Cov.sm]
  | cons x r ih =>
    rw [Cov.sm_cons, ih]
    by_cases h : p x = true
    · rw [if_pos h, List.filter_cons_of_pos h, List.length_cons]
      push_cast
      rw [Int.mul_add, Int.mul_one, Int.add_comm]
    · rw [if_neg h, List.filter_cons_of_neg h, Int.zero_add]
theorem inW_btw (a : Int) : inW a b = Cov.btw a (a + b + 1) := by
  funext x
  unfold inW Cov.btw
  congr 1
  rw [Bool.eq_iff_iff, decide_eq_true_eq, decide_eq_true_eq]
  omega
theorem en_iff : en c al s b v = true ↔ ∀ a, 0 ≤ a → a + b < c → s ≤ Cov.sm al (Cov.btw a (a + b + 1)) (fun _ => s - v) := by
  unfold en wc
  rw [List.all_map, List.all_eq_true]
  have e : ∀ a, decide (s ≤ (s - v) * cnt al a b) = true ↔ s ≤ Cov.sm al (Cov.btw a (a + b + 1)) (fun _ => s - v) := fun a => by
    rw [decide_eq_true_eq, sm_const, ← inW_btw]
    rfl
  constructor
  · intro h a a0 a1
    exact (e a).mp (h a (mem_rng.mpr ⟨a0, by omega⟩))
  · intro h a ha
    have := mem_rng.mp ha
    exact (e a).mpr (h a this.1 (by omega))
theorem en_some (hc : ValidC s b v) (he : en c al s b v = true) (a : Int) (a0 : 0 ≤ a) (a1 : a + b < c) : ∃ x ∈ al, a ≤ x ∧ x < a + b + 1 := by
  have h := en_iff.mp he a a0 a1
  have s1 := hc.s1
  by_cases hn : Cov.inside al b a = []
  · rw [← Cov.sm_inside, hn] at h
    simp at h
    omega
  · obtain ⟨x, hx⟩ := List.exists_mem_of_ne_nil _ hn
    have := Cov.mem_inside.mp hx
    exact ⟨x, this.1, this.2.1, this.2.2⟩
/-- the places of a sparing plan at each beat -/
def sp (c : Int) (al : List Int) (s b v : Int) : Int → Int := Cov.gr al b (fun _ => s - v) (fun _ => s) (c - b).toNat
theorem sp_ge {x : Int} : 0 ≤ sp c al s b v x := Cov.gr_ge
theorem sp_le (hc : ValidC s b v) {x : Int} (hx : x ∈ al) : sp c al s b v x ≤ s - v := Cov.gr_le (fun _ _ => by have := hc.h2; omega) hx
theorem sp_has (hp : ValidP c al) (hc : ValidC s b v) (he : en c al s b v = true) (a : Int) (a0 : 0 ≤ a) (a1 : a + b < c) : s ≤ Cov.sm al (Cov.btw a (a + b + 1)) (sp c al s b v) := by
  have h := Cov.gr_has (b := b) (c := fun _ => s - v) (D := fun _ => s) hp.asc (fun _ _ => by have := hc.h2; omega) (k := (c - b).toNat) (fun a h => en_iff.mp he a (by omega) (by omega)) a.toNat (by omega)
  rw [Int.toNat_of_nonneg a0] at h
  exact h
theorem sp_fl (hp : ValidP c al) (hc : ValidC s b v) (he : en c al s b v = true) : (al.map (sp c al s b v)).sum = (al.map (Cov.fl al b (fun _ => s - v) (fun _ => s) (c - b).toNat (c - b).toNat)).sum :=
  Cov.both_least (n := c) (by have := hc.b1; omega) hp.asc hp.lo hp.hi (fun _ _ => by have := hc.h2; omega) fun a h => en_iff.mp he a (by omega) (by omega)
theorem sp_least (hp : ValidP c al) (hc : ValidC s b v) {F : Int → Int} (hF : ∀ x ∈ al, 0 ≤ F x ∧ F x ≤ s - v) (hW : ∀ a, 0 ≤ a → a + b < c → s ≤ Cov.sm al (Cov.btw a (a + b + 1)) F) : (al.map (sp c al s b v)).sum ≤ (al.map F).sum :=
  Cov.gr_total (n := c) (by have := hc.b1; omega) hp.asc hp.hi (fun _ _ => by have := hc.h2; omega) hF fun a h => hW a (by omega) (by omega)
theorem sp_none (h : c ≤ b) : sp c al s b v = fun _ => 0 := by
  unfold sp
  rw [show (c - b).toNat = 0 by omega]
  rfl
theorem places_none : places al (fun _ => 0) = [] := by
  induction al with
  | nil => rfl
  | cons x r ih => exact ih
theorem right_empty {order : List Int} (hc : ValidC s b v) (h : c ≤ b) : RightP c s b v al (dealOf s [] order) (List.replicate s.toNat 0) := by
  have s1 := hc.s1
  have v2 := hc.h2
  have hrow : ∀ j, Deal.row (dealOf s [] order) j = [] := fun j => by
    show (List.replicate s.toNat [])[j]?.getD [] = []
    rw [List.getElem?_replicate]
    split <;> rfl
  have hr : ∀ r ∈ dealOf s [] order, r = [] := fun r hr => (List.mem_replicate.mp hr).2
  refine ⟨by show ((List.replicate s.toNat []).length : Int) = s; rw [List.length_replicate]; omega, by rw [List.length_replicate]; omega, fun t _ _ => ?_, fun r h1 t ht => ?_, fun j _ t ht => ?_, fun r h1 => ?_⟩
  · have : breathing (dealOf s [] order) s t = [] := List.filter_eq_nil_iff.mpr fun j _ => by rw [hrow]; simp
    rw [this]; simp; omega
  · have := hr r h1
    subst this
    cases ht
  · have hz : (List.replicate s.toNat (0 : Int))[j]?.getD 0 = 0 := by
      rw [List.getElem?_replicate]
      split <;> rfl
    rw [hz]
    exact Deal.held_ok (Int.le_refl 0) (.inl (by omega))
  · have := hr r h1
    subst this
    exact .nil
/-- a sparing plan is right -/
theorem sparing_right (hp : ValidP c al) (hc : ValidC s b v) (he : en c al s b v = true) : RightP c s b v al (dealOf s (places al (sp c al s b v)) (rng 0 s)) (List.replicate s.toNat 0) := by
  by_cases h : b < c
  · exact right_fresh hp hc (fun x hx => ⟨sp_ge, sp_le hc hx⟩) h (sp_has hp hc he)
  · rw [sp_none (by omega), places_none]
    exact right_empty hc (by omega)
theorem sp_alone (hp : ValidP c al) (hc : ValidC s b v) (he : en c al s b v = true) {xs : List Int} (h : Cov.Chain al c b (-1) xs) : s * xs.length ≤ (al.map (sp c al s b v)).sum := by
  have := h.lower (s := s) (F := sp c al s b v) (by have := hc.b1; omega) (fun _ _ => sp_ge) (sp_has hp hc he) (Int.le_refl _)
  refine Int.le_trans this (Int.le_of_eq ?_)
  unfold Cov.sm
  rw [List.filter_eq_self.mpr fun x hx => by have := hp.lo x hx; simp; omega]
theorem sp_alone0 (hp : ValidP c al) (hc : ValidC s b 0) (he : en c al s b 0 = true) {xs : List Int} (h : Cov.Chain al c b (-1) xs) : (al.map (sp c al s b 0)).sum = s * xs.length := by
  have s1 := hc.s1
  refine Int.le_antisymm ?_ (sp_alone hp hc he h)
  refine Int.le_trans (sp_least hp hc (F := Cov.pick s xs) (fun x _ => ?_) fun a a0 a1 => h.has (by omega) a a0 a1) (Cov.sum_pick (by omega) (hp.asc.imp fun h => by omega))
  unfold Cov.pick
  split <;> omega
theorem lens_sum (rows : List (List Int)) : (rows.map fun r => ((r.length : Nat) : Int)).sum = ((rows.map List.length).sum : Nat) := by
  induction rows with
  | nil => rfl
  | cons r l ih => rw [List.map_cons, List.map_cons, List.sum_cons, List.sum_cons, ih]; push_cast; rfl
theorem dealOf_sum {ps order : List Int} (s1 : 1 ≤ s) (ho : ∀ x ∈ order, 0 ≤ x ∧ x < s) : ((dealOf s ps order).map fun r => ((r.length : Nat) : Int)).sum = (ps.length : Nat) := by
  rw [lens_sum]
  have := Deal.deal_sum (ordN_lt s1 ho) ps
  unfold dealOf
  rw [this]
end
@[simp] theorem repT_zero {s : Int} : repT (.tuple [.int 0]) (.int s) = if 1 ≤ s ∧ s ≤ 1000 then some (.tuple ((List.replicate s.toNat (0 : Int)).map .int)) else none := by
  have e : (List.replicate s.toNat [PyData.int 0]).flatten = (List.replicate s.toNat (0 : Int)).map PyData.int := by
    rw [List.map_replicate]
    induction s.toNat with
    | zero => rfl
    | succ n ih => rw [List.replicate_succ, List.replicate_succ, List.flatten_cons, ih]; rfl
  unfold repT
  simp only [e]
  by_cases h : 1 ≤ s ∧ s ≤ 1000
  · rw [if_pos h, if_pos ⟨by simp, h.1, h.2, by simp, by simp [wee]; omega⟩]
  · rw [if_neg h, if_neg fun z => h ⟨z.2.1, z.2.2.1⟩]
end RD
/-! RT: what a door told, read. -/
namespace RD
open PySem TL AL Q
@[simp] theorem mTry_ap {e : Md} {g : En} : HT.mTry e g = (match e (frzE g) with | .ok (_, d) => (match noL d with | true => .ok (g, .tuple [.str ("told" : Str), d]) | false => .bad) | .err c => (match HT.isE c with | true => .ok (g, .str (HT.nmX c)) | false => .bad) | .bad => .bad) := rfl
theorem sh_str {x : Str} (h : PyData.strOk x = true) : sh 0 (.str x) := ⟨by simp only [PyData.canLay0]; exact h, by simp only [PyData.depth]; exact Nat.zero_le _⟩
theorem eqD_s {x y : Str} (hx : PyData.strOk x = true) (hy : PyData.strOk y = true) : eqD (.str x) (.str y) = some (.bool (decide (x = y))) := eqD_ap (n1 := 0) (n2 := 0) (sh_str hx) (sh_str hy) (by decide) (by decide) (by simp only [PyData.eqv]; rw [Bool.beq_eq_decide_eq])
theorem neD_s {x y : Str} (hx : PyData.strOk x = true) (hy : PyData.strOk y = true) : neD (.str x) (.str y) = some (.bool (!decide (x = y))) := neD_ap (n1 := 0) (n2 := 0) (sh_str hx) (sh_str hy) (by decide) (by decide) (by simp only [PyData.eqv]; rw [Bool.beq_eq_decide_eq])
@[simp] theorem ne_told : neD (.str ("told" : Str)) (.str ("told" : Str)) = some (.bool false) := neD_s (by decide +kernel) (by decide +kernel)
@[simp] theorem ne_not : neD (.str ("Not+" : Str)) (.str ("Not+" : Str)) = some (.bool false) := neD_s (by decide +kernel) (by decide +kernel)
@[simp] theorem eq_not : eqD (.str ("Not+" : Str)) (.str ("Not+" : Str)) = some (.bool true) := eqD_s (by decide +kernel) (by decide +kernel)
@[simp] theorem isE_not : HT.isE ("NotPossible" : Str) = true := by decide +kernel
@[simp] theorem nmX_not : HT.nmX ("NotPossible" : Str) = ("Not+" : Str) := by decide +kernel
@[simp] theorem neD_b {x y : Bool} : neD (.bool x) (.bool y) = some (.bool (!decide (x = y))) := neD_ap (n1 := 0) (n2 := 0) sh_bool sh_bool (by decide) (by decide) (by simp only [PyData.eqv]; cases x <;> cases y <;> rfl)
@[simp] theorem noLs_tI {rows : List (List Int)} : noLs (rows.map tI) = true := noLs_map (fun _ => by simp [tI]) rows
/-- a loop that may return: r x tells what, where ok x is false -/
theorem forL_find {tg : Mg} {bo : Bo} {α σ : Type} (c : α → PyData) (E : σ → En) (ok : α → Bool) (r : α → SD) (I : Nat → σ → Prop) : ∀ (xs : List α) (k : Nat) (s : σ), I k s →
    (∀ i x, xs[i]? = some x → ∀ s, I (k + i) s → ∃ g1, tg (c x) (E s) = some g1 ∧ ((ok x = true ∧ ∃ s', I (k + i + 1) s' ∧ bo g1 = .ok (.nx (E s'))) ∨ (ok x = false ∧ ∃ g', bo g1 = .ok (.rt g' (r x))))) →
    (xs.find? (fun x => !ok x) = none ∧ ∃ s', forL tg bo (xs.map c) (E s) = .ok (.nx (E s')) ∧ I (k + xs.length) s') ∨ (∃ x, xs.find? (fun x => !ok x) = some x ∧ ∃ g', forL tg bo (xs.map c) (E s) = .ok (.rt g' (r x)))
  | [], k, s, hs, _ => .inl ⟨rfl, s, rfl, hs⟩
  | x :: l, k, s, hs, h => by
    obtain ⟨g1, h1, h2⟩ := h 0 x rfl s hs
    rcases h2 with ⟨h2, s', h3, h4⟩ | ⟨h2, g', h4⟩
    · have e : (x :: l).find? (fun x => !ok x) = l.find? (fun x => !ok x) := by rw [List.find?_cons, h2]; rfl
      rw [e, List.map_cons, forL, h1]
      simp only [R.of_some, R.ok_bind, h4]
      rw [List.length_cons, show k + (l.length + 1) = k + 1 + l.length by omega]
      exact forL_find c E ok r I l (k + 1) s' h3 fun i y hy s2 hs2 => by
        have := h (i + 1) y hy s2 (by rw [show k + (i + 1) = k + 1 + i by omega]; exact hs2)
        rw [show k + (i + 1) = k + 1 + i by omega] at this
        exact this
    · refine .inr ⟨x, by rw [List.find?_cons, h2]; rfl, g', ?_⟩
      rw [List.map_cons, forL, h1]
      simp only [R.of_some, R.ok_bind, h4]
theorem find_none {α : Type} {ok : α → Bool} : ∀ {xs : List α}, xs.find? (fun x => !ok x) = none → xs.all ok = true
  | [], _ => rfl
  | x :: r, h => by
    rw [List.find?_cons] at h
    cases hx : ok x with
    | false => rw [hx] at h; cases h
    | true => rw [hx] at h; rw [List.all_cons, hx]; exact find_none h
theorem find_some {α : Type} {ok : α → Bool} {y : α} : ∀ {xs : List α}, xs.find? (fun x => !ok x) = some y → xs.all ok = false
  | [], h => nomatch h
  | x :: r, h => by
    rw [List.find?_cons] at h
    cases hx : ok x with
    | false => rw [List.all_cons, hx]; rfl
    | true => rw [hx] at h; rw [List.all_cons, hx]; exact find_some h
def optD : Option Int → PyData
  | some m => .int m
  | none => .none
end RD
/-! RPa: all places, read. -/
namespace RD
open PySem TL AL Q
section
variable {c s b v : Int} {al : List Int}
theorem all_places (hp : ValidP c al) (hc : ValidC s b v) : M.all_places [pcD c al, chD s b v] = .ok (lI (places al (fun _ => s - v))) := by
  have hl := vp_len hp
  obtain ⟨s1, s2, b1, b2, v1, v2⟩ := id hc
  unfold M.all_places M.b_all_places
  rw [runD_eq rfl]
  simp
  obtain ⟨⟨f, z3⟩, h1, h2⟩ := forL_ex (tg := gN 3) (bo := (mSeq (mSet 2 (mCatO 2 (mD (mRep (mLst (mCons (mVar 3) mNil)) (mOp subI (mOp ixT (mVar 1) (mC (.int 0))) (mOp ixT (mVar 1) (mC (.int 2)))))))) mNext)) PyData.int
    (fun st : List Int × SD => [.da (pcD c al), .da (chD s b v), .ls 0 (st.1.map .int), st.2])
    (fun k st => st.1 = places (al.take k) (fun _ => s - v)) al 0 ([], .no) rfl (by
      rintro i x hi ⟨f, z⟩ h
      have hil := (List.getElem?_eq_some_iff.mp hi).1
      have h : f = places (al.take i) (fun _ => s - v) := by rw [← Nat.zero_add i]; exact h
      have e : f ++ List.replicate (s - v).toNat x = places (al.take (i + 1)) (fun _ => s - v) := by
        rw [List.take_add_one, hi, h]
        exact places_snoc.symm
      refine ⟨(f ++ List.replicate (s - v).toNat x, .da (.int x)), by rw [Nat.zero_add]; exact e, _, rfl, .inl ?_⟩
      have hlen : (List.map PyData.int f ++ List.replicate (s - v).toNat (PyData.int x)).length ≤ 4096 := by
        have := places_len (m := fun _ => s - v) (n := 30) (al := al.take (i + 1)) fun y hy => by omega
        rw [← e, List.length_append, List.length_take] at this
        rw [List.length_append, List.length_map]
        simp only [List.length_replicate] at this ⊢
        omega
      simp [rep?_1 (x := .int x) (n := s - v) (by omega) (by omega), few_ok hlen])
  simp only [List.map_nil] at h1
  rw [h1]
  rw [Nat.zero_add, List.take_length] at h2
  have h2 : f = places al (fun _ => s - v) := h2
  subst h2
  simp [lI]
end
end RD
/-! RPb: plans for all places (lines of RK04). -/
namespace RD
open PySem TL AL Q
section
variable {c s b v : Int} {al : List Int}
/-- the places that plan_for deals -/
def pf (c : Int) (al : List Int) (s b v : Int) : List Int := if b < c then places al (fun _ => s - v) else []
theorem pf_len (hp : ValidP c al) (hc : ValidC s b v) : (pf c al s b v).length ≤ 4000 := by
  have hl := vp_len hp
  have h2 := hc.s2
  have h3 := hc.h1
  unfold pf
  split
  · have := places_len (m := fun _ => s - v) (n := 30) (al := al) fun y hy => by omega
    omega
  · exact Nat.zero_le _
theorem plan_for (hp : ValidP c al) (hc : ValidC s b v) : M.plan_for [pcD c al, chD s b v] = if en c al s b v then .ok (.tuple ((dealOf s (pf c al s b v) (rng 0 s)).map tI)) else .err "NotPossible" := by
  obtain ⟨s1, s2, b1, b2, v1, v2⟩ := id hc
  have hd := dealt (s := s) (ps := pf c al s b v) (order := rng 0 s) s1 s2 (pf_len hp hc) (fun x hx => by have := mem_rng.mp hx; omega) (fun _ z => by
    have := rng_len (a := 0) (b := s)
    rw [z] at this
    simp at this
    omega)
  have hr := rg?_ap (m := 0) (n := s) (by omega) (by omega) (by omega) (by omega) (by omega)
  unfold M.plan_for M.b_plan_for
  rw [runD_eq rfl]
  cases he : en c al s b v
  · simp [need_choir hp hc, enough hp hc, he]
  · unfold pf at hd ⊢
    by_cases hb : b < c
    · rw [if_pos hb] at hd ⊢
      simp [need_choir hp hc, enough hp hc, he, hb, all_places hp hc, hr, hd]
    · rw [if_neg hb] at hd ⊢
      simp only [List.map_nil] at hd
      simp [need_choir hp hc, enough hp hc, he, hb, hr, hd]
theorem plan_right (hp : ValidP c al) (hc : ValidC s b v) (he : en c al s b v = true) : RightP c s b v al (dealOf s (pf c al s b v) (rng 0 s)) (List.replicate s.toNat 0) := by
  unfold pf
  by_cases h : b < c
  · rw [if_pos h]
    exact right_fresh hp hc (fun x hx => ⟨by have := hc.h2; omega, Int.le_refl _⟩) h (fun a a0 a1 => en_iff.mp he a a0 a1)
  · rw [if_neg h]
    exact right_empty hc (by omega)
end
end RD
/-! RW: rows of breaths, counted twice. -/
namespace RD
open PySem TL AL Q
structure Row (c : Int) (r : List Int) : Prop where
  asc : r.Pairwise (· < ·)
  lo : ∀ x ∈ r, 0 ≤ x
  hi : ∀ x ∈ r, x < c
def gp : Int → List Int → Int → List Int
  | e, [], c => [c - e - 1]
  | e, y :: r, c => (y - e - 1) :: gp y r c
theorem gp_ne {e c : Int} : ∀ {r : List Int}, gp e r c ≠ []
  | [] => by simp [gp]
  | _ :: _ => by simp [gp]
def lrun (c : Int) (r : List Int) : Int := maxL (gp (-1) r c)
theorem gp_zip {c : Int} : ∀ (r : List Int) (e : Int), ((e :: (r ++ [c])).zip ((e :: (r ++ [c])).drop 1)).map (fun z => z.2 - z.1 - 1) = gp e r c
  | [], e => rfl
  | y :: r, e => by
    have := gp_zip (c := c) r y
    simp only [List.cons_append, List.drop_succ_cons, List.drop_zero, List.zip_cons_cons, List.map_cons, gp] at this ⊢
    rw [this]
theorem gp_cover {b c : Int} : ∀ {r : List Int} {e : Int}, (∀ g ∈ gp e r c, g ≤ b) → ∀ t, e ≤ t → t < c → ∃ x, (x = e ∨ x ∈ r) ∧ x ≤ t ∧ t ≤ x + b
  | [], e, h, t, h1, h2 => ⟨e, .inl rfl, h1, by have := h (c - e - 1) (by simp [gp]); omega⟩
  | y :: r, e, h, t, h1, h2 => by
    by_cases q : t < y
    · exact ⟨e, .inl rfl, h1, by have := h (y - e - 1) (by simp [gp]); omega⟩
    · obtain ⟨x, hx, p⟩ := gp_cover (r := r) (e := y) (fun g hg => h g (by simp [gp, hg])) t (by omega) h2
      refine ⟨x, .inr ?_, p⟩
      rcases hx with rfl | hx
      · exact List.mem_cons_self
      · exact List.mem_cons_of_mem _ hx
theorem gp_le {b c : Int} : ∀ {r : List Int} {e : Int}, (e :: r).Pairwise (· < ·) → (∀ x ∈ e :: r, x < c) → (∀ y ∈ r, 0 ≤ y) → -1 - e ≤ b → 1 ≤ c →
    (∀ t, 0 ≤ t → e ≤ t → t < c → ∃ x, (x = e ∨ x ∈ r) ∧ x ≤ t ∧ t ≤ x + b) → ∀ g ∈ gp e r c, g ≤ b
  | [], e, _, hlt, _, _, hc, H, g, hg => by
    rw [gp, List.mem_singleton] at hg
    have := hlt e List.mem_cons_self
    obtain ⟨x, hx, h1, h2⟩ := H (c - 1) (by omega) (by omega) (by omega)
    rcases hx with rfl | hx
    · omega
    · exact (nomatch hx)
  | y :: r, e, hs, hlt, h0, he, hc, H, g, hg => by
    have hs2 := List.pairwise_cons.mp hs
    have hey := hs2.1 y List.mem_cons_self
    have hy0 := h0 y List.mem_cons_self
    have hyc := hlt y (List.mem_cons_of_mem _ List.mem_cons_self)
    have hy2 := List.pairwise_cons.mp hs2.2
    rw [gp] at hg
    rcases List.mem_cons.mp hg with rfl | hg
    · by_cases z : y = 0
      · omega
      · obtain ⟨x, hx, h1, h2⟩ := H (y - 1) (by omega) (by omega) (by omega)
        rcases hx with rfl | hx
        · omega
        · rcases List.mem_cons.mp hx with rfl | hx
          · omega
          · have := hy2.1 x hx
            omega
    · refine gp_le hs2.2 (fun x hx => hlt x (List.mem_cons_of_mem _ hx)) (fun x hx => h0 x (List.mem_cons_of_mem _ hx)) ?_ hc ?_ g hg
      · have := H 0 (by omega)
        by_cases z : e < 0
        · obtain ⟨x, hx, h1, h2⟩ := H 0 (by omega) (by omega) (by omega)
          omega
        · omega
      · intro t t0 t1 t2
        obtain ⟨x, hx, h1, h2⟩ := H t t0 (by omega) t2
        rcases hx with rfl | hx
        · exact ⟨y, .inl rfl, t1, by omega⟩
        · exact ⟨x, List.mem_cons.mp hx, h1, h2⟩
theorem held_cases {row : List Int} : ∀ t : Nat, Deal.held row 0 t = t ∨ ∃ x ∈ row, 0 ≤ x ∧ x < t ∧ Deal.held row 0 t = t - 1 - x
  | 0 => .inl rfl
  | t + 1 => by
    rw [Deal.held]
    by_cases q : (t : Int) ∈ row
    · rw [if_pos q]; exact .inr ⟨t, q, by omega, by omega, by omega⟩
    · rw [if_neg q]
      rcases held_cases (row := row) t with e | ⟨x, h1, h2, h3, e⟩
      · exact .inl (by omega)
      · exact .inr ⟨x, h1, h2, by omega, by omega⟩
theorem held_iff {c b : Int} {r : List Int} (hr : Row c r) (hb : 0 ≤ b) (hc : 1 ≤ c) : (∀ t : Nat, (t : Int) < c → Deal.held r 0 (t + 1) ≤ b) ↔ lrun c r ≤ b := by
  constructor
  · intro h
    refine gp_le (r := r) (e := -1) ?_ ?_ hr.lo (by omega) hc ?_ _ (maxL_mem gp_ne).1
    · exact List.pairwise_cons.mpr ⟨fun x hx => by have := hr.lo x hx; omega, hr.asc⟩
    · intro x hx
      rcases List.mem_cons.mp hx with rfl | hx
      · omega
      · exact hr.hi x hx
    · intro t t0 _ t2
      have h1 := h t.toNat (by omega)
      rcases held_cases (row := r) (t.toNat + 1) with e | ⟨x, q1, q2, q3, e⟩
      · exact ⟨-1, .inl rfl, by omega, by omega⟩
      · exact ⟨x, .inr q1, by omega, by omega⟩
  · intro h t ht
    obtain ⟨x, hx, h1, h2⟩ := gp_cover (b := b) (c := c) (r := r) (e := -1) (fun g hg => Int.le_trans ((maxL_mem gp_ne).2 g hg) h) t (by omega) ht
    refine Deal.held_ok (by omega) ?_
    rcases hx with rfl | hx
    · exact .inl (by omega)
    · exact .inr ⟨x, hx, hr.lo x hx, h1, h2⟩
theorem lrun_le {c : Int} {r : List Int} (hr : Row c r) (hc : 1 ≤ c) : lrun c r ≤ c := by
  refine (held_iff hr (by omega) hc).mp fun t ht => ?_
  have := (Deal.held_le (row := r) (d := 0) (by omega) (t := t + 1)).2
  omega
def sndL (c : Int) (rows : List (List Int)) : List Int := (rng 0 c).map fun t => ((rows.filter fun r => !decide (t ∈ r)).length : Int)
theorem range_rows (rows : List (List Int)) : (List.range rows.length).map (Deal.row rows) = rows := by
  apply List.ext_getElem?
  intro j
  rw [List.getElem?_map]
  by_cases h : j < rows.length
  · rw [List.getElem?_range h, List.getElem?_eq_getElem h]
    unfold Deal.row
    rw [Option.map_some, List.getElem?_eq_getElem h]
    rfl
  · rw [List.getElem?_eq_none (by rw [List.length_range]; omega), List.getElem?_eq_none (by omega)]
    rfl
theorem count_rows {rows : List (List Int)} {s t : Int} (h : (rows.length : Int) = s) : s - ((breathing rows s t).length : Nat) = ((rows.filter fun r => !decide (t ∈ r)).length : Int) := by
  rw [range_breathing, show s.toNat = rows.length by omega]
  have h1 : ((List.range rows.length).filter fun j => decide (t ∈ Deal.row rows j)).length = rows.countP fun r => decide (t ∈ r) := by
    rw [← List.countP_eq_length_filter]
    conv => rhs; rw [← range_rows rows, List.countP_map]
    rfl
  have h2 := List.length_eq_countP_add_countP (fun r : List Int => decide (t ∈ r)) (l := rows)
  have h3 : (rows.filter fun r => !decide (t ∈ r)).length = rows.countP fun r => ¬ (decide (t ∈ r) = true) := by
    rw [← List.countP_eq_length_filter]
    refine List.countP_congr fun r _ => ?_
    simp
  rw [h1, h3]
  omega
def okB (s b v : Int) (al : List Int) (rows : List (List Int)) (t : Int) : Bool :=
  (decide (v ≤ s - ((breathing rows s t).length : Nat)) && (decide (breathing rows s t = []) || decide (t ∈ al))) && decide (maxL (heldAll rows (List.replicate rows.length 0) rows.length (t.toNat + 1)) ≤ b)
def LR (c s b v : Int) (al : List Int) (rows : List (List Int)) : Bool := decide ((rows.length : Int) = s) && (rng 0 c).all (okB s b v al rows)
def RF (c s b v : Int) (al : List Int) (rows : List (List Int)) : Bool :=
  decide ((rows.length : Int) = s) && ((rows.all fun r => r.all fun t => decide (t ∈ al)) && (decide (v ≤ minL (sndL c rows)) && rows.all fun r => decide (lrun c r ≤ b)))
theorem heldAll_ne {rows : List (List Int)} {before : List Int} {n t : Nat} (h : 1 ≤ n) : heldAll rows before n t ≠ [] := by
  intro z
  have := congrArg List.length z
  unfold heldAll at this
  simp at this
  omega
theorem sndL_ne {c : Int} {rows : List (List Int)} (h : 1 ≤ c) : sndL c rows ≠ [] := by
  intro z
  have := congrArg List.length z
  unfold sndL at this
  rw [List.length_map, rng_len] at this
  simp at this
  omega
theorem repl_get {n j : Nat} : ((List.replicate n (0 : Int))[j]?.getD 0) = 0 := by
  rw [List.getElem?_replicate]
  split <;> rfl
theorem LR_RF {c s b v : Int} {al : List Int} {rows : List (List Int)} (hr : ∀ r ∈ rows, Row c r) (hs : 1 ≤ s) (hc : 1 ≤ c) (hb : 0 ≤ b) : LR c s b v al rows = RF c s b v al rows := by
  unfold LR RF
  by_cases h : (rows.length : Int) = s
  · rw [decide_eq_true h, Bool.true_and, Bool.true_and]
    rw [Bool.eq_iff_iff]
    simp only [List.all_eq_true, Bool.and_eq_true, decide_eq_true_eq, okB, Bool.or_eq_true]
    have hmem : ∀ t, maxL (heldAll rows (List.replicate rows.length 0) rows.length t) ≤ b ↔ ∀ r ∈ rows, Deal.held r 0 t ≤ b := by
      intro t
      have hne : heldAll rows (List.replicate rows.length 0) rows.length t ≠ [] := heldAll_ne (by omega)
      have e : heldAll rows (List.replicate rows.length 0) rows.length t = rows.map fun r => Deal.held r 0 t := by
        conv => rhs; rw [← range_rows rows, List.map_map]
        unfold heldAll
        refine List.map_congr_left fun j _ => ?_
        rw [repl_get]
        rfl
      rw [e] at hne ⊢
      constructor
      · intro q r hr2
        exact Int.le_trans ((maxL_mem hne).2 _ (List.mem_map.mpr ⟨r, hr2, rfl⟩)) q
      · intro q
        obtain ⟨r, hr2, e2⟩ := List.mem_map.mp (maxL_mem hne).1
        rw [← e2]
        exact q r hr2
    constructor
    · intro H
      refine ⟨fun r hr2 t ht => ?_, ?_, fun r hr2 => ?_⟩
      · have h1 := (H t (mem_rng.mpr ⟨(hr r hr2).lo t ht, (hr r hr2).hi t ht⟩)).1.2
        refine h1.resolve_left fun z => ?_
        obtain ⟨j, hj, e⟩ := List.getElem_of_mem hr2
        have : ((j : Nat) : Int) ∈ breathing rows s t := mem_breathing.mpr ⟨by omega, by omega, by
          rw [Int.toNat_natCast]
          unfold Deal.row
          rw [List.getElem?_eq_getElem hj, e]
          exact ht⟩
        rw [z] at this
        exact (nomatch this)
      · obtain ⟨t, ht, e⟩ := List.mem_map.mp (minL_mem (sndL_ne (rows := rows) hc)).1
        rw [← e, ← count_rows h]
        exact (H t ht).1.1
      · refine (held_iff (hr r hr2) hb hc).mp fun t ht => ?_
        have := (hmem _).mp (H t (mem_rng.mpr ⟨by omega, ht⟩)).2 r hr2
        rw [Int.toNat_natCast] at this
        exact this
    · rintro ⟨h1, h2, h3⟩ t ht
      have ht := mem_rng.mp ht
      refine ⟨⟨?_, ?_⟩, ?_⟩
      · rw [count_rows h]
        exact Int.le_trans h2 ((minL_mem (sndL_ne (rows := rows) hc)).2 _ (List.mem_map.mpr ⟨t, mem_rng.mpr ht, rfl⟩))
      · by_cases z : breathing rows s t = []
        · exact .inl z
        · obtain ⟨j, hj⟩ := List.exists_mem_of_ne_nil _ z
          obtain ⟨j0, j1, j2⟩ := mem_breathing.mp hj
          exact .inr (h1 _ (row_mem (by omega)) t j2)
      · refine (hmem _).mpr fun r hr2 => ?_
        have := (held_iff (hr r hr2) hb hc).mpr (h3 r hr2) t.toNat (by omega)
        exact this
  · rw [decide_eq_false h, Bool.false_and, Bool.false_and]
end RD
/-! RK13a: rows of breaths, read. -/
namespace RD
open PySem TL AL Q
theorem bools?_mapf {α : Type} {l : List α} {f : α → Bool} : bools? (l.map fun x => .bool (f x)) = some (l.map f) := bools?_map
/-- a comprehension over rows and their beats -/
theorem lc2_rows {tg tg1 : Mg} {it1 : Mi} {e : Md} {vs vs1 : List Nat} {g : En} {f : Int → PyData} (hp : plainAt g vs = true) : ∀ {rows : List (List Int)},
    (∀ r ∈ rows, ∃ g1, tg (tI r) (wipeE g vs) = some g1 ∧ it1 g1 = .ok (g1, r.map .int) ∧ plainAt g1 vs1 = true ∧ backE g g1 vs = g ∧
      ∀ x ∈ r, ∃ g2, tg1 (.int x) (wipeE g1 vs1) = some g2 ∧ backE g1 g2 vs1 = g1 ∧ e g2 = .ok (g2, f x)) →
    lc2L tg it1 tg1 mYes e vs vs1 (rows.map tI) g = .ok (g, (rows.flatMap id).map f)
  | [], _ => rfl
  | r :: rest, h => by
    obtain ⟨g1, h1, h2, h3, h4, h5⟩ := h r List.mem_cons_self
    have ih := lc2_rows (f := f) hp (rows := rest) fun y hy => h y (List.mem_cons_of_mem _ hy)
    have hl := lcL_at (tg := tg1) (t := mYes) (e := e) (vs := vs1) (g := g1) (c := PyData.int) (b := fun _ => true) (f := f) h3 (xs := r) fun x hx => by
      obtain ⟨g2, q1, q2, q3⟩ := h5 x hx
      exact ⟨g2, q1, q2, rfl, fun _ => q3⟩
    rw [filter_yes] at hl
    rw [List.map_cons, lc2L, hp]
    simp only [h1, R.of_some, R.ok_bind, h2, R.noE_ok, hl, h4, ih, List.flatMap_cons, List.map_append, id]
theorem flat_len {n : Nat} : ∀ {rows : List (List Int)}, (∀ r ∈ rows, r.length ≤ n) → (rows.flatMap id).length ≤ n * rows.length
  | [], _ => Nat.zero_le _
  | r :: rest, h => by
    have := flat_len fun y hy => h y (List.mem_cons_of_mem _ hy)
    have h1 := h r List.mem_cons_self
    rw [List.flatMap_cons, List.length_append, List.length_cons, Nat.mul_succ]
    show r.length + _ ≤ _
    omega
theorem any_flat {p : Int → Bool} : ∀ {rows : List (List Int)}, (rows.flatMap id).all p = rows.all fun r => r.all p
  | [] => rfl
  | r :: rest => by
    rw [List.flatMap_cons, List.all_append, List.all_cons, any_flat (rows := rest)]
    rfl
section
variable {c s b v : Int} {al : List Int} {rows : List (List Int)}
theorem Row.len {r : List Int} (h : Row c r) (h0 : 0 ≤ c) (h1 : c ≤ 60) : r.length ≤ 60 := by
  have := asc_len (a := 0) (c := c) h.asc (fun x hx => ⟨h.lo x hx, h.hi x hx⟩) h0
  omega
theorem good_rows (h : ∀ r ∈ rows, Row c r) (h1 : 1 ≤ rows.length) (h2 : rows.length ≤ 30) : M.good_rows [pcD c al, .tuple (rows.map tI)] = .ok (.bool true) := by
  unfold M.good_rows M.b_good_rows
  rw [runD_eq rfl]
  have n1 : (1 : Int) ≤ rows.length := by omega
  have n2 : (rows.length : Int) ≤ 30 := by omega
  simp -implicitDefEqProofs [isTup, n1, n2]
  rw [lc_all tI rows (fun _ => .bool true)]
  · have : (rows.map fun _ => true).all id = true := by simp
    have e := bools?_mapf (l := rows) (f := fun _ => true)
    simp -implicitDefEqProofs [e]
  · simp
  · rfl
  · intro r hr
    refine ⟨_, rfl, rfl, ?_⟩
    have := good_beats (h r hr).asc (h r hr).lo (h r hr).hi
    simp -implicitDefEqProofs [tI, pcD, this]
theorem need_rows (h : ∀ r ∈ rows, Row c r) (h1 : 1 ≤ rows.length) (h2 : rows.length ≤ 30) : M.need_rows [pcD c al, .tuple (rows.map tI)] = .ok .none := by
  unfold M.need_rows M.b_need_rows
  rw [runD_eq rfl]
  simp -implicitDefEqProofs [good_rows (al := al) h h1 h2]
theorem longest_run {r : List Int} (hl : r.length ≤ 60) : M.longest_run [.int c, tI r, .int 0] = .ok (.int (lrun c r)) := by
  unfold M.longest_run M.b_longest_run
  rw [runD_eq rfl]
  have e0 : catL (.list [.int (-1)]) (.list (r.map .int)) = some (.int (-1) :: r.map .int) := if_pos (by
    rw [List.length_map]; show 1 + r.length ≤ 4096; omega)
  have e1 : catL (.list (.int (-1) :: r.map .int)) (.list [.int c]) = some ((-1 :: (r ++ [c])).map .int) := by
    rw [show (-1 :: (r ++ [c])).map PyData.int = (.int (-1) :: r.map .int) ++ [.int c] by simp]
    exact if_pos (by
      rw [List.length_cons, List.length_map]; show r.length + 1 + 1 ≤ 4096; omega)
  have e2 : cutD ((-1 :: (r ++ [c])).map PyData.int) (some 1) none = ((-1 :: (r ++ [c])).drop 1).map PyData.int := by rw [List.map_drop]; exact cutD_from (n := 1)
  generalize hE : -1 :: (r ++ [c]) = ends at e1 e2
  simp -implicitDefEqProofs [tI, e0, e1]
  rw [lc_all (fun z : Int × Int => PyData.tuple [.int z.1, .int z.2]) (ends.zip (ends.drop 1)) (fun z => .int (z.2 - z.1 - 1))]
  · have hz := gp_zip (c := c) r (-1)
    rw [hE] at hz
    have e3 : (ends.zip (ends.drop 1)).map (fun z => PyData.int (z.2 - z.1 - 1)) = (gp (-1) r c).map .int := by rw [← hz, List.map_map]; rfl
    rw [e3]
    have := fMax_ap (gp_ne (e := -1) (c := c) (r := r))
    simp -implicitDefEqProofs [this]
    rfl
  · simp -implicitDefEqProofs
    rw [e2]
    simp -implicitDefEqProofs [zipP, List.zip, List.map_zipWith, ← List.map_tail, List.zipWith_map]
  · rfl
  · intro z _
    refine ⟨_, rfl, rfl, ?_⟩
    simp -implicitDefEqProofs
theorem sounds (c0 : 0 ≤ c) (c1 : c ≤ 60) : M.sounds [pcD c al, .tuple (rows.map tI)] = .ok (lI (sndL c rows)) := by
  unfold M.sounds M.b_sounds
  rw [runD_eq rfl]
  simp -implicitDefEqProofs
  rw [lc_all PyData.int (rng 0 c) (fun t => .int ((rows.filter fun r => !decide (t ∈ r)).length : Nat))]
  · have e : (rng 0 c).map (fun t => PyData.int ((rows.filter fun r => !decide (t ∈ r)).length : Nat)) = (sndL c rows).map .int := by unfold sndL; rw [List.map_map]; rfl
    rw [e]
    simp -implicitDefEqProofs [lI]
  · simp -implicitDefEqProofs [fRg1_ap (n := c) (by omega) (by omega)]
  · rfl
  · intro t _
    refine ⟨_, rfl, rfl, ?_⟩
    simp -implicitDefEqProofs
    rw [lc_at tI rows (fun r => !decide (t ∈ r)) tI]
    · simp -implicitDefEqProofs
    · simp -implicitDefEqProofs
    · rfl
    · intro r _
      refine ⟨_, rfl, rfl, ?_, fun _ => ?_⟩
      · simp -implicitDefEqProofs [tI]
      · simp -implicitDefEqProofs [tI]
/-- whether rows are a plan, as the program tells -/
theorem right_from (hp : ValidP c al) (hr : ∀ r ∈ rows, Row c r) (hs : 1 ≤ s) (hs2 : s ≤ 30) (h2 : rows.length ≤ 30) : M.right_from [pcD c al, chD s b v, .tuple (rows.map tI), .tuple ((List.replicate s.toNat (0 : Int)).map .int)] = .ok (.bool (RF c s b v al rows)) := by
  have c1 := hp.c1
  have c2 := hp.c2
  unfold M.right_from M.b_right_from
  rw [runD_eq rfl]
  unfold RF
  by_cases h : (rows.length : Int) = s
  · rw [decide_eq_true h, Bool.true_and]
    have hl2 : lc2L (gN 7) (mI1 tup? (mVar 7)) (gN 8) mYes (mOp (inI true) (mVar 8) (mOp ixT (mVar 0) (mC (.int 1)))) [7, 8] [8] (rows.map tI) [.da (pcD c al), .da (chD s b v), .da (.tuple (rows.map tI)), .da (.tuple ((List.replicate s.toNat (0 : Int)).map .int)), .da (.int s), .da (.int b), .da (.int v), .no, .no, .no] =
      .ok ([.da (pcD c al), .da (chD s b v), .da (.tuple (rows.map tI)), .da (.tuple ((List.replicate s.toNat (0 : Int)).map .int)), .da (.int s), .da (.int b), .da (.int v), .no, .no, .no], (rows.flatMap id).map fun x => PyData.bool (!decide (x ∈ al))) :=
      lc2_rows rfl fun r _ => ⟨_, rfl, rfl, rfl, rfl, fun x _ => ⟨_, rfl, rfl, by simp -implicitDefEqProofs⟩⟩
    have hlen : ((rows.flatMap id).map fun x => PyData.bool (!decide (x ∈ al))).length ≤ 4096 := by
      have := flat_len (n := 60) (rows := rows) fun r hr2 => (hr r hr2).len (by omega) c2
      rw [List.length_map]
      omega
    have hany : ((rows.flatMap id).map fun x => !decide (x ∈ al)).any id = !(rows.all fun r => r.all fun t => decide (t ∈ al)) := by
      rw [← any_flat, List.any_map, List.not_all_eq_any_not]
      rfl
    obtain ⟨fl, hfl⟩ : ∃ fl, fl = rows.flatMap id := ⟨_, rfl⟩
    rw [← hfl] at hl2 hlen hany
    have hs3 := sounds (al := al) (rows := rows) (c := c) (by omega) c2
    have hmin := fMin_ap (sndL_ne (rows := rows) c1)
    simp -implicitDefEqProofs [h, mLc2, hl2, few_ok hlen, bools?_mapf, hany, -List.map_replicate]
    cases ha : (rows.all fun r => r.all fun t => decide (t ∈ al))
    · simp -implicitDefEqProofs
    · simp -implicitDefEqProofs [hs3, lI, hmin, -List.map_replicate]
      by_cases hv : minL (sndL c rows) < v
      · have hv2 : ¬ (v ≤ minL (sndL c rows)) := by omega
        simp -implicitDefEqProofs [hv, hv2, -List.map_replicate]
      · have hv2 : v ≤ minL (sndL c rows) := by omega
        simp -implicitDefEqProofs [hv, hv2, -List.map_replicate]
        rw [lc_all (fun r : List Int => PyData.tuple [tI r, .int 0]) rows (fun r => .bool (decide (lrun c r ≤ b)))]
        · simp -implicitDefEqProofs [bools?_mapf, List.all_map]
        · have hz : zipP (rows.map tI) ((List.replicate s.toNat (0 : Int)).map .int) = rows.map fun r => PyData.tuple [tI r, .int 0] := by
            unfold zipP
            apply List.ext_getElem?
            intro j
            rw [List.getElem?_zipWith, List.getElem?_map, List.getElem?_map, List.getElem?_map, List.getElem?_replicate]
            by_cases hj : j < rows.length
            · rw [List.getElem?_eq_getElem hj, if_pos (by omega)]
              rfl
            · rw [List.getElem?_eq_none (by omega)]
              rfl
          simp -implicitDefEqProofs [hz, -List.map_replicate]
        · rfl
        · intro r hr2
          refine ⟨_, rfl, rfl, ?_⟩
          have := longest_run (c := c) (r := r) ((hr r hr2).len (by omega) c2)
          simp -implicitDefEqProofs [this]
  · rw [decide_eq_false h, Bool.false_and]
    simp -implicitDefEqProofs [h]
/-- whether rows are a plan, beat by beat -/
theorem law_right_all (hp : ValidP c al) (hr : ∀ r ∈ rows, Row c r) (hs : 1 ≤ s) (hs2 : s ≤ 30) : M.law_right [pcD c al, chD s b v, .tuple (rows.map tI), .tuple ((List.replicate s.toNat (0 : Int)).map .int)] = .ok (.bool (LR c s b v al rows)) := by
  have c1 := hp.c1
  have c2 := hp.c2
  unfold M.law_right M.b_law_right
  rw [runD_eq rfl]
  unfold LR
  by_cases es : (rows.length : Int) = s
  · rw [decide_eq_true es, Bool.true_and]
    have hn : s.toNat = rows.length := by omega
    rw [hn]
    obtain ⟨before, hbe⟩ : ∃ before, before = List.replicate rows.length (0 : Int) := ⟨_, rfl⟩
    have hbl : before.length = rows.length := by rw [hbe, List.length_replicate]
    have hok : ∀ t, okB s b v al rows t = ((decide (v ≤ s - ((breathing rows s t).length : Nat)) && (decide (breathing rows s t = []) || decide (t ∈ al))) && decide (maxL (heldAll rows before rows.length (t.toNat + 1)) ≤ b)) := fun t => by rw [hbe]; rfl
    rw [← hbe]
    clear hbe
    simp -implicitDefEqProofs [isTup, es, fRg1_ap (n := c) (by omega) (by omega)]
    have hl := forL_find (tg := gN 8) (bo := (mSeq (mSet 9 (mV (mD (mLc (mIA fRg1 (mCons (mVar 4) mNil)) (gN 10) (mT (mOp (inI false) (mVar 8) (mOp ixT (mVar 2) (mVar 10)))) (mVar 10) [10])))) (mSeq (mIfS (mOr (mT (mOp ltI (mOp subI (mVar 4) (mCb fLen (mCons (mVar 9) mNil))) (mVar 6))) (mAnd (mT (mOp neD (mVar 9) (mD (mLst mNil)))) (mT (mOp (inI true) (mVar 8) (mOp ixT (mVar 0) (mC (.int 1))))))) (mSeq (mRet (mV (mC (.bool false)))) mNext) mNext) (mSeq (mSet 7 (mV (mD (mLc (mIA fEnum (mCons (mVar 7) mNil)) (g2 10 11) mYes (mD (mIf (mT (mOp (inI false) (mVar 10) (mVar 9))) (mV (mC (.int 0))) (mV (mOp addI (mVar 11) (mC (.int 1)))))) [10, 11])))) (mSeq (mIfS (mT (mOp gtI (mCb fMax (mCons (mVar 7) mNil)) (mVar 5))) (mSeq (mRet (mV (mC (.bool false)))) mNext) mNext) mNext)))))
      PyData.int
      (fun st : RS => [.da (pcD c al), .da (chD s b v), .da (.tuple (rows.map tI)), .da (.tuple (before.map .int)), .da (.int s), .da (.int b), .da (.int v), .da (.list (st.1.map .int)), st.2.1, st.2.2, .no, .no, .no])
      (okB s b v al rows) (fun _ => .da (.bool false))
      (fun k st => st.1 = heldAll rows before rows.length k) (rng 0 c) 0 (before, .no, .no) (by
        show before = _
        unfold heldAll
        apply List.ext_getElem?
        intro j
        rw [List.getElem?_map]
        by_cases hj : j < rows.length
        · rw [List.getElem?_range hj, List.getElem?_eq_getElem (by omega)]
          simp only [Option.map_some, Deal.held]
          congr 1
          rw [List.getElem?_eq_getElem (by omega)]; rfl
        · rw [List.getElem?_eq_none (by omega), List.getElem?_eq_none (by rw [List.length_range]; omega)]
          rfl)
      (by
        rintro i x hi ⟨hs, z8, z9⟩ e
        have e : hs = heldAll rows before rows.length i := by rw [← Nat.zero_add i]; exact e
        have hi2 := (List.getElem?_eq_some_iff.mp hi).1
        rw [rng_len] at hi2
        have hx : x = (i : Int) := by rw [TL.rng_get hi]; omega
        subst hx
        have st := held_step (rows := rows) (before := before) (n := rows.length) i
        rw [es] at st
        have hokx := hok (i : Int)
        rw [Int.toNat_natCast] at hokx
        have hlc : mLc (mIA fRg1 (mCons (mVar 4) mNil)) (gN 10) (mT (mOp (inI false) (mVar 8) (mOp ixT (mVar 2) (mVar 10)))) (mVar 10) [10] [.da (pcD c al), .da (chD s b v), .da (.tuple (rows.map tI)), .da (.tuple (before.map .int)), .da (.int s), .da (.int b), .da (.int v), .da (.list (hs.map .int)), .da (.int (i : Int)), z9, .no, .no, .no] =
            .ok ([.da (pcD c al), .da (chD s b v), .da (.tuple (rows.map tI)), .da (.tuple (before.map .int)), .da (.int s), .da (.int b), .da (.int v), .da (.list (hs.map .int)), .da (.int (i : Int)), z9, .no, .no, .no], .ls 0 ((breathing rows s i).map .int)) := by
          rw [lc_at PyData.int (rng 0 s) (fun j => decide ((i : Int) ∈ Deal.row rows j.toNat)) PyData.int]
          · rfl
          · simp -implicitDefEqProofs [fRg1_ap (n := s) (by omega) (by omega)]
          · rfl
          · intro j hj
            have hj := mem_rng.mp hj
            have hat : L2.atI (rows.map tI) j = some (tI (Deal.row rows j.toNat)) := at_int hj.1 (by unfold Deal.row; rw [List.getElem?_map, List.getElem?_eq_getElem (by omega)]; rfl)
            refine ⟨_, rfl, rfl, ?_, fun _ => rfl⟩
            simp -implicitDefEqProofs [hat, tI]
        have en := enumP_eq hs
        have fin : (((mLc (mIA fEnum (mCons (mVar 7) mNil)) (g2 10 11) mYes (mD (mIf (mT (mOp (inI false) (mVar 10) (mVar 9))) (mV (mC (.int 0))) (mV (mOp addI (mVar 11) (mC (.int 1)))))) [10, 11]
              [.da (pcD c al), .da (chD s b v), .da (.tuple (rows.map tI)), .da (.tuple (before.map .int)), .da (.int s), .da (.int b), .da (.int v), .da (.list (hs.map .int)), .da (.int (i : Int)), .da (.list ((breathing rows s i).map .int)), .no, .no, .no])) =
              .ok ([.da (pcD c al), .da (chD s b v), .da (.tuple (rows.map tI)), .da (.tuple (before.map .int)), .da (.int s), .da (.int b), .da (.int v), .da (.list (hs.map .int)), .da (.int (i : Int)), .da (.list ((breathing rows s i).map .int)), .no, .no, .no], .ls 0 ((heldAll rows before rows.length (i + 1)).map .int))) := by
          rw [lc_all (fun z : Int × Nat => PyData.tuple [.int (z.2 : Nat), .int z.1]) hs.zipIdx (fun z => .int (if ((z.2 : Nat) : Int) ∈ breathing rows s i then 0 else z.1 + 1))]
          · rw [← st, e, List.map_map]
            rfl
          · simp -implicitDefEqProofs [en]
          · rfl
          · intro z _
            refine ⟨_, rfl, rfl, ?_⟩
            by_cases q : ((z.2 : Nat) : Int) ∈ breathing rows s i <;> simp -implicitDefEqProofs [q]
        have hmx := fMax_ap (heldAll_ne (rows := rows) (before := before) (n := rows.length) (t := i + 1) (by omega))
        generalize maxL (heldAll rows before rows.length (i + 1)) = y at hmx hokx
        refine ⟨_, rfl, ?_⟩
        by_cases n1 : v ≤ s - ((breathing rows s i).length : Nat)
        · have n1' : ¬ (s - ((breathing rows s i).length : Nat) < v) := by omega
          by_cases n2 : breathing rows s i = [] ∨ (i : Int) ∈ al
          · by_cases n3 : y ≤ b
            · left
              refine ⟨?_, (heldAll rows before rows.length (i + 1), .da (.int (i : Int)), .da (.list ((breathing rows s i).map .int))), ?_, ?_⟩
              · rw [hokx, decide_eq_true n1, decide_eq_true n3]
                rcases n2 with q | q <;> simp [q]
              · show _ = heldAll rows before rows.length (0 + i + 1)
                rw [Nat.zero_add]
              · have n3' : ¬ (b < y) := by omega
                by_cases q0 : breathing rows s i = []
                · simp -implicitDefEqProofs [hlc, n1']
                  simp -implicitDefEqProofs [q0]
                  rw [q0] at fin
                  simp -implicitDefEqProofs at fin
                  simp -implicitDefEqProofs [fin, hmx, n3']
                · have q1 := n2.resolve_left q0
                  simp -implicitDefEqProofs [hlc, n1', q0, q1, fin, hmx, n3']
            · right
              refine ⟨by rw [hokx]; simp [n3], ?_⟩
              have n3' : b < y := by omega
              by_cases q0 : breathing rows s i = []
              · simp -implicitDefEqProofs [hlc, n1']
                simp -implicitDefEqProofs [q0]
                rw [q0] at fin
                simp -implicitDefEqProofs at fin
                simp -implicitDefEqProofs [fin, hmx, n3']
              · have q1 := n2.resolve_left q0
                simp -implicitDefEqProofs [hlc, n1', q0, q1, fin, hmx, n3']
          · right
            have q0 : ¬ breathing rows s i = [] := fun z => n2 (.inl z)
            have q1 : ¬ (i : Int) ∈ al := fun z => n2 (.inr z)
            refine ⟨by rw [hokx]; simp [q0, q1], ?_⟩
            simp -implicitDefEqProofs [hlc, n1', q0, q1]
        · right
          have n1' : s - ((breathing rows s i).length : Nat) < v := by omega
          refine ⟨by rw [hokx]; simp [n1], ?_⟩
          simp -implicitDefEqProofs [hlc, n1'])
    rcases hl with ⟨hn1, ⟨hs, z8, z9⟩, hl, _⟩ | ⟨x, hn1, g', hl⟩
    · rw [hl, find_none hn1]
      simp -implicitDefEqProofs
      rw [lc_at tI rows (fun _ => false) (fun _ => .int 1)]
      · have : rows.filter (fun _ => false) = [] := List.filter_eq_nil_iff.mpr fun _ _ => Bool.false_ne_true
        simp -implicitDefEqProofs [this]
      · simp -implicitDefEqProofs
      · rfl
      · intro r hr2
        refine ⟨_, rfl, rfl, ?_, fun z => absurd z (by decide)⟩
        have ha := (hr r hr2).asc
        have hlen : r.length ≤ 60 := (hr r hr2).len (by omega) c2
        have hss := sset_asc ha (by omega)
        simp -implicitDefEqProofs [tI, hss]
        by_cases hz : r = []
        · subst hz; simp
        · have h0 : 0 < r.length := List.length_pos_iff.mpr hz
          have hlast := at_last (ds := r.map PyData.int) (by simpa using hz)
          have hm := List.getLast_mem hz
          have hb := (hr r hr2).hi _ hm
          rw [List.getLast?_map, List.getLast?_eq_some_getLast hz] at hlast
          have n1 : ¬ (c ≤ r.getLast hz) := by omega
          simp only [Option.map_some] at hlast
          simp -implicitDefEqProofs [h0, hlast, n1]
    · rw [hl, find_some hn1]
      simp -implicitDefEqProofs
  · rw [decide_eq_false es, Bool.false_and]
    simp -implicitDefEqProofs [isTup, es]
end
end RD
/-! RPl: is_plan, read. -/
namespace RD
open PySem TL AL Q
section
variable {c s b v : Int} {al : List Int} {rows : List (List Int)}
theorem is_plan (hp : ValidP c al) (hc : ValidC s b v) (hr : ∀ r ∈ rows, Row c r) (h1 : 1 ≤ rows.length) (hl : rows.length ≤ 30) :
    M.is_plan [pcD c al, chD s b v, .tuple (rows.map tI)] = .ok (.bool (RF c s b v al rows)) := by
  have s1 := hc.s1
  have s2 := hc.s2
  unfold M.is_plan M.b_is_plan
  rw [runD_eq rfl]
  have hrep : repT (.tuple [.int 0]) (.int s) = some (.tuple ((List.replicate s.toNat (0 : Int)).map .int)) := by rw [repT_zero, if_pos ⟨s1, by omega⟩]
  have hrf := right_from (b := b) (v := v) hp hr s1 s2 hl
  generalize (List.replicate s.toNat (0 : Int)).map PyData.int = zs at hrep hrf
  simp -implicitDefEqProofs [need_choir hp hc, good_rows (al := al) hr h1 hl, hrep, hrf, -repT_zero]
end
end RD
/-! PK16: more never takes a plan away. -/
namespace RD
open PySem TL AL Q
theorem sum_off {al : List Int} {m : Int → Int} (hm : ∀ x, x ∉ al → m x = 0) : ∀ L : List Int, (L.map m).sum = ((L.filter fun x => decide (x ∈ al)).map m).sum
  | [] => rfl
  | x :: r => by
    have ih := sum_off hm r
    by_cases h : x ∈ al
    · rw [List.filter_cons_of_pos (by simpa using h), List.map_cons, List.map_cons, List.sum_cons, List.sum_cons, ih]
    · rw [List.filter_cons_of_neg (by simpa using h), List.map_cons, List.sum_cons, hm x h, ih]; omega
theorem sm_sub {al al' : List Int} {p : Int → Bool} {m : Int → Int} (h1 : al.Pairwise (· < ·)) (h2 : al'.Pairwise (· < ·)) (h : ∀ x ∈ al, x ∈ al') (hm : ∀ x, x ∉ al → m x = 0) : Cov.sm al' p m = Cov.sm al p m := by
  unfold Cov.sm
  rw [sum_off hm]
  congr 2
  refine asc_eq ((h2.filter _).filter _) (h1.filter _) fun x => ?_
  rw [List.mem_filter, List.mem_filter, List.mem_filter, decide_eq_true_eq]
  exact ⟨fun z => ⟨z.2, z.1.2⟩, fun z => ⟨⟨h x z.1, z.2⟩, z.1⟩⟩
theorem sm_true {al : List Int} {f : Int → Int} : Cov.sm al (fun _ => true) f = (al.map f).sum := by unfold Cov.sm; rw [filter_yes]
theorem sm_all_le {p q : Int → Bool} {f : Int → Int} : ∀ {al : List Int}, (∀ x ∈ al, 0 ≤ f x) → (∀ x ∈ al, p x = true → q x = true) → Cov.sm al p f ≤ Cov.sm al q f
  | [], _, _ => Int.le_refl _
  | x :: r, h, hq => by
    have ih := sm_all_le (p := p) (q := q) (f := f) (al := r) (fun y hy => h y (List.mem_cons_of_mem _ hy)) fun y hy => hq y (List.mem_cons_of_mem _ hy)
    have h0 := h x List.mem_cons_self
    have h1 := hq x List.mem_cons_self
    rw [Cov.sm_cons, Cov.sm_cons]
    cases hp : p x with
    | true => rw [h1 hp]; simp; exact ih
    | false => cases q x <;> simp <;> omega
section
variable {c s b v : Int} {al : List Int} {rows : List (List Int)}
theorem better {c' b' v' : Int} {al' : List Int} (hp' : ValidP c' al') (hc' : ValidC s b' v') {F : Int → Int} (hF : ∀ x ∈ al', 0 ≤ F x ∧ F x ≤ s - v')
    (hW : ∀ a, 0 ≤ a → a + b' < c' → s ≤ Cov.sm al' (Cov.btw a (a + b' + 1)) F) : en c' al' s b' v' = true ∧ (al'.map (sp c' al' s b' v')).sum ≤ (al'.map F).sum :=
  ⟨en_iff.mpr fun a a0 a1 => Int.le_trans (hW a a0 a1) (Cov.sm_le fun x hx _ => (hF x hx).2), sp_least hp' hc' hF hW⟩
/-- one allowed beat more -/
theorem better_more {al' : List Int} (hp : ValidP c al) (hc : ValidC s b v) (he : en c al s b v = true) (hp' : ValidP c al') (h : ∀ x ∈ al, x ∈ al') :
    en c al' s b v = true ∧ (al'.map (sp c al' s b v)).sum ≤ (al.map (sp c al s b v)).sum := by
  obtain ⟨F, hFe⟩ : ∃ F : Int → Int, F = fun x => if x ∈ al then sp c al s b v x else 0 := ⟨_, rfl⟩
  have hin : ∀ x ∈ al, F x = sp c al s b v x := fun x hx => by rw [hFe]; exact if_pos hx
  have hout : ∀ x, x ∉ al → F x = 0 := fun x hx => by rw [hFe]; exact if_neg hx
  have hsm : ∀ p, Cov.sm al' p F = Cov.sm al p (sp c al s b v) := fun p => by
    rw [sm_sub hp.asc hp'.asc h hout]
    exact Cov.sm_congr fun x hx _ => hin x hx
  have q := better hp' hc (F := F) (fun x hx => by
    by_cases hm : x ∈ al
    · rw [hin x hm]; exact ⟨sp_ge, sp_le hc hm⟩
    · rw [hout x hm]; exact ⟨Int.le_refl _, by have := hc.h2; omega⟩) (fun a a0 a1 => by rw [hsm]; exact sp_has hp hc he a a0 a1)
  refine ⟨q.1, ?_⟩
  have := q.2
  rw [← sm_true (al := al') (f := F), hsm, sm_true] at this
  exact this
/-- a breath that lasts longer, a voice less -/
theorem better_choir {b' v' : Int} (hp : ValidP c al) (hc : ValidC s b v) (he : en c al s b v = true) (hc' : ValidC s b' v') (hb : b ≤ b') (hv : v' ≤ v) :
    en c al s b' v' = true ∧ (al.map (sp c al s b' v')).sum ≤ (al.map (sp c al s b v)).sum :=
  better hp hc' (fun x hx => ⟨sp_ge, by have := sp_le (c := c) (b := b) (v := v) hc hx; omega⟩) fun a a0 a1 => by
    refine Int.le_trans (sp_has hp hc he a a0 (by omega)) (sm_all_le (fun _ _ => sp_ge) fun x _ h => ?_)
    unfold Cov.btw at h ⊢
    simp only [Bool.and_eq_true, decide_eq_true_eq] at h ⊢
    omega
/-- a part of a piece -/
def partL (al : List Int) (lo hi : Int) : List Int := (al.filter fun x => decide (lo ≤ x) && decide (x < hi)).map fun x => x - lo
theorem mem_part {lo hi x : Int} : x ∈ partL al lo hi ↔ x + lo ∈ al ∧ 0 ≤ x ∧ x < hi - lo := by
  unfold partL
  rw [List.mem_map]
  constructor
  · rintro ⟨y, hy, rfl⟩
    rw [List.mem_filter, Bool.and_eq_true, decide_eq_true_eq, decide_eq_true_eq] at hy
    rw [show y - lo + lo = y by omega]
    exact ⟨hy.1, by omega, by omega⟩
  · rintro ⟨h1, h2, h3⟩
    refine ⟨x + lo, ?_, by omega⟩
    rw [List.mem_filter, Bool.and_eq_true, decide_eq_true_eq, decide_eq_true_eq]
    exact ⟨h1, by omega, by omega⟩
theorem part_asc {lo hi : Int} (h : al.Pairwise (· < ·)) : (partL al lo hi).Pairwise (· < ·) :=
  List.pairwise_map.mpr ((h.filter _).imp fun z => by omega)
theorem part_valid {lo hi : Int} (hp : ValidP c al) (h0 : 0 ≤ lo) (h1 : lo < hi) (h2 : hi ≤ c) : ValidP (hi - lo) (partL al lo hi) :=
  ⟨by omega, by have := hp.c2; omega, part_asc hp.asc, fun x hx => (mem_part.mp hx).2.1, fun x hx => (mem_part.mp hx).2.2⟩
theorem sm_part {lo hi a e : Int} {f : Int → Int} (h0 : 0 ≤ a) (h1 : e ≤ hi - lo) : Cov.sm (partL al lo hi) (Cov.btw a e) (fun x => f (x + lo)) = Cov.sm al (Cov.btw (a + lo) (e + lo)) f := by
  unfold Cov.sm partL
  rw [List.filter_map, List.map_map, List.filter_filter]
  have e1 : (fun x : Int => f (x + lo)) ∘ (fun x => x - lo) = f := by
    funext x
    show f (x - lo + lo) = f x
    rw [Int.sub_add_cancel]
  rw [e1]
  congr 2
  refine List.filter_congr fun x _ => ?_
  unfold Cov.btw
  simp only [Function.comp]
  rw [Bool.eq_iff_iff]
  simp only [Bool.and_eq_true, decide_eq_true_eq]
  omega
theorem better_part {lo hi : Int} (hp : ValidP c al) (hc : ValidC s b v) (he : en c al s b v = true) (h0 : 0 ≤ lo) (h1 : lo < hi) (h2 : hi ≤ c) :
    en (hi - lo) (partL al lo hi) s b v = true ∧ ((partL al lo hi).map (sp (hi - lo) (partL al lo hi) s b v)).sum ≤ (al.map (sp c al s b v)).sum := by
  have hp' := part_valid hp h0 h1 h2
  have q := better hp' hc (F := fun x => sp c al s b v (x + lo)) (fun x hx => ⟨sp_ge, sp_le hc (mem_part.mp hx).1⟩) (fun a a0 a1 => by
    rw [sm_part a0 (by omega)]
    have := sp_has hp hc he (a + lo) (by omega) (by omega)
    rw [show a + b + 1 + lo = a + lo + b + 1 by omega]
    exact this)
  refine ⟨q.1, Int.le_trans q.2 ?_⟩
  have hall : Cov.sm (partL al lo hi) (Cov.btw 0 (hi - lo)) (fun x => sp c al s b v (x + lo)) = ((partL al lo hi).map fun x => sp c al s b v (x + lo)).sum := by
    unfold Cov.sm
    rw [List.filter_eq_self.mpr fun x hx => by
      have := (mem_part.mp hx).2
      unfold Cov.btw
      simp; omega]
  rw [← hall, sm_part (Int.le_refl _) (Int.le_refl _), ← sm_true]
  exact sm_all_le (fun _ _ => sp_ge) fun _ _ _ => rfl
/-! ### plans stay plans -/
theorem RF_iff (hs : 1 ≤ s) (hc1 : 1 ≤ c) : RF c s b v al rows = true ↔ (rows.length : Int) = s ∧ (∀ r ∈ rows, ∀ t ∈ r, t ∈ al) ∧ (∀ t, 0 ≤ t → t < c → v ≤ ((rows.filter fun r => !decide (t ∈ r)).length : Nat)) ∧ ∀ r ∈ rows, lrun c r ≤ b := by
  unfold RF
  simp only [Bool.and_eq_true, decide_eq_true_eq, List.all_eq_true]
  have hm := minL_mem (sndL_ne (rows := rows) hc1)
  constructor
  · rintro ⟨h1, h2, h3, h4⟩
    refine ⟨h1, h2, fun t t0 t1 => Int.le_trans h3 (hm.2 _ (List.mem_map.mpr ⟨t, mem_rng.mpr ⟨t0, t1⟩, rfl⟩)), h4⟩
  · rintro ⟨h1, h2, h3, h4⟩
    refine ⟨h1, h2, ?_, h4⟩
    obtain ⟨t, ht, e⟩ := List.mem_map.mp hm.1
    rw [← e]
    exact h3 t (mem_rng.mp ht).1 (mem_rng.mp ht).2
theorem RF_mono {al' : List Int} {b' v' : Int} (hs : 1 ≤ s) (hc1 : 1 ≤ c) (h : RF c s b v al rows = true) (ha : ∀ x ∈ al, x ∈ al') (hb : b ≤ b') (hv : v' ≤ v) : RF c s b' v' al' rows = true := by
  obtain ⟨h1, h2, h3, h4⟩ := (RF_iff hs hc1).mp h
  exact (RF_iff hs hc1).mpr ⟨h1, fun r hr t ht => ha t (h2 r hr t ht), fun t t0 t1 => Int.le_trans hv (h3 t t0 t1), fun r hr => Int.le_trans (h4 r hr) hb⟩
theorem part_row {lo hi : Int} {r : List Int} (h : Row c r) : Row (hi - lo) (partL r lo hi) :=
  ⟨part_asc h.asc, fun x hx => (mem_part.mp hx).2.1, fun x hx => (mem_part.mp hx).2.2⟩
theorem part_run {lo hi : Int} {r : List Int} (hr : Row c r) (hb : 0 ≤ b) (h0 : 0 ≤ lo) (h1 : lo < hi) (h2 : hi ≤ c) (h : lrun c r ≤ b) : lrun (hi - lo) (partL r lo hi) ≤ b := by
  refine (held_iff (part_row hr) hb (by omega)).mp fun t ht => ?_
  have q := (held_iff hr hb (by omega)).mpr h (t + lo.toNat) (by omega)
  refine Deal.held_ok (by omega) ?_
  rcases held_cases (row := r) (t + lo.toNat + 1) with e | ⟨x, x1, x2, x3, e⟩
  · exact .inl (by omega)
  · by_cases hx : lo ≤ x
    · exact .inr ⟨x - lo, mem_part.mpr ⟨by rw [Int.sub_add_cancel]; exact x1, by omega, by omega⟩, by omega, by omega, by omega⟩
    · exact .inl (by omega)
theorem RF_part {lo hi : Int} (hr : ∀ r ∈ rows, Row c r) (hs : 1 ≤ s) (hb : 0 ≤ b) (h0 : 0 ≤ lo) (h1 : lo < hi) (h2 : hi ≤ c) (h : RF c s b v al rows = true) :
    RF (hi - lo) s b v (partL al lo hi) (rows.map fun r => partL r lo hi) = true := by
  obtain ⟨q1, q2, q3, q4⟩ := (RF_iff hs (by omega)).mp h
  refine (RF_iff hs (by omega)).mpr ⟨by rw [List.length_map]; exact q1, fun r hr' t ht => ?_, fun t t0 t1 => ?_, fun r hr' => ?_⟩
  · obtain ⟨y, hy, rfl⟩ := List.mem_map.mp hr'
    have := mem_part.mp ht
    exact mem_part.mpr ⟨q2 y hy _ this.1, this.2⟩
  · have := q3 (t + lo) (by omega) (by omega)
    rw [List.filter_map, List.length_map]
    have e : rows.filter ((fun r => !decide (t ∈ r)) ∘ fun r => partL r lo hi) = rows.filter fun r => !decide (t + lo ∈ r) := by
      refine List.filter_congr fun r _ => ?_
      show (!decide (t ∈ partL r lo hi)) = _
      congr 1
      rw [decide_eq_decide, mem_part]
      exact ⟨fun z => z.1, fun z => ⟨z, t0, t1⟩⟩
    rw [e]
    exact this
  · obtain ⟨y, hy, rfl⟩ := List.mem_map.mp hr'
    exact part_run (hr y hy) hb h0 h1 h2 (q4 y hy)
end
end RD
/-! RK16: sizes, pieces cut, plans not worse, read. -/
namespace RD
open PySem TL AL Q
theorem need_number {x lo hi : Int} (h : lo ≤ x) (h2 : x ≤ hi) : M.need_number [.int x, .int lo, .int hi] = .ok .none := by
  unfold M.need_number M.b_need_number
  rw [runD_eq rfl]
  simp -implicitDefEqProofs [is_from, okI_true h h2]
theorem singers_for {m v : Int} (m0 : 0 ≤ m) (m1 : m ≤ 1000) (v0 : 0 ≤ v) (v1 : v ≤ 1000) {s : Int} (s1 : 1 ≤ s) (h : s ≤ (s - v) * m) : ∃ k, M.singers_for [.int m, .int v] = .ok (.int k) ∧ k ≤ s := by
  have hm : 1 ≤ m := by
    by_cases z : m = 0
    · subst z; simp at h; omega
    · omega
  unfold M.singers_for M.b_singers_for
  rw [runD_eq rfl]
  by_cases h1 : m = 1
  · subst h1
    have hv : v = 0 := by omega
    subst hv
    refine ⟨1, ?_, s1⟩
    simp -implicitDefEqProofs
  · have n0 : ¬ m = 0 := by omega
    have n2 : 1 < m := by omega
    have hmul := mulI_ap (m := -v) (n := m) (by omega) (by omega)
    have hdiv := divI_ap (m := -v * m) (n := m - 1) (by omega) (by omega)
    refine ⟨max 1 (-(-v * m / (m - 1))), ?_, ?_⟩
    · simp -implicitDefEqProofs [n0, h1, n2, hmul, hdiv, -Int.neg_mul]
    · have : -s ≤ -v * m / (m - 1) := by
        rw [Int.le_ediv_iff_mul_le (by omega)]
        rw [Int.sub_mul] at h
        have e1 : -s * (m - 1) = -(s * m) + s := by rw [Int.mul_sub, Int.mul_one, Int.neg_mul]; omega
        have e2 : -v * m = -(v * m) := Int.neg_mul ..
        rw [e1, e2]
        omega
      omega
section
variable {c s b v : Int} {al : List Int}
theorem wc_bd {x : Int} (hl : al.length ≤ 60) : x ∈ wc c b al → 0 ≤ x ∧ x ≤ 60 := fun h => by
  unfold wc at h
  obtain ⟨a, _, rfl⟩ := List.mem_map.mp h
  unfold cnt
  have := List.length_filter_le (inW a b) al
  omega
theorem en_min (he : en c al s b v = true) {x : Int} (h : x ∈ wc c b al) : s ≤ (s - v) * x := of_decide_eq_true (List.all_eq_true.mp he x h)
theorem fewest_singers (hp : ValidP c al) (hc : ValidC s b v) (he : en c al s b v = true) : ∃ k, M.fewest_singers [pcD c al, .int b, .int v] = .ok (.int k) ∧ k ≤ s := by
  have hl := vp_len hp
  obtain ⟨s1, s2, b1, b2, v1, v2⟩ := id hc
  have hw := window_counts (al := al) hp.c2 hp.c1 (b := b) (by omega) b2
  have hbd := fun x => wc_bd (c := c) (b := b) (x := x) hl
  have hmn := fun x => en_min he (x := x)
  unfold M.fewest_singers M.b_fewest_singers
  rw [runD_eq rfl]
  generalize wc c b al = L at hw hbd hmn
  by_cases hL : L = []
  · subst hL
    simp only [lI, List.map_nil] at hw
    refine ⟨max 1 v, ?_, by omega⟩
    simp -implicitDefEqProofs [need_piece hp, need_number b1 b2, need_number v1 (show v ≤ 30 by omega), hw]
  · have hm := (minL_mem hL).1
    obtain ⟨k, hk, hk2⟩ := singers_for (m := minL L) (v := v) (s := s) (hbd _ hm).1 (by have := (hbd _ hm).2; omega) v1 (by omega) s1 (hmn _ hm)
    have hmin := fMin_ap hL
    refine ⟨k, ?_, hk2⟩
    simp -implicitDefEqProofs [need_piece hp, need_number b1 b2, need_number v1 (show v ≤ 30 by omega), hw, lI, hL, hmin, hk]
theorem most_voices (hp : ValidP c al) (hc : ValidC s b v) (he : en c al s b v = true) : ∃ k, M.most_voices [pcD c al, .int s, .int b] = .ok (.int k) ∧ v ≤ k := by
  have hl := vp_len hp
  obtain ⟨s1, s2, b1, b2, v1, v2⟩ := id hc
  have hw := window_counts (al := al) hp.c2 hp.c1 (b := b) (by omega) b2
  have hbd := fun x => wc_bd (c := c) (b := b) (x := x) hl
  have hmn := fun x => en_min he (x := x)
  unfold M.most_voices M.b_most_voices
  rw [runD_eq rfl]
  generalize wc c b al = L at hw hbd hmn
  by_cases hL : L = []
  · subst hL
    simp only [lI, List.map_nil] at hw
    refine ⟨s, ?_, v2⟩
    simp -implicitDefEqProofs [need_piece hp, need_number s1 s2, need_number b1 b2, hw]
  · have hm := (minL_mem hL).1
    have hmin := fMin_ap hL
    have h1 := hmn _ hm
    have h2 := hbd _ hm
    generalize minL L = m at hmin h1 h2
    have m1 : 0 < m := by
      by_cases z : m = 0
      · subst z; simp at h1; omega
      · omega
    have hdiv := divI_ap (m := -s) (n := m) m1 (by omega)
    refine ⟨s + -s / m, ?_, ?_⟩
    · simp -implicitDefEqProofs [need_piece hp, need_number s1 s2, need_number b1 b2, hw, lI, hL, hmin, m1, hdiv]
    · have : v - s ≤ -s / m := by
        rw [Int.le_ediv_iff_mul_le m1]
        rw [Int.sub_mul] at h1 ⊢
        omega
      omega
theorem find_le {p : Int → Bool} {y : Int} (hy : p y = true) : ∀ {l : List Int}, l.Pairwise (· < ·) → y ∈ l → ∃ x, l.find? p = some x ∧ x ≤ y
  | [], _, h => nomatch h
  | a :: r, hs, h => by
    rw [List.find?_cons]
    cases ha : p a with
    | true =>
      refine ⟨a, rfl, ?_⟩
      rcases List.mem_cons.mp h with e | e
      · omega
      · have := (List.pairwise_cons.mp hs).1 y e; omega
    | false =>
      rcases List.mem_cons.mp h with e | e
      · rw [e] at hy; rw [hy] at ha; cases ha
      · exact find_le hy (List.pairwise_cons.mp hs).2 e
theorem least_breath (hp : ValidP c al) (hc : ValidC s b v) (he : en c al s b v = true) : ∃ k, M.least_breath [pcD c al, .int s, .int v] = .ok (.int k) ∧ k ≤ b := by
  have c1 := hp.c1
  have c2 := hp.c2
  obtain ⟨s1, s2, b1, b2, v1, v2⟩ := id hc
  unfold M.least_breath M.b_least_breath
  rw [runD_eq rfl]
  have hr := rg?_ap (m := 1) (n := c) (by omega) (by omega) (by omega) (by omega) (by omega)
  have hl := forL_find (tg := gN 3) (bo := (mSeq (mIfS (mT (mCb fAll (mCons (mD (mLc (mI1 lst? (mD (mCall M.window_counts (mCons (mVar 0) (mCons (mVar 3) mNil))))) (gN 4) mYes (mOp geI (mOp mulI (mOp subI (mVar 1) (mVar 2)) (mVar 4)) (mVar 1)) [4])) mNil))) (mSeq (mRet (mV (mVar 3))) mNext) mNext) mNext)) PyData.int
    (fun z : SD => [.da (pcD c al), .da (.int s), .da (.int v), z, .no]) (fun x => !en c al s x v) (fun x => .da (.int x)) (fun _ _ => True) (rng 1 c) 0 .no trivial (by
      rintro i x hi z _
      have hx := mem_rng.mp (List.mem_of_getElem? hi)
      have hw := window_counts (al := al) c2 c1 (b := x) (by omega) (by omega)
      refine ⟨_, rfl, ?_⟩
      have hlc : mLc (mI1 lst? (mD (mCall M.window_counts (mCons (mVar 0) (mCons (mVar 3) mNil))))) (gN 4) mYes (mOp geI (mOp mulI (mOp subI (mVar 1) (mVar 2)) (mVar 4)) (mVar 1)) [4] [.da (pcD c al), .da (.int s), .da (.int v), .da (.int x), .no] =
          .ok ([.da (pcD c al), .da (.int s), .da (.int v), .da (.int x), .no], .ls 0 ((wc c x al).map fun m => .bool (decide (s ≤ (s - v) * m)))) := by
        rw [lc_all PyData.int (wc c x al) (fun m => .bool (decide (s ≤ (s - v) * m)))]
        · simp -implicitDefEqProofs [hw, lI]
        · rfl
        · intro m _
          refine ⟨_, rfl, rfl, ?_⟩
          simp -implicitDefEqProofs [mulI_ap (m := s - v) (n := m) (by omega) (by omega)]
      have hen : ((wc c x al).map fun m => decide (s ≤ (s - v) * m)).all id = en c al s x v := by
        unfold en
        rw [List.all_map]
        rfl
      have hbs := bools?_mapf (l := wc c x al) (f := fun m => decide (s ≤ (s - v) * m))
      generalize ((wc c x al).map fun m => PyData.bool (decide (s ≤ (s - v) * m))) = BL at hlc hbs
      cases hv : en c al s x v with
      | true =>
        rw [hv] at hen
        right
        refine ⟨rfl, ?_⟩
        simp -implicitDefEqProofs [hlc, hbs, hen, -List.all_map]
      | false =>
        rw [hv] at hen
        left
        refine ⟨rfl, .da (.int x), trivial, ?_⟩
        simp -implicitDefEqProofs [hlc, hbs, hen, -List.all_map])
  simp only [Bool.not_not] at hl
  rcases hl with ⟨hn, z, hl, _⟩ | ⟨x, hn, g', hl⟩
  · refine ⟨c, ?_, ?_⟩
    · simp -implicitDefEqProofs [need_piece hp, need_number s1 s2, need_number v1 v2, hr]
      rw [hl]
      simp -implicitDefEqProofs
    · by_cases hb : c ≤ b
      · exact hb
      · obtain ⟨x, hx, _⟩ := find_le (p := fun x => en c al s x v) he rngAsc (mem_rng.mpr ⟨b1, by omega⟩ : b ∈ rng 1 c)
        rw [hx] at hn
        cases hn
  · refine ⟨x, ?_, ?_⟩
    · simp -implicitDefEqProofs [need_piece hp, need_number s1 s2, need_number v1 v2, hr]
      rw [hl]
      simp -implicitDefEqProofs
    · by_cases hb : c ≤ b
      · have := (mem_rng.mp (List.mem_of_find?_eq_some hn)).2
        omega
      · obtain ⟨x', hx, h'⟩ := find_le (p := fun x => en c al s x v) he rngAsc (mem_rng.mpr ⟨b1, by omega⟩ : b ∈ rng 1 c)
        rw [hx] at hn
        cases hn
        exact h'
theorem not_worse {c' s' b' v' : Int} {al' : List Int} (hp : ValidP c al) (hc : ValidC s b v) (he : en c al s b v = true) (hp' : ValidP c' al') (hc' : ValidC s' b' v')
    (h : en c' al' s' b' v' = true ∧ (al'.map (sp c' al' s' b' v')).sum ≤ (al.map (sp c al s b v)).sum) : M.law_not_worse [pcD c al, chD s b v, pcD c' al', chD s' b' v'] = .ok (.bool true) := by
  have f1 := fewest_breaths hp hc
  have f2 := fewest_breaths hp' hc'
  rw [he, if_pos rfl, places_length fun x _ => Cov.gr_ge] at f1
  rw [h.1, if_pos rfl, places_length fun x _ => Cov.gr_ge] at f2
  have hcs := can_sing hp' hc'
  rw [h.1] at hcs
  have h2 := h.2
  unfold sp at h2
  unfold M.law_not_worse M.b_law_not_worse
  rw [runD_eq rfl]
  generalize (al'.map (Cov.gr al' b' (fun _ => s' - v') (fun _ => s') (c' - b').toNat)).sum = A at f2 h2
  generalize (al.map (Cov.gr al b (fun _ => s - v) (fun _ => s) (c - b).toNat)).sum = B at f1 h2
  simp -implicitDefEqProofs [hcs, f1, f2, h2]
theorem law_cut {lo hi : Int} : M.law_cut [pcD c al, .int lo, .int hi] = .ok (pcD (hi - lo) (partL al lo hi)) := by
  unfold M.law_cut M.b_law_cut
  rw [runD_eq rfl]
  simp -implicitDefEqProofs
  rw [lc_at PyData.int al (fun x => decide (lo ≤ x) && decide (x < hi)) (fun x => .int (x - lo))]
  · have e : (al.filter fun x => decide (lo ≤ x) && decide (x < hi)).map (fun x => PyData.int (x - lo)) = (partL al lo hi).map .int := by unfold partL; rw [List.map_map]; rfl
    rw [e]
    simp -implicitDefEqProofs [pcD, tI]
  · simp -implicitDefEqProofs
  · rfl
  · intro x _
    refine ⟨_, rfl, rfl, ?_, fun _ => ?_⟩
    · by_cases h : lo ≤ x <;> simp -implicitDefEqProofs [h]
    · simp -implicitDefEqProofs
end
end RD
/-! RL16: law k16 gives True. -/
namespace RD
open PySem TL AL Q
theorem each_pair {bo : Bo} {g : SD → SD → En} {z13 z14 : SD} (hs : ∀ a b x y, g2 13 14 (.tuple [x, y]) (g a b) = some (g (.da x) (.da y))) : ∀ {xs : List (PyData × PyData)} {z13 z14 : SD}, (∀ z ∈ xs, bo (g (.da z.1) (.da z.2)) = .ok (.nx (g (.da z.1) (.da z.2)))) →
    ∃ z13' z14', forL (g2 13 14) bo (xs.map fun z => .tuple [z.1, z.2]) (g z13 z14) = .ok (.nx (g z13' z14'))
  | [], z13, z14, _ => ⟨z13, z14, rfl⟩
  | z :: r, z13, z14, h => by
    obtain ⟨a, b, q⟩ := each_pair hs (xs := r) (z13 := .da z.1) (z14 := .da z.2) fun y hy => h y (List.mem_cons_of_mem _ hy)
    refine ⟨a, b, ?_⟩
    rw [List.map_cons, forL, hs]
    simp only [R.of_some, R.ok_bind, h z List.mem_cons_self]
    exact q
section
variable {c s b v : Int} {al : List Int} {rows : List (List Int)}
theorem cut_rows {lo hi : Int} {g0 g1 g2' g3 g4 g5 g7 g8 g9 g10 g13 g14 g15 g16 g17 : SD} (hl : rows.length ≤ 30) (h16 : g16.plain = true) (h17 : g17.plain = true) :
    mLc (mI1 tup? (mVar 6)) (gN 16) mYes (mCb fTuple (mCons (mD (mLc (mI1 tup? (mVar 16)) (gN 17) (mT (mChain leI ltI (mVar 11) (mVar 17) (mOp addI (mVar 11) (mOp ixT (mVar 12) (mC (.int 0)))))) (mOp subI (mVar 17) (mVar 11)) [17])) mNil)) [16]
      [g0, g1, g2', g3, g4, g5, .da (.tuple (rows.map tI)), g7, g8, g9, g10, .da (.int lo), .da (pcD (hi - lo) al), g13, g14, g15, g16, g17] =
    .ok ([g0, g1, g2', g3, g4, g5, .da (.tuple (rows.map tI)), g7, g8, g9, g10, .da (.int lo), .da (pcD (hi - lo) al), g13, g14, g15, g16, g17], .ls 0 ((rows.map fun r => partL r lo hi).map tI)) := by
  rw [lc_all tI rows (fun r => tI (partL r lo hi))]
  · rw [List.map_map]
    rfl
  · simp -implicitDefEqProofs
  · simp -implicitDefEqProofs [h16]
  · intro r _
    refine ⟨_, rfl, rfl, ?_⟩
    have hlc : mLc (mI1 tup? (mVar 16)) (gN 17) (mT (mChain leI ltI (mVar 11) (mVar 17) (mOp addI (mVar 11) (mOp ixT (mVar 12) (mC (.int 0)))))) (mOp subI (mVar 17) (mVar 11)) [17]
        [g0, g1, g2', g3, g4, g5, .da (.tuple (rows.map tI)), g7, g8, g9, g10, .da (.int lo), .da (pcD (hi - lo) al), g13, g14, g15, .da (tI r), g17] =
        .ok ([g0, g1, g2', g3, g4, g5, .da (.tuple (rows.map tI)), g7, g8, g9, g10, .da (.int lo), .da (pcD (hi - lo) al), g13, g14, g15, .da (tI r), g17], .ls 0 ((partL r lo hi).map .int)) := by
      rw [lc_at PyData.int r (fun x => decide (lo ≤ x) && decide (x < hi)) (fun x => .int (x - lo))]
      · have e : (r.filter fun x => decide (lo ≤ x) && decide (x < hi)).map (fun x => PyData.int (x - lo)) = (partL r lo hi).map .int := by unfold partL; rw [List.map_map]; rfl
        rw [e]
      · simp -implicitDefEqProofs [tI]
      · simp -implicitDefEqProofs [h17]
      · intro x _
        refine ⟨_, rfl, rfl, ?_, fun _ => ?_⟩
        · have e : lo + (hi - lo) = hi := by omega
          by_cases h : lo ≤ x <;> simp -implicitDefEqProofs [h, e]
        · simp -implicitDefEqProofs
    generalize (partL r lo hi) = PR at hlc ⊢
    simp -implicitDefEqProofs at hlc ⊢
    rw [hlc]
    simp -implicitDefEqProofs [tI]
end
theorem k16_turn {d : List PyData} {k : Int} (o : DeckOk k d) (hk : k ≤ 10000) (z0 z1 z3 z4 z5 z6 z7 z8 z9 z10 z11 z12 z13 z14 z15 : SD) :
    ∃ (d' : List PyData) (z4' z5' z6' z7' z8' z9' z10' z11' z12' z13' z14' z15' : SD), DeckOk (k + 200) d' ∧
      (((mSeq (mPar 4 5 (wCons (mV (mD (mCallO M.law_song 2 (mCons (mC (.int 2)) (mCons (mC (.int 60)) mNil))))) (wCons (mV (mD (mCallO M.law_group 2 (mCons (mC (.int 20)) (mCons (mC (.int 20)) mNil))))) wNil))) (mSeq (mIfS (mNot (mT (mD (mCallN M.can_sing (mCons (mVar 4) (mCons (mVar 5) mNil)))))) (mSeq mCont mNext) mNext) (mSeq (mSet 6 (mV (mD (mCallN M.plan_for (mCons (mVar 4) (mCons (mVar 5) mNil)))))) (mSeq (mSet 7 (mV (mD (mCallO M.law_pick 2 (mCons (mOp ixT (mVar 4) (mC (.int 0))) mNil))))) (mSeq (mSet 8 (mV (mTup (mCons (mOp ixT (mVar 4) (mC (.int 0))) (mCons (mCb fTuple (mCons (mD (mSset (mOp catT (mOp ixT (mVar 4) (mC (.int 1))) (mTup (mCons (mVar 7) mNil))))) mNil)) mNil))))) (mSeq (mPar 9 10 (wCons (mV (mTup (mCons (mOp ixT (mVar 5) (mC (.int 0))) (mCons (mOp addI (mOp ixT (mVar 5) (mC (.int 1))) (mC (.int 1))) (mCons (mOp ixT (mVar 5) (mC (.int 2))) mNil))))) (wCons (mV (mTup (mCons (mOp ixT (mVar 5) (mC (.int 0))) (mCons (mOp ixT (mVar 5) (mC (.int 1))) (mCons (mCb fMax2 (mCons (mC (.int 0)) (mCons (mOp subI (mOp ixT (mVar 5) (mC (.int 2))) (mC (.int 1))) mNil))) mNil))))) wNil))) (mSeq (mSet 11 (mV (mD (mCallO M.law_pick 2 (mCons (mOp ixT (mVar 4) (mC (.int 0))) mNil))))) (mSeq (mSet 12 (mV (mD (mCallN M.law_cut (mCons (mVar 4) (mCons (mVar 11) (mCons (mOp addI (mOp addI (mVar 11) (mC (.int 1))) (mD (mCallO M.law_pick 2 (mCons (mOp subI (mOp ixT (mVar 4) (mC (.int 0))) (mVar 11)) mNil)))) mNil))))))) (mSeq (mFor (mI1 lst? (mD (mLst (mCons (mTup (mCons (mVar 8) (mCons (mVar 5) mNil))) (mCons (mTup (mCons (mVar 4) (mCons (mVar 9) mNil))) (mCons (mTup (mCons (mVar 4) (mCons (mVar 10) mNil))) (mCons (mTup (mCons (mVar 12) (mCons (mVar 5) mNil))) mNil))))))) (g2 13 14) (mSeq (mIfS (mNot (mT (mD (mCallN M.law_not_worse (mCons (mVar 4) (mCons (mVar 5) (mCons (mVar 13) (mCons (mVar 14) mNil)))))))) (mSeq (mRet (mV (mC (.bool false)))) mNext) mNext) mNext)) (mSeq (mFor (mI1 lst? (mD (mLst (mCons (mTup (mCons (mVar 8) (mCons (mVar 5) mNil))) (mCons (mTup (mCons (mVar 4) (mCons (mVar 9) mNil))) (mCons (mTup (mCons (mVar 4) (mCons (mVar 10) mNil))) mNil)))))) (g2 13 14) (mSeq (mIfS (mT (mOp notB (mD (mCallN M.is_plan (mCons (mVar 13) (mCons (mVar 14) (mCons (mVar 6) mNil))))) (mC (.bool true)))) (mSeq (mRet (mV (mC (.bool false)))) mNext) mNext) mNext)) (mSeq (mSet 15 (mV (mCb fTuple (mCons (mD (mLc (mI1 tup? (mVar 6)) (gN 16) mYes (mCb fTuple (mCons (mD (mLc (mI1 tup? (mVar 16)) (gN 17) (mT (mChain leI ltI (mVar 11) (mVar 17) (mOp addI (mVar 11) (mOp ixT (mVar 12) (mC (.int 0)))))) (mOp subI (mVar 17) (mVar 11)) [17])) mNil)) [16])) mNil)))) (mSeq (mIfS (mT (mOp notB (mD (mCallN M.is_plan (mCons (mVar 12) (mCons (mVar 5) (mCons (mVar 15) mNil))))) (mC (.bool true)))) (mSeq (mRet (mV (mC (.bool false)))) mNext) mNext) (mSeq (mIfS (mT (mOp gtI (mD (mCallN M.least_breath (mCons (mVar 4) (mCons (mOp ixT (mVar 5) (mC (.int 0))) (mCons (mOp ixT (mVar 5) (mC (.int 2))) mNil))))) (mOp ixT (mVar 5) (mC (.int 1))))) (mSeq (mRet (mV (mC (.bool false)))) mNext) mNext) (mSeq (mIfS (mOr (mT (mOp ltI (mD (mCallN M.most_voices (mCons (mVar 4) (mCons (mOp ixT (mVar 5) (mC (.int 0))) (mCons (mOp ixT (mVar 5) (mC (.int 1))) mNil))))) (mOp ixT (mVar 5) (mC (.int 2))))) (mT (mOp gtI (mD (mCallN M.fewest_singers (mCons (mVar 4) (mCons (mOp ixT (mVar 5) (mC (.int 1))) (mCons (mOp ixT (mVar 5) (mC (.int 2))) mNil))))) (mOp ixT (mVar 5) (mC (.int 0)))))) (mSeq (mRet (mV (mC (.bool false)))) mNext) mNext) mNext))))))))))))))) [z0, z1, .ls 0 d, z3, z4, z5, z6, z7, z8, z9, z10, z11, z12, z13, z14, z15, .no, .no] = .ok (.nx [z0, z1, .ls 0 d', z3, z4', z5', z6', z7', z8', z9', z10', z11', z12', z13', z14', z15', .no, .no]) ∨
       ((mSeq (mPar 4 5 (wCons (mV (mD (mCallO M.law_song 2 (mCons (mC (.int 2)) (mCons (mC (.int 60)) mNil))))) (wCons (mV (mD (mCallO M.law_group 2 (mCons (mC (.int 20)) (mCons (mC (.int 20)) mNil))))) wNil))) (mSeq (mIfS (mNot (mT (mD (mCallN M.can_sing (mCons (mVar 4) (mCons (mVar 5) mNil)))))) (mSeq mCont mNext) mNext) (mSeq (mSet 6 (mV (mD (mCallN M.plan_for (mCons (mVar 4) (mCons (mVar 5) mNil)))))) (mSeq (mSet 7 (mV (mD (mCallO M.law_pick 2 (mCons (mOp ixT (mVar 4) (mC (.int 0))) mNil))))) (mSeq (mSet 8 (mV (mTup (mCons (mOp ixT (mVar 4) (mC (.int 0))) (mCons (mCb fTuple (mCons (mD (mSset (mOp catT (mOp ixT (mVar 4) (mC (.int 1))) (mTup (mCons (mVar 7) mNil))))) mNil)) mNil))))) (mSeq (mPar 9 10 (wCons (mV (mTup (mCons (mOp ixT (mVar 5) (mC (.int 0))) (mCons (mOp addI (mOp ixT (mVar 5) (mC (.int 1))) (mC (.int 1))) (mCons (mOp ixT (mVar 5) (mC (.int 2))) mNil))))) (wCons (mV (mTup (mCons (mOp ixT (mVar 5) (mC (.int 0))) (mCons (mOp ixT (mVar 5) (mC (.int 1))) (mCons (mCb fMax2 (mCons (mC (.int 0)) (mCons (mOp subI (mOp ixT (mVar 5) (mC (.int 2))) (mC (.int 1))) mNil))) mNil))))) wNil))) (mSeq (mSet 11 (mV (mD (mCallO M.law_pick 2 (mCons (mOp ixT (mVar 4) (mC (.int 0))) mNil))))) (mSeq (mSet 12 (mV (mD (mCallN M.law_cut (mCons (mVar 4) (mCons (mVar 11) (mCons (mOp addI (mOp addI (mVar 11) (mC (.int 1))) (mD (mCallO M.law_pick 2 (mCons (mOp subI (mOp ixT (mVar 4) (mC (.int 0))) (mVar 11)) mNil)))) mNil))))))) (mSeq (mFor (mI1 lst? (mD (mLst (mCons (mTup (mCons (mVar 8) (mCons (mVar 5) mNil))) (mCons (mTup (mCons (mVar 4) (mCons (mVar 9) mNil))) (mCons (mTup (mCons (mVar 4) (mCons (mVar 10) mNil))) (mCons (mTup (mCons (mVar 12) (mCons (mVar 5) mNil))) mNil))))))) (g2 13 14) (mSeq (mIfS (mNot (mT (mD (mCallN M.law_not_worse (mCons (mVar 4) (mCons (mVar 5) (mCons (mVar 13) (mCons (mVar 14) mNil)))))))) (mSeq (mRet (mV (mC (.bool false)))) mNext) mNext) mNext)) (mSeq (mFor (mI1 lst? (mD (mLst (mCons (mTup (mCons (mVar 8) (mCons (mVar 5) mNil))) (mCons (mTup (mCons (mVar 4) (mCons (mVar 9) mNil))) (mCons (mTup (mCons (mVar 4) (mCons (mVar 10) mNil))) mNil)))))) (g2 13 14) (mSeq (mIfS (mT (mOp notB (mD (mCallN M.is_plan (mCons (mVar 13) (mCons (mVar 14) (mCons (mVar 6) mNil))))) (mC (.bool true)))) (mSeq (mRet (mV (mC (.bool false)))) mNext) mNext) mNext)) (mSeq (mSet 15 (mV (mCb fTuple (mCons (mD (mLc (mI1 tup? (mVar 6)) (gN 16) mYes (mCb fTuple (mCons (mD (mLc (mI1 tup? (mVar 16)) (gN 17) (mT (mChain leI ltI (mVar 11) (mVar 17) (mOp addI (mVar 11) (mOp ixT (mVar 12) (mC (.int 0)))))) (mOp subI (mVar 17) (mVar 11)) [17])) mNil)) [16])) mNil)))) (mSeq (mIfS (mT (mOp notB (mD (mCallN M.is_plan (mCons (mVar 12) (mCons (mVar 5) (mCons (mVar 15) mNil))))) (mC (.bool true)))) (mSeq (mRet (mV (mC (.bool false)))) mNext) mNext) (mSeq (mIfS (mT (mOp gtI (mD (mCallN M.least_breath (mCons (mVar 4) (mCons (mOp ixT (mVar 5) (mC (.int 0))) (mCons (mOp ixT (mVar 5) (mC (.int 2))) mNil))))) (mOp ixT (mVar 5) (mC (.int 1))))) (mSeq (mRet (mV (mC (.bool false)))) mNext) mNext) (mSeq (mIfS (mOr (mT (mOp ltI (mD (mCallN M.most_voices (mCons (mVar 4) (mCons (mOp ixT (mVar 5) (mC (.int 0))) (mCons (mOp ixT (mVar 5) (mC (.int 1))) mNil))))) (mOp ixT (mVar 5) (mC (.int 2))))) (mT (mOp gtI (mD (mCallN M.fewest_singers (mCons (mVar 4) (mCons (mOp ixT (mVar 5) (mC (.int 1))) (mCons (mOp ixT (mVar 5) (mC (.int 2))) mNil))))) (mOp ixT (mVar 5) (mC (.int 0)))))) (mSeq (mRet (mV (mC (.bool false)))) mNext) mNext) mNext))))))))))))))) [z0, z1, .ls 0 d, z3, z4, z5, z6, z7, z8, z9, z10, z11, z12, z13, z14, z15, .no, .no] = .ok (.ct [z0, z1, .ls 0 d', z3, z4', z5', z6', z7', z8', z9', z10', z11', z12', z13', z14', z15', .no, .no])) := by
  obtain ⟨d1, c, al, e1, o1, hp, _, c60⟩ := song (few := 2) (many := 60) o (by omega) (by decide) (by decide) (by decide)
  obtain ⟨d2, s, b, v, e2, o2, hc, s20, b20⟩ := group (a := 20) (b := 20) o1 (by omega) (by decide) (by decide) (by decide) (by decide)
  have c1 := hp.c1
  have c2 := hp.c2
  obtain ⟨s1, s2, b1, b2, v1, v2⟩ := id hc
  have hcs := can_sing hp hc
  cases he : en c al s b v with
  | false =>
    rw [he] at hcs
    refine ⟨d2, .da (pcD c al), .da (chD s b v), z6, z7, z8, z9, z10, z11, z12, z13, z14, z15, o2.mono (by omega), .inr ?_⟩
    simp -implicitDefEqProofs [e1, e2, hcs]
  | true =>
    rw [he] at hcs
    obtain ⟨d3, x7, e3, o3, x70, x71⟩ := pick (L := c) o2 (by omega) (by omega) (by omega)
    obtain ⟨d4, lo, e4, o4, lo0, lo1⟩ := pick (L := c) o3 (by omega) (by omega) (by omega)
    obtain ⟨d5, y, e5, o5, y0, y1⟩ := pick (L := c - lo) o4 (by omega) (by omega) (by omega)
    obtain ⟨hi, hhi⟩ : ∃ hi, hi = lo + 1 + y := ⟨_, rfl⟩
    have hpf := plan_for hp hc
    rw [he, if_pos rfl] at hpf
    have hpr := plan_right hp hc he
    obtain ⟨rows, hrows⟩ : ∃ rows, rows = dealOf s (pf c al s b v) (rng 0 s) := ⟨_, rfl⟩
    rw [← hrows] at hpf hpr
    have hlen := hpr.len
    have hR : ∀ r ∈ rows, Row c r := fun r hr => ⟨hpr.asc r hr, fun x hx => hp.lo x (hpr.al r hr x hx), fun x hx => hp.hi x (hpr.al r hr x hx)⟩
    have hRF : RF c s b v al rows = true := by
      have q1 := law_right hp hc hpr
      have q2 := law_right_all (b := b) (v := v) hp hR s1 s2
      rw [q2] at q1
      rw [← LR_RF hR s1 c1 (by omega)]
      exact (PyData.bool.inj (R.ok.inj q1))
    clear hpr hrows
    -- the changed pieces and choirs
    have hss : sset? (.tuple ((al ++ [x7]).map .int)) = some ((setI (al ++ [x7])).map .int) := by
      unfold sset?
      simp only [seq?_t, Option.bind_some, ints?_map]
      rw [if_pos]
      rw [List.length_append]
      have := vp_len hp
      show _ + 1 < 64
      omega
    have hcat : catT (.tuple (al.map .int)) (.tuple [.int x7]) = some (.tuple ((al ++ [x7]).map .int)) := by
      rw [List.map_append]
      refine if_pos ?_
      rw [List.length_map]
      have := vp_len hp
      show _ + 1 ≤ 4096
      omega
    have hmem : ∀ x, x ∈ setI (al ++ [x7]) ↔ x ∈ al ∨ x = x7 := fun x => by rw [mem_setI, List.mem_append, List.mem_singleton]
    have hpm : ValidP c (setI (al ++ [x7])) := ⟨c1, c2, setI_asc, fun x hx => by
      rcases (hmem x).mp hx with q | q
      · exact hp.lo x q
      · omega, fun x hx => by
      rcases (hmem x).mp hx with q | q
      · exact hp.hi x q
      · omega⟩
    have hsub : ∀ x ∈ al, x ∈ setI (al ++ [x7]) := fun x hx => (hmem x).mpr (.inl hx)
    generalize setI (al ++ [x7]) = am at hss hpm hsub
    generalize (al ++ [x7]).map PyData.int = ax at hss hcat
    have hcl : ValidC s (b + 1) v := ⟨s1, s2, by omega, by omega, v1, v2⟩
    have hcf : ValidC s b (max 0 (v - 1)) := ⟨s1, s2, b1, b2, by omega, by omega⟩
    have hpp := part_valid hp lo0 (show lo < hi by omega) (show hi ≤ c by omega)
    have w1 := not_worse hp hc he hpm hc (better_more hp hc he hpm hsub)
    have w2 := not_worse hp hc he hp hcl (better_choir hp hc he hcl (by omega) (Int.le_refl _))
    have w3 := not_worse hp hc he hp hcf (better_choir hp hc he hcf (Int.le_refl _) (by omega))
    have w4 := not_worse hp hc he hpp hc (better_part hp hc he lo0 (show lo < hi by omega) (show hi ≤ c by omega))
    have i1 := is_plan hpm hc hR (by omega) (by omega)
    rw [RF_mono s1 c1 hRF hsub (Int.le_refl _) (Int.le_refl _)] at i1
    have i2 := is_plan hp hcl hR (by omega) (by omega)
    rw [RF_mono s1 c1 hRF (fun _ h => h) (by omega : b ≤ b + 1) (Int.le_refl _)] at i2
    have i3 := is_plan hp hcf hR (by omega) (by omega)
    rw [RF_mono s1 c1 hRF (fun _ h => h) (Int.le_refl _) (by omega : max 0 (v - 1) ≤ v)] at i3
    have i4 := is_plan (rows := rows.map fun r => partL r lo hi) hpp hc (fun r hr => by
      obtain ⟨r', h', rfl⟩ := List.mem_map.mp hr
      exact part_row (hR r' h')) (by rw [List.length_map]; omega) (by rw [List.length_map]; omega)
    rw [RF_part hR s1 (by omega) lo0 (show lo < hi by omega) (show hi ≤ c by omega) hRF] at i4
    obtain ⟨kb, l1, l2⟩ := least_breath hp hc he
    obtain ⟨kv, m1, m2⟩ := most_voices hp hc he
    obtain ⟨ks, n1, n2⟩ := fewest_singers hp hc he
    have hcut := law_cut (c := c) (al := al) (lo := lo) (hi := hi)
    have em : PyData.tuple [.int c, .tuple (am.map .int)] = pcD c am := rfl
    have el : PyData.tuple [.int s, .int (b + 1), .int v] = chD s (b + 1) v := rfl
    have ef : PyData.tuple [.int s, .int b, .int (max 0 (v - 1))] = chD s b (max 0 (v - 1)) := rfl
    have hcr := fun (g7 g8 g9 g10 g13 g14 g15 : SD) => cut_rows (al := partL al lo hi) (rows := rows) (lo := lo) (hi := hi) (g0 := z0) (g1 := z1) (g2' := .ls 0 d5) (g3 := z3) (g4 := .da (pcD c al)) (g5 := .da (chD s b v)) (g7 := g7) (g8 := g8) (g9 := g9) (g10 := g10) (g13 := g13) (g14 := g14) (g15 := g15) (g16 := .no) (g17 := .no) (by omega) rfl rfl
    generalize (rows.map fun r => partL r lo hi).map tI = CR at hcr i4
    obtain ⟨a13, a14, p1⟩ := each_pair (bo := (mSeq (mIfS (mNot (mT (mD (mCallN M.law_not_worse (mCons (mVar 4) (mCons (mVar 5) (mCons (mVar 13) (mCons (mVar 14) mNil)))))))) (mSeq (mRet (mV (mC (.bool false)))) mNext) mNext) mNext))
      (g := fun a b' => [z0, z1, .ls 0 d5, z3, .da (pcD c al), .da (chD s b v), .da (.tuple (rows.map tI)), .da (.int x7), .da (pcD c am), .da (chD s (b + 1) v), .da (chD s b (max 0 (v - 1))), .da (.int lo), .da (pcD (hi - lo) (partL al lo hi)), a, b', z15, .no, .no]) (z13 := z13) (z14 := z14)
      (fun _ _ _ _ => rfl) (xs := [(pcD c am, chD s b v), (pcD c al, chD s (b + 1) v), (pcD c al, chD s b (max 0 (v - 1))), (pcD (hi - lo) (partL al lo hi), chD s b v)]) (fun z hz => by
        simp only [List.mem_cons, List.not_mem_nil, or_false] at hz
        rcases hz with rfl | rfl | rfl | rfl
        · simp -implicitDefEqProofs [w1]
        · simp -implicitDefEqProofs [w2]
        · simp -implicitDefEqProofs [w3]
        · simp -implicitDefEqProofs [w4])
    obtain ⟨b13, b14, p2⟩ := each_pair (bo := (mSeq (mIfS (mT (mOp notB (mD (mCallN M.is_plan (mCons (mVar 13) (mCons (mVar 14) (mCons (mVar 6) mNil))))) (mC (.bool true)))) (mSeq (mRet (mV (mC (.bool false)))) mNext) mNext) mNext))
      (g := fun a b' => [z0, z1, .ls 0 d5, z3, .da (pcD c al), .da (chD s b v), .da (.tuple (rows.map tI)), .da (.int x7), .da (pcD c am), .da (chD s (b + 1) v), .da (chD s b (max 0 (v - 1))), .da (.int lo), .da (pcD (hi - lo) (partL al lo hi)), a, b', z15, .no, .no]) (z13 := a13) (z14 := a14)
      (fun _ _ _ _ => rfl) (xs := [(pcD c am, chD s b v), (pcD c al, chD s (b + 1) v), (pcD c al, chD s b (max 0 (v - 1)))]) (fun z hz => by
        simp only [List.mem_cons, List.not_mem_nil, or_false] at hz
        rcases hz with rfl | rfl | rfl
        · simp -implicitDefEqProofs [i1]
        · simp -implicitDefEqProofs [i2]
        · simp -implicitDefEqProofs [i3])
    simp only [List.map_cons, List.map_nil] at p1 p2
    refine ⟨d5, .da (pcD c al), .da (chD s b v), .da (.tuple (rows.map tI)), .da (.int x7), .da (pcD c am), .da (chD s (b + 1) v), .da (chD s b (max 0 (v - 1))), .da (.int lo), .da (pcD (hi - lo) (partL al lo hi)), b13, b14, .da (.tuple CR), o5.mono (by omega), .inl ?_⟩
    have q1 : ¬ (b < kb) := by omega
    have q2 : ¬ (kv < v) := by omega
    have q3 : ¬ (s < ks) := by omega
    simp -implicitDefEqProofs [e1, e2, hcs, hpf, e3, hcat, hss, em, el, ef, e4, e5, ← hhi, hcut]
    rw [p1]
    simp -implicitDefEqProofs
    rw [p2]
    simp -implicitDefEqProofs [hcr]
    simp -implicitDefEqProofs [i4, l1, m1, n1, q1, q2, q3]
theorem k16_cell (n : Int) (z0 z2 z3 z4 z5 z6 z7 z8 z9 z10 z11 z12 z13 z14 z15 : SD) : ∃ z2' z3' z4' z5' z6' z7' z8' z9' z10' z11' z12' z13' z14' z15', ((mSeq (mSet 2 (mCallN M.law_deck (mCons (mVar 1) (mCons (mC (.int 16)) mNil)))) (mSeq (mFor (mIA fRg1 (mCons (mC (.int 3)) mNil)) (gN 3) (mSeq (mPar 4 5 (wCons (mV (mD (mCallO M.law_song 2 (mCons (mC (.int 2)) (mCons (mC (.int 60)) mNil))))) (wCons (mV (mD (mCallO M.law_group 2 (mCons (mC (.int 20)) (mCons (mC (.int 20)) mNil))))) wNil))) (mSeq (mIfS (mNot (mT (mD (mCallN M.can_sing (mCons (mVar 4) (mCons (mVar 5) mNil)))))) (mSeq mCont mNext) mNext) (mSeq (mSet 6 (mV (mD (mCallN M.plan_for (mCons (mVar 4) (mCons (mVar 5) mNil)))))) (mSeq (mSet 7 (mV (mD (mCallO M.law_pick 2 (mCons (mOp ixT (mVar 4) (mC (.int 0))) mNil))))) (mSeq (mSet 8 (mV (mTup (mCons (mOp ixT (mVar 4) (mC (.int 0))) (mCons (mCb fTuple (mCons (mD (mSset (mOp catT (mOp ixT (mVar 4) (mC (.int 1))) (mTup (mCons (mVar 7) mNil))))) mNil)) mNil))))) (mSeq (mPar 9 10 (wCons (mV (mTup (mCons (mOp ixT (mVar 5) (mC (.int 0))) (mCons (mOp addI (mOp ixT (mVar 5) (mC (.int 1))) (mC (.int 1))) (mCons (mOp ixT (mVar 5) (mC (.int 2))) mNil))))) (wCons (mV (mTup (mCons (mOp ixT (mVar 5) (mC (.int 0))) (mCons (mOp ixT (mVar 5) (mC (.int 1))) (mCons (mCb fMax2 (mCons (mC (.int 0)) (mCons (mOp subI (mOp ixT (mVar 5) (mC (.int 2))) (mC (.int 1))) mNil))) mNil))))) wNil))) (mSeq (mSet 11 (mV (mD (mCallO M.law_pick 2 (mCons (mOp ixT (mVar 4) (mC (.int 0))) mNil))))) (mSeq (mSet 12 (mV (mD (mCallN M.law_cut (mCons (mVar 4) (mCons (mVar 11) (mCons (mOp addI (mOp addI (mVar 11) (mC (.int 1))) (mD (mCallO M.law_pick 2 (mCons (mOp subI (mOp ixT (mVar 4) (mC (.int 0))) (mVar 11)) mNil)))) mNil))))))) (mSeq (mFor (mI1 lst? (mD (mLst (mCons (mTup (mCons (mVar 8) (mCons (mVar 5) mNil))) (mCons (mTup (mCons (mVar 4) (mCons (mVar 9) mNil))) (mCons (mTup (mCons (mVar 4) (mCons (mVar 10) mNil))) (mCons (mTup (mCons (mVar 12) (mCons (mVar 5) mNil))) mNil))))))) (g2 13 14) (mSeq (mIfS (mNot (mT (mD (mCallN M.law_not_worse (mCons (mVar 4) (mCons (mVar 5) (mCons (mVar 13) (mCons (mVar 14) mNil)))))))) (mSeq (mRet (mV (mC (.bool false)))) mNext) mNext) mNext)) (mSeq (mFor (mI1 lst? (mD (mLst (mCons (mTup (mCons (mVar 8) (mCons (mVar 5) mNil))) (mCons (mTup (mCons (mVar 4) (mCons (mVar 9) mNil))) (mCons (mTup (mCons (mVar 4) (mCons (mVar 10) mNil))) mNil)))))) (g2 13 14) (mSeq (mIfS (mT (mOp notB (mD (mCallN M.is_plan (mCons (mVar 13) (mCons (mVar 14) (mCons (mVar 6) mNil))))) (mC (.bool true)))) (mSeq (mRet (mV (mC (.bool false)))) mNext) mNext) mNext)) (mSeq (mSet 15 (mV (mCb fTuple (mCons (mD (mLc (mI1 tup? (mVar 6)) (gN 16) mYes (mCb fTuple (mCons (mD (mLc (mI1 tup? (mVar 16)) (gN 17) (mT (mChain leI ltI (mVar 11) (mVar 17) (mOp addI (mVar 11) (mOp ixT (mVar 12) (mC (.int 0)))))) (mOp subI (mVar 17) (mVar 11)) [17])) mNil)) [16])) mNil)))) (mSeq (mIfS (mT (mOp notB (mD (mCallN M.is_plan (mCons (mVar 12) (mCons (mVar 5) (mCons (mVar 15) mNil))))) (mC (.bool true)))) (mSeq (mRet (mV (mC (.bool false)))) mNext) mNext) (mSeq (mIfS (mT (mOp gtI (mD (mCallN M.least_breath (mCons (mVar 4) (mCons (mOp ixT (mVar 5) (mC (.int 0))) (mCons (mOp ixT (mVar 5) (mC (.int 2))) mNil))))) (mOp ixT (mVar 5) (mC (.int 1))))) (mSeq (mRet (mV (mC (.bool false)))) mNext) mNext) (mSeq (mIfS (mOr (mT (mOp ltI (mD (mCallN M.most_voices (mCons (mVar 4) (mCons (mOp ixT (mVar 5) (mC (.int 0))) (mCons (mOp ixT (mVar 5) (mC (.int 1))) mNil))))) (mOp ixT (mVar 5) (mC (.int 2))))) (mT (mOp gtI (mD (mCallN M.fewest_singers (mCons (mVar 4) (mCons (mOp ixT (mVar 5) (mC (.int 1))) (mCons (mOp ixT (mVar 5) (mC (.int 2))) mNil))))) (mOp ixT (mVar 5) (mC (.int 0)))))) (mSeq (mRet (mV (mC (.bool false)))) mNext) mNext) mNext))))))))))))))) mNext))) [z0, .da (.int n), z2, z3, z4, z5, z6, z7, z8, z9, z10, z11, z12, z13, z14, z15, .no, .no] =
    .ok (.nx [z0, .da (.int n), z2', z3', z4', z5', z6', z7', z8', z9', z10', z11', z12', z13', z14', z15', .no, .no]) := by
  obtain ⟨d0, e0, o0⟩ := deck n 16 (by decide)
  obtain ⟨⟨d, z3, z4, z5, z6, z7, z8, z9, z10, z11, z12, z13, z14, z15⟩, h1, _⟩ := forL_ex (tg := gN 3) (bo := (mSeq (mPar 4 5 (wCons (mV (mD (mCallO M.law_song 2 (mCons (mC (.int 2)) (mCons (mC (.int 60)) mNil))))) (wCons (mV (mD (mCallO M.law_group 2 (mCons (mC (.int 20)) (mCons (mC (.int 20)) mNil))))) wNil))) (mSeq (mIfS (mNot (mT (mD (mCallN M.can_sing (mCons (mVar 4) (mCons (mVar 5) mNil)))))) (mSeq mCont mNext) mNext) (mSeq (mSet 6 (mV (mD (mCallN M.plan_for (mCons (mVar 4) (mCons (mVar 5) mNil)))))) (mSeq (mSet 7 (mV (mD (mCallO M.law_pick 2 (mCons (mOp ixT (mVar 4) (mC (.int 0))) mNil))))) (mSeq (mSet 8 (mV (mTup (mCons (mOp ixT (mVar 4) (mC (.int 0))) (mCons (mCb fTuple (mCons (mD (mSset (mOp catT (mOp ixT (mVar 4) (mC (.int 1))) (mTup (mCons (mVar 7) mNil))))) mNil)) mNil))))) (mSeq (mPar 9 10 (wCons (mV (mTup (mCons (mOp ixT (mVar 5) (mC (.int 0))) (mCons (mOp addI (mOp ixT (mVar 5) (mC (.int 1))) (mC (.int 1))) (mCons (mOp ixT (mVar 5) (mC (.int 2))) mNil))))) (wCons (mV (mTup (mCons (mOp ixT (mVar 5) (mC (.int 0))) (mCons (mOp ixT (mVar 5) (mC (.int 1))) (mCons (mCb fMax2 (mCons (mC (.int 0)) (mCons (mOp subI (mOp ixT (mVar 5) (mC (.int 2))) (mC (.int 1))) mNil))) mNil))))) wNil))) (mSeq (mSet 11 (mV (mD (mCallO M.law_pick 2 (mCons (mOp ixT (mVar 4) (mC (.int 0))) mNil))))) (mSeq (mSet 12 (mV (mD (mCallN M.law_cut (mCons (mVar 4) (mCons (mVar 11) (mCons (mOp addI (mOp addI (mVar 11) (mC (.int 1))) (mD (mCallO M.law_pick 2 (mCons (mOp subI (mOp ixT (mVar 4) (mC (.int 0))) (mVar 11)) mNil)))) mNil))))))) (mSeq (mFor (mI1 lst? (mD (mLst (mCons (mTup (mCons (mVar 8) (mCons (mVar 5) mNil))) (mCons (mTup (mCons (mVar 4) (mCons (mVar 9) mNil))) (mCons (mTup (mCons (mVar 4) (mCons (mVar 10) mNil))) (mCons (mTup (mCons (mVar 12) (mCons (mVar 5) mNil))) mNil))))))) (g2 13 14) (mSeq (mIfS (mNot (mT (mD (mCallN M.law_not_worse (mCons (mVar 4) (mCons (mVar 5) (mCons (mVar 13) (mCons (mVar 14) mNil)))))))) (mSeq (mRet (mV (mC (.bool false)))) mNext) mNext) mNext)) (mSeq (mFor (mI1 lst? (mD (mLst (mCons (mTup (mCons (mVar 8) (mCons (mVar 5) mNil))) (mCons (mTup (mCons (mVar 4) (mCons (mVar 9) mNil))) (mCons (mTup (mCons (mVar 4) (mCons (mVar 10) mNil))) mNil)))))) (g2 13 14) (mSeq (mIfS (mT (mOp notB (mD (mCallN M.is_plan (mCons (mVar 13) (mCons (mVar 14) (mCons (mVar 6) mNil))))) (mC (.bool true)))) (mSeq (mRet (mV (mC (.bool false)))) mNext) mNext) mNext)) (mSeq (mSet 15 (mV (mCb fTuple (mCons (mD (mLc (mI1 tup? (mVar 6)) (gN 16) mYes (mCb fTuple (mCons (mD (mLc (mI1 tup? (mVar 16)) (gN 17) (mT (mChain leI ltI (mVar 11) (mVar 17) (mOp addI (mVar 11) (mOp ixT (mVar 12) (mC (.int 0)))))) (mOp subI (mVar 17) (mVar 11)) [17])) mNil)) [16])) mNil)))) (mSeq (mIfS (mT (mOp notB (mD (mCallN M.is_plan (mCons (mVar 12) (mCons (mVar 5) (mCons (mVar 15) mNil))))) (mC (.bool true)))) (mSeq (mRet (mV (mC (.bool false)))) mNext) mNext) (mSeq (mIfS (mT (mOp gtI (mD (mCallN M.least_breath (mCons (mVar 4) (mCons (mOp ixT (mVar 5) (mC (.int 0))) (mCons (mOp ixT (mVar 5) (mC (.int 2))) mNil))))) (mOp ixT (mVar 5) (mC (.int 1))))) (mSeq (mRet (mV (mC (.bool false)))) mNext) mNext) (mSeq (mIfS (mOr (mT (mOp ltI (mD (mCallN M.most_voices (mCons (mVar 4) (mCons (mOp ixT (mVar 5) (mC (.int 0))) (mCons (mOp ixT (mVar 5) (mC (.int 1))) mNil))))) (mOp ixT (mVar 5) (mC (.int 2))))) (mT (mOp gtI (mD (mCallN M.fewest_singers (mCons (mVar 4) (mCons (mOp ixT (mVar 5) (mC (.int 1))) (mCons (mOp ixT (mVar 5) (mC (.int 2))) mNil))))) (mOp ixT (mVar 5) (mC (.int 0)))))) (mSeq (mRet (mV (mC (.bool false)))) mNext) mNext) mNext))))))))))))))) PyData.int
    (fun st : List PyData × SD × SD × SD × SD × SD × SD × SD × SD × SD × SD × SD × SD × SD => [z0, .da (.int n), .ls 0 st.1, st.2.1, st.2.2.1, st.2.2.2.1, st.2.2.2.2.1, st.2.2.2.2.2.1, st.2.2.2.2.2.2.1, st.2.2.2.2.2.2.2.1, st.2.2.2.2.2.2.2.2.1, st.2.2.2.2.2.2.2.2.2.1, st.2.2.2.2.2.2.2.2.2.2.1, st.2.2.2.2.2.2.2.2.2.2.2.1, st.2.2.2.2.2.2.2.2.2.2.2.2.1, st.2.2.2.2.2.2.2.2.2.2.2.2.2, .no, .no])
    (fun k st => DeckOk (16 + 200 * k) st.1) (rng 0 3) 0 (d0, z3, z4, z5, z6, z7, z8, z9, z10, z11, z12, z13, z14, z15) (o0.mono (by omega)) (by
      rintro i x hi ⟨d, z3, z4, z5, z6, z7, z8, z9, z10, z11, z12, z13, z14, z15⟩ o
      have o : DeckOk (16 + 200 * ((0 + i : Nat) : Int)) d := o
      have hil := (List.getElem?_eq_some_iff.mp hi).1
      rw [rng_len] at hil
      obtain ⟨d', z4', z5', z6', z7', z8', z9', z10', z11', z12', z13', z14', z15', o', q⟩ := k16_turn o (by omega) z0 (.da (.int n)) (.da (.int x)) z4 z5 z6 z7 z8 z9 z10 z11 z12 z13 z14 z15
      refine ⟨(d', .da (.int x), z4', z5', z6', z7', z8', z9', z10', z11', z12', z13', z14', z15'), o'.mono (by omega), _, rfl, ?_⟩
      rcases q with q | q
      · exact .inl q
      · exact .inr q)
  refine ⟨.ls 0 d, z3, z4, z5, z6, z7, z8, z9, z10, z11, z12, z13, z14, z15, ?_⟩
  simp -implicitDefEqProofs [e0, fRg1_ap (n := 3) (by decide) (by decide)]
  rw [h1]
  simp -implicitDefEqProofs
theorem k16_true (ns : List Int) (h : ns.length ≤ 63) : M.k16_law [.list (ns.map .int)] = .ok (.bool true) := by
  unfold M.k16_law M.b_k16_law
  rw [runD_eq rfl]
  have hcat := cells_cat ns h
  obtain ⟨cs, hcs⟩ : ∃ cs, cs = (0 :: ns).take 10 := ⟨_, rfl⟩
  have hcut : cutD (.int 0 :: ns.map .int) none (some 10) = cs.map .int := by rw [hcs]; exact cells_cut ns 10
  obtain ⟨⟨z1, z2, z3, z4, z5, z6, z7, z8, z9, z10, z11, z12, z13, z14, z15⟩, h1, _⟩ := forL_ex (tg := gN 1) (bo := (mSeq (mSet 2 (mCallN M.law_deck (mCons (mVar 1) (mCons (mC (.int 16)) mNil)))) (mSeq (mFor (mIA fRg1 (mCons (mC (.int 3)) mNil)) (gN 3) (mSeq (mPar 4 5 (wCons (mV (mD (mCallO M.law_song 2 (mCons (mC (.int 2)) (mCons (mC (.int 60)) mNil))))) (wCons (mV (mD (mCallO M.law_group 2 (mCons (mC (.int 20)) (mCons (mC (.int 20)) mNil))))) wNil))) (mSeq (mIfS (mNot (mT (mD (mCallN M.can_sing (mCons (mVar 4) (mCons (mVar 5) mNil)))))) (mSeq mCont mNext) mNext) (mSeq (mSet 6 (mV (mD (mCallN M.plan_for (mCons (mVar 4) (mCons (mVar 5) mNil)))))) (mSeq (mSet 7 (mV (mD (mCallO M.law_pick 2 (mCons (mOp ixT (mVar 4) (mC (.int 0))) mNil))))) (mSeq (mSet 8 (mV (mTup (mCons (mOp ixT (mVar 4) (mC (.int 0))) (mCons (mCb fTuple (mCons (mD (mSset (mOp catT (mOp ixT (mVar 4) (mC (.int 1))) (mTup (mCons (mVar 7) mNil))))) mNil)) mNil))))) (mSeq (mPar 9 10 (wCons (mV (mTup (mCons (mOp ixT (mVar 5) (mC (.int 0))) (mCons (mOp addI (mOp ixT (mVar 5) (mC (.int 1))) (mC (.int 1))) (mCons (mOp ixT (mVar 5) (mC (.int 2))) mNil))))) (wCons (mV (mTup (mCons (mOp ixT (mVar 5) (mC (.int 0))) (mCons (mOp ixT (mVar 5) (mC (.int 1))) (mCons (mCb fMax2 (mCons (mC (.int 0)) (mCons (mOp subI (mOp ixT (mVar 5) (mC (.int 2))) (mC (.int 1))) mNil))) mNil))))) wNil))) (mSeq (mSet 11 (mV (mD (mCallO M.law_pick 2 (mCons (mOp ixT (mVar 4) (mC (.int 0))) mNil))))) (mSeq (mSet 12 (mV (mD (mCallN M.law_cut (mCons (mVar 4) (mCons (mVar 11) (mCons (mOp addI (mOp addI (mVar 11) (mC (.int 1))) (mD (mCallO M.law_pick 2 (mCons (mOp subI (mOp ixT (mVar 4) (mC (.int 0))) (mVar 11)) mNil)))) mNil))))))) (mSeq (mFor (mI1 lst? (mD (mLst (mCons (mTup (mCons (mVar 8) (mCons (mVar 5) mNil))) (mCons (mTup (mCons (mVar 4) (mCons (mVar 9) mNil))) (mCons (mTup (mCons (mVar 4) (mCons (mVar 10) mNil))) (mCons (mTup (mCons (mVar 12) (mCons (mVar 5) mNil))) mNil))))))) (g2 13 14) (mSeq (mIfS (mNot (mT (mD (mCallN M.law_not_worse (mCons (mVar 4) (mCons (mVar 5) (mCons (mVar 13) (mCons (mVar 14) mNil)))))))) (mSeq (mRet (mV (mC (.bool false)))) mNext) mNext) mNext)) (mSeq (mFor (mI1 lst? (mD (mLst (mCons (mTup (mCons (mVar 8) (mCons (mVar 5) mNil))) (mCons (mTup (mCons (mVar 4) (mCons (mVar 9) mNil))) (mCons (mTup (mCons (mVar 4) (mCons (mVar 10) mNil))) mNil)))))) (g2 13 14) (mSeq (mIfS (mT (mOp notB (mD (mCallN M.is_plan (mCons (mVar 13) (mCons (mVar 14) (mCons (mVar 6) mNil))))) (mC (.bool true)))) (mSeq (mRet (mV (mC (.bool false)))) mNext) mNext) mNext)) (mSeq (mSet 15 (mV (mCb fTuple (mCons (mD (mLc (mI1 tup? (mVar 6)) (gN 16) mYes (mCb fTuple (mCons (mD (mLc (mI1 tup? (mVar 16)) (gN 17) (mT (mChain leI ltI (mVar 11) (mVar 17) (mOp addI (mVar 11) (mOp ixT (mVar 12) (mC (.int 0)))))) (mOp subI (mVar 17) (mVar 11)) [17])) mNil)) [16])) mNil)))) (mSeq (mIfS (mT (mOp notB (mD (mCallN M.is_plan (mCons (mVar 12) (mCons (mVar 5) (mCons (mVar 15) mNil))))) (mC (.bool true)))) (mSeq (mRet (mV (mC (.bool false)))) mNext) mNext) (mSeq (mIfS (mT (mOp gtI (mD (mCallN M.least_breath (mCons (mVar 4) (mCons (mOp ixT (mVar 5) (mC (.int 0))) (mCons (mOp ixT (mVar 5) (mC (.int 2))) mNil))))) (mOp ixT (mVar 5) (mC (.int 1))))) (mSeq (mRet (mV (mC (.bool false)))) mNext) mNext) (mSeq (mIfS (mOr (mT (mOp ltI (mD (mCallN M.most_voices (mCons (mVar 4) (mCons (mOp ixT (mVar 5) (mC (.int 0))) (mCons (mOp ixT (mVar 5) (mC (.int 1))) mNil))))) (mOp ixT (mVar 5) (mC (.int 2))))) (mT (mOp gtI (mD (mCallN M.fewest_singers (mCons (mVar 4) (mCons (mOp ixT (mVar 5) (mC (.int 1))) (mCons (mOp ixT (mVar 5) (mC (.int 2))) mNil))))) (mOp ixT (mVar 5) (mC (.int 0)))))) (mSeq (mRet (mV (mC (.bool false)))) mNext) mNext) mNext))))))))))))))) mNext))) PyData.int
    (fun st : SD × SD × SD × SD × SD × SD × SD × SD × SD × SD × SD × SD × SD × SD × SD => [.da (.list (ns.map .int)), st.1, st.2.1, st.2.2.1, st.2.2.2.1, st.2.2.2.2.1, st.2.2.2.2.2.1, st.2.2.2.2.2.2.1, st.2.2.2.2.2.2.2.1, st.2.2.2.2.2.2.2.2.1, st.2.2.2.2.2.2.2.2.2.1, st.2.2.2.2.2.2.2.2.2.2.1, st.2.2.2.2.2.2.2.2.2.2.2.1, st.2.2.2.2.2.2.2.2.2.2.2.2.1, st.2.2.2.2.2.2.2.2.2.2.2.2.2.1, st.2.2.2.2.2.2.2.2.2.2.2.2.2.2, .no, .no])
    (fun _ _ => True) cs 0 (.no, .no, .no, .no, .no, .no, .no, .no, .no, .no, .no, .no, .no, .no, .no) trivial (by
      rintro i x hi ⟨z1, z2, z3, z4, z5, z6, z7, z8, z9, z10, z11, z12, z13, z14, z15⟩ _
      obtain ⟨z2', z3', z4', z5', z6', z7', z8', z9', z10', z11', z12', z13', z14', z15', q⟩ := k16_cell x (.da (.list (ns.map .int))) z2 z3 z4 z5 z6 z7 z8 z9 z10 z11 z12 z13 z14 z15
      exact ⟨(.da (.int x), z2', z3', z4', z5', z6', z7', z8', z9', z10', z11', z12', z13', z14', z15'), trivial, _, rfl, .inl q⟩)
  have hp8 : ValidP 8 [0, 1, 4, 5, 6, 7] := ⟨by decide, by decide, by decide, by decide, by decide⟩
  have hpa : ValidP 8 (rng 0 8) := ⟨by decide, by decide, rngAsc, fun x hx => (mem_rng.mp hx).1, fun x hx => (mem_rng.mp hx).2⟩
  have hc1 : ValidC 3 3 2 := ⟨by decide, by decide, by decide, by decide, by decide, by decide⟩
  have hc2 : ValidC 3 4 2 := ⟨by decide, by decide, by decide, by decide, by decide, by decide⟩
  have f1 : M.can_sing [pcD 8 [0, 1, 4, 5, 6, 7], chD 3 3 2] = .ok (.bool false) := by
    rw [can_sing hp8 hc1, show en 8 [0, 1, 4, 5, 6, 7] 3 3 2 = false by decide +kernel]
  have f2 : M.can_sing [pcD 8 (rng 0 8), chD 3 3 2] = .ok (.bool true) := by
    rw [can_sing hpa hc1, show en 8 (rng 0 8) 3 3 2 = true by decide +kernel]
  have f3 : M.can_sing [pcD 8 [0, 1, 4, 5, 6, 7], chD 3 4 2] = .ok (.bool true) := by
    rw [can_sing hp8 hc2, show en 8 [0, 1, 4, 5, 6, 7] 3 4 2 = true by decide +kernel]
  have hp9 : ValidP 9 [4] := ⟨by decide, by decide, by decide, by decide, by decide⟩
  have hc4 : ValidC 2 4 0 := ⟨by decide, by decide, by decide, by decide, by decide, by decide⟩
  have f4 : M.fewest_breaths [pcD 9 [4], chD 2 4 0] = .ok (.int 2) := by
    rw [fewest_breaths hp9 hc4, if_pos (by decide +kernel), places_length fun x _ => Cov.gr_ge, show ([4].map (Cov.gr [4] 4 (fun _ => 2 - 0) (fun _ => 2) (9 - 4 : Int).toNat)).sum = 2 by decide +kernel]
  have hc5 : ValidC 1 1 0 := ⟨by decide, by decide, by decide, by decide, by decide, by decide⟩
  have f5 : M.can_sing [pcD 3 [1], chD 1 1 0] = .ok (.bool true) := by
    rw [can_sing ⟨by decide, by decide, by decide, by decide, by decide⟩ hc5, show en 3 [1] 1 1 0 = true by decide +kernel]
  have f6 : M.can_sing [pcD 4 [1], chD 1 1 0] = .ok (.bool false) := by
    rw [can_sing ⟨by decide, by decide, by decide, by decide, by decide⟩ hc5, show en 4 [1] 1 1 0 = false by decide +kernel]
  have hr8 : rg? 0 8 = some ((rng 0 8).map .int) := rg?_ap (by decide) (by decide) (by decide) (by decide) (by decide)
  simp only [pcD, chD, tI, lI, List.map_cons, List.map_nil] at f1 f2 f3 f4 f5 f6
  generalize rng 0 8 = r8 at hr8 f2
  generalize M.can_sing = fb at h1 f1 f2 f3 f5 f6 ⊢
  generalize M.fewest_breaths = fc at h1 f4 ⊢
  simp -implicitDefEqProofs [hcat, hcut]
  rw [h1]
  simp -implicitDefEqProofs [hr8, f1, f2, f3, f4, f5, f6]
end RD
theorem M.k16_law_true (ns : List Int) (h : ns.length ≤ 63) : AL.Gr M.k16_law [.list (ns.map PySem.PyData.int)] (.ok (.bool true)) := RD.k16_true ns h
namespace G
open PySem L2 TL AL
open Evl (Ex)
def top (i : Nat) : Stmt := PySem.Challenge.pw_staggerbreaths_k16_whole_more_never_take.main.body.getD i (.Pass ⟨0, 0, 0, 0⟩)
abbrev s_is_from : Stmt := top 9
def d_is_from : He.DefD := ⟨("is_from", none), "is_from", "is_from", defArgs s_is_from, defBody s_is_from, defScope s_is_from, [], []⟩
abbrev s_good_beats : Stmt := top 10
def d_good_beats : He.DefD := ⟨("good_beats", none), "good_beats", "good_beats", defArgs s_good_beats, defBody s_good_beats, defScope s_good_beats, [], []⟩
abbrev s_is_piece : Stmt := top 11
def d_is_piece : He.DefD := ⟨("is_piece", none), "is_piece", "is_piece", defArgs s_is_piece, defBody s_is_piece, defScope s_is_piece, [], []⟩
abbrev s_is_choir : Stmt := top 12
def d_is_choir : He.DefD := ⟨("is_choir", none), "is_choir", "is_choir", defArgs s_is_choir, defBody s_is_choir, defScope s_is_choir, [], []⟩
abbrev s_need_piece : Stmt := top 13
def d_need_piece : He.DefD := ⟨("need_piece", none), "need_piece", "need_piece", defArgs s_need_piece, defBody s_need_piece, defScope s_need_piece, [], []⟩
abbrev s_need_choir : Stmt := top 14
def d_need_choir : He.DefD := ⟨("need_choir", none), "need_choir", "need_choir", defArgs s_need_choir, defBody s_need_choir, defScope s_need_choir, [], []⟩
abbrev s_good_rows : Stmt := top 15
def d_good_rows : He.DefD := ⟨("good_rows", none), "good_rows", "good_rows", defArgs s_good_rows, defBody s_good_rows, defScope s_good_rows, [], []⟩
abbrev s_longest_run : Stmt := top 16
def d_longest_run : He.DefD := ⟨("longest_run", none), "longest_run", "longest_run", defArgs s_longest_run, defBody s_longest_run, defScope s_longest_run, [], []⟩
abbrev s_sounds : Stmt := top 17
def d_sounds : He.DefD := ⟨("sounds", none), "sounds", "sounds", defArgs s_sounds, defBody s_sounds, defScope s_sounds, [], []⟩
abbrev s_right_from : Stmt := top 18
def d_right_from : He.DefD := ⟨("right_from", none), "right_from", "right_from", defArgs s_right_from, defBody s_right_from, defScope s_right_from, [], []⟩
abbrev s_is_plan : Stmt := top 19
def d_is_plan : He.DefD := ⟨("is_plan", none), "is_plan", "is_plan", defArgs s_is_plan, defBody s_is_plan, defScope s_is_plan, [], []⟩
abbrev s_window_counts : Stmt := top 21
def d_window_counts : He.DefD := ⟨("window_counts", none), "window_counts", "window_counts", defArgs s_window_counts, defBody s_window_counts, defScope s_window_counts, [], []⟩
abbrev s_enough : Stmt := top 22
def d_enough : He.DefD := ⟨("enough", none), "enough", "enough", defArgs s_enough, defBody s_enough, defScope s_enough, [], []⟩
abbrev s_dealt : Stmt := top 23
def d_dealt : He.DefD := ⟨("dealt", none), "dealt", "dealt", defArgs s_dealt, defBody s_dealt, defScope s_dealt, [], []⟩
abbrev s_all_places : Stmt := top 24
def d_all_places : He.DefD := ⟨("all_places", none), "all_places", "all_places", defArgs s_all_places, defBody s_all_places, defScope s_all_places, [], []⟩
abbrev s_can_sing : Stmt := top 25
def d_can_sing : He.DefD := ⟨("can_sing", none), "can_sing", "can_sing", defArgs s_can_sing, defBody s_can_sing, defScope s_can_sing, [], []⟩
abbrev s_plan_for : Stmt := top 26
def d_plan_for : He.DefD := ⟨("plan_for", none), "plan_for", "plan_for", defArgs s_plan_for, defBody s_plan_for, defScope s_plan_for, [], []⟩
abbrev s_chosen : Stmt := top 27
def d_chosen : He.DefD := ⟨("chosen", none), "chosen", "chosen", defArgs s_chosen, defBody s_chosen, defScope s_chosen, [], []⟩
abbrev s_fewest_breaths : Stmt := top 28
def d_fewest_breaths : He.DefD := ⟨("fewest_breaths", none), "fewest_breaths", "fewest_breaths", defArgs s_fewest_breaths, defBody s_fewest_breaths, defScope s_fewest_breaths, [], []⟩
abbrev s_need_number : Stmt := top 30
def d_need_number : He.DefD := ⟨("need_number", none), "need_number", "need_number", defArgs s_need_number, defBody s_need_number, defScope s_need_number, [], []⟩
abbrev s_singers_for : Stmt := top 31
def d_singers_for : He.DefD := ⟨("singers_for", none), "singers_for", "singers_for", defArgs s_singers_for, defBody s_singers_for, defScope s_singers_for, [], []⟩
abbrev s_fewest_singers : Stmt := top 32
def d_fewest_singers : He.DefD := ⟨("fewest_singers", none), "fewest_singers", "fewest_singers", defArgs s_fewest_singers, defBody s_fewest_singers, defScope s_fewest_singers, [], []⟩
abbrev s_most_voices : Stmt := top 33
def d_most_voices : He.DefD := ⟨("most_voices", none), "most_voices", "most_voices", defArgs s_most_voices, defBody s_most_voices, defScope s_most_voices, [], []⟩
abbrev s_least_breath : Stmt := top 34
def d_least_breath : He.DefD := ⟨("least_breath", none), "least_breath", "least_breath", defArgs s_least_breath, defBody s_least_breath, defScope s_least_breath, [], []⟩
abbrev s_law_deck : Stmt := top 36
def d_law_deck : He.DefD := ⟨("_law_deck", none), "_law_deck", "_law_deck", defArgs s_law_deck, defBody s_law_deck, defScope s_law_deck, [], []⟩
abbrev s_law_pick : Stmt := top 37
def d_law_pick : He.DefD := ⟨("_law_pick", none), "_law_pick", "_law_pick", defArgs s_law_pick, defBody s_law_pick, defScope s_law_pick, [], []⟩
abbrev s_law_one : Stmt := top 38
def d_law_one : He.DefD := ⟨("_law_one", none), "_law_one", "_law_one", defArgs s_law_one, defBody s_law_one, defScope s_law_one, [], []⟩
abbrev s_law_song : Stmt := top 41
def d_law_song : He.DefD := ⟨("_law_song", none), "_law_song", "_law_song", defArgs s_law_song, defBody s_law_song, defScope s_law_song, [], []⟩
abbrev s_law_group : Stmt := top 42
def d_law_group : He.DefD := ⟨("_law_group", none), "_law_group", "_law_group", defArgs s_law_group, defBody s_law_group, defScope s_law_group, [], []⟩
abbrev s_law_not_worse : Stmt := top 43
def d_law_not_worse : He.DefD := ⟨("_law_not_worse", none), "_law_not_worse", "_law_not_worse", defArgs s_law_not_worse, defBody s_law_not_worse, defScope s_law_not_worse, [], []⟩
abbrev s_law_cut : Stmt := top 44
def d_law_cut : He.DefD := ⟨("_law_cut", none), "_law_cut", "_law_cut", defArgs s_law_cut, defBody s_law_cut, defScope s_law_cut, [], []⟩
abbrev s_law : Stmt := top 45
def d_law : He.DefD := ⟨("law", none), "law", "law", defArgs s_law, defBody s_law, defScope s_law, [], []⟩
def fn : List He.DefD := ([d_is_from, d_good_beats, d_is_piece, d_is_choir, d_need_piece, d_need_choir, d_good_rows, d_longest_run, d_sounds, d_right_from, d_is_plan, d_window_counts, d_enough, d_dealt, d_all_places, d_can_sing, d_plan_for, d_chosen, d_fewest_breaths, d_need_number, d_singers_for, d_fewest_singers, d_most_voices, d_least_breath, d_law_deck, d_law_pick, d_law_one, d_law_song, d_law_group, d_law_not_worse] : List He.DefD) ++ ([d_law_cut, d_law] : List He.DefD)
def fa : List He.Fa := ([.glo "is_from", .glo "good_beats", .glo "is_piece", .glo "is_choir", .glo "need_piece", .glo "need_choir", .glo "good_rows", .glo "longest_run", .glo "sounds", .glo "right_from", .glo "is_plan", .glo "window_counts", .glo "enough", .glo "dealt", .glo "all_places", .glo "can_sing", .glo "plan_for", .glo "chosen", .glo "fewest_breaths", .glo "need_number", .glo "singers_for", .glo "fewest_singers", .glo "most_voices", .glo "least_breath", .glo "_law_deck", .glo "_law_pick", .glo "_law_one", .glo "_law_song", .glo "_law_group", .glo "_law_not_worse"] : List He.Fa) ++ ([.glo "_law_cut", .glo "law", .free "isinstance", .free "bool", .free "int", .free "all", .free "tuple", .free "zip", .free "len", .free "list", .free "max", .free "range", .free "any", .free "min", .free "enumerate", .free "sum", .free "set", .free "sorted", .int "MOST_BEATS" 60, .int "MOST_SINGERS" 30, .glo "InvalidPiece", .exc "InvalidPiece", .glo "InvalidChoir", .exc "InvalidChoir", .glo "InvalidNumber", .exc "InvalidNumber", .glo "NotPossible", .exc "NotPossible"] : List He.Fa)
def tf : List He.Defn := []
def T0 (K : PySem.W.Frag) : List (Addr × Str) := []
structure Env (K : PySem.W.Frag) (mg : Str → Option Value) : Prop where
  c : He.SaysD fa fn K
  M : ∃ h : Heap, K.In h ∧ h.Ns mainGlobals mg
section
variable {P : Program} {w : World} {K : PySem.W.Frag} {mg : Str → Option Value} {base : Heap}
theorem hu1 {n : Nat} (h : n + 64 < cLine) : n + 1 < cLine := Nat.lt_of_le_of_lt (Nat.add_le_add_left (by decide) n) h
theorem Env.glo (T : Env K mg) (i : Nat) {x : Str} (h : fa[i]? = some (.glo x) := by rfl) : mg x = some (.ref (He.ga K x)) := let ⟨_, a, b⟩ := T.M; He.glo_ok a b (T.c.fact i h)
theorem Env.free (T : Env K mg) (i : Nat) {x : Str} (h : fa[i]? = some (.free x) := by rfl) : mg x = none := let ⟨_, a, b⟩ := T.M; He.free_ok a b (T.c.fact i h)
theorem Env.int (T : Env K mg) (i : Nat) {x : Str} {n : Int} (h : fa[i]? = some (.int x n) := by rfl) : ∃ t, mg x = some (.int n t) := let ⟨_, a, b⟩ := T.M; He.int_ok a b (T.c.fact i h)
/-! ### is_from -/
theorem sc_is_from : FnScope ["value", "low", "high"] ["value", "low", "high"] (defScope s_is_from) := ⟨rfl, rfl, rfl, by decide +kernel, rfl, by decide +kernel, by decide +kernel⟩
theorem ok_is_from (T : Env K mg) : Has P w K mg base 1 "is_from" ["value", "low", "high"] (PFt (T0 K) K (Gr M.is_from)) := by
  have m_isinstance := T.free 32 (x := "isinstance")
  have m_bool := T.free 33 (x := "bool")
  have m_int := T.free 34 (x := "int")
  obtain ⟨fd, Fd⟩ := T.c.def_ 0 (d := d_is_from) rfl
  refine ⟨fd, T.glo 0, Fd.kp, Fd.bindsN fun _ _ _ _ _ _ us hl => match us, hl with | [_, _, _], _ => rfl, ?_⟩
  refine fn_al Fd sc_is_from ?_
  intro cdv hcc A outer s H E hr
  have hu0 := hr.units
  have pE : ∀ {pn : Unit}, Passes (L2N.CX P w) (cxOf (L2N.CX P w) P w K mg base ["value", "low", "high"] "is_from" (defScope s_is_from) (He.fAd K d_is_from.at_) cdv A outer s H E) E := fun {_} => L2N.passes_call (L2N.takes_of (E := E) rfl rfl rfl rfl) (fun _ _ _ _ z => z)
  refine ⟨_, (pss_one (ps_ret (pe_and (pe_callB (kIsi K) (by rfl) m_isinstance (by decide +kernel) (pa_cons (pv 0) (pa_cons (pe_bltn (v := .ty "int") (by rfl) m_int (by decide +kernel) rfl) pa_nil))) (pe_and (pe_not (pe_callB (kIsi K) (by rfl) m_isinstance (by decide +kernel) (pa_cons (pv 0) (pa_cons (pe_bltn (v := .ty "bool") (by rfl) m_bool (by decide +kernel) rfl) pa_nil)))) (pe_one (pe_chain op_le op_le (pv 1) (pv 0) (pv 2))))))), ?_⟩
  exact (s_sq (s_rt (v_d (d_andV (d_isi kit_int d_var) (d_andV (d_notV (d_isi kit_bool d_var)) (d_chain o_le o_le d_var d_var d_var))))) s_nx)
/-! ### good_beats -/
theorem sc_good_beats : FnScope ["count", "value", "beat", "one", "other"] ["count", "value"] (defScope s_good_beats) := ⟨rfl, rfl, rfl, by decide +kernel, rfl, by decide +kernel, by decide +kernel⟩
theorem ok_good_beats (T : Env K mg) (h_is_from : Has P w K mg base 1 "is_from" ["value", "low", "high"] (PFt (T0 K) K (Gr M.is_from))) : Has P w K mg base 2 "good_beats" ["count", "value"] (PFt (T0 K) K (Gr M.good_beats)) := by
  have m_all := T.free 35 (x := "all")
  have m_isinstance := T.free 32 (x := "isinstance")
  have m_tuple := T.free 36 (x := "tuple")
  have m_zip := T.free 37 (x := "zip")
  obtain ⟨fd_is_from, g_is_from, kp_is_from, b_is_from, G_is_from⟩ := h_is_from
  obtain ⟨fd, Fd⟩ := T.c.def_ 1 (d := d_good_beats) rfl
  refine ⟨fd, T.glo 1, Fd.kp, Fd.bindsN fun _ _ _ _ _ _ us hl => match us, hl with | [_, _], _ => rfl, ?_⟩
  refine fn_al Fd sc_good_beats ?_
  intro cdv hcc A outer s H E hr
  have hu0 := hr.units
  have pE : ∀ {pn : Unit}, Passes (L2N.CX P w) (cxOf (L2N.CX P w) P w K mg base ["count", "value", "beat", "one", "other"] "good_beats" (defScope s_good_beats) (He.fAd K d_good_beats.at_) cdv A outer s H E) E := fun {_} => L2N.passes_call (L2N.takes_of (E := E) rfl rfl rfl rfl) (fun _ _ _ _ z => z)
  refine ⟨_, (pss_cons (ps_if (PW.pt (pw_or (pt_not (pt_val (pe_callB (kIsi K) (by rfl) m_isinstance (by decide +kernel) (pa_cons (pv 1) (pa_cons (pe_bltn (v := .ty "tuple") (by rfl) m_tuple (by decide +kernel) rfl) pa_nil))))) (pw_or1 (pt_not (pt_val (pe_callB (kAll K) (by rfl) m_all (by decide +kernel) (pa_cons (pe_lc (own := [("beat", 2)]) (g := (gName 2)) (tt := tYes) rfl sc_good_beats.nd (kpi_tup K (pv 1)) (blkOk_by (own := [("beat", 2)]) (by kernel_rfl)) (fun _ _ _ _ _ => (pg_name (i := 2) sc_good_beats.nd rfl (by first | exact Or.inl rfl | exact Or.inr rfl))) (fun _ _ _ _ _ => pts_nil) (fun _ _ _ _ _ => (pe_call G_is_from (hr.mono (by decide)) rfl g_is_from kp_is_from b_is_from .nil passN (pa_cons (pv 2) (pa_cons pe_int (pa_cons (pe_op op_sub (pv 0) pe_int) pa_nil)))))) pa_nil))))))) (pss_one (ps_ret pe_bl)) pss_nil) (pss_one (ps_ret (pe_callB (kAll K) (by rfl) m_all (by decide +kernel) (pa_cons (pe_lc (own := [("one", 3), ("other", 4)]) (g := (gTup K 2 (gCons (gName 3) (gCons (gName 4) gNil)))) (tt := tYes) rfl sc_good_beats.nd (kpi_zipA K (by rfl) m_zip (pa_cons (pv 1) (pa_cons (pe_slice (kSlT K) (pv 1) (po_some pe_int) po_none) pa_nil))) (blkOk_by (own := [("one", 3), ("other", 4)]) (by kernel_rfl)) (fun _ _ _ _ _ => (kpg_tup K rfl (pgs_cons (pg_name (i := 3) sc_good_beats.nd rfl (by first | exact Or.inl rfl | exact Or.inr rfl)) (pgs_cons (pg_name (i := 4) sc_good_beats.nd rfl (by first | exact Or.inl rfl | exact Or.inr rfl)) pgs_nil)))) (fun _ _ _ _ _ => pts_nil) (fun _ _ _ _ _ => (pe_cmpR op_lt (pv 3) (pv 4) (nomark _)))) pa_nil))))), ?_⟩
  exact (s_sq (s_ifs (ts_or (ts_not (ts_B (d_isi kit_tuple d_var))) (ts_not (ts_B (d_cb c_all (as_cons (d_v (v_lc (E1 := E0) (E2 := E0) (is_tup d_var) (gt_name (vs := [2])) ts_yes (d_v (v_callN (as_cons d_var (as_cons d_int (as_cons (d_op o_sub d_var d_int) as_nil))))))) as_nil))))) (s_sq (s_rt (v_d d_bl)) s_nx) s_nx) (s_sq (s_rt (v_d (d_cb c_all (as_cons (d_v (v_lc (E1 := E0) (E2 := E0) (is_zipT (as_cons d_var (as_cons (d_slT d_var (os_some d_int) os_no) as_nil))) (gt_2 (vs := [3, 4])) ts_yes (d_op o_lt d_var d_var))) as_nil)))) s_nx))
/-! ### is_piece -/
theorem sc_is_piece : FnScope ["value"] ["value"] (defScope s_is_piece) := ⟨rfl, rfl, rfl, by decide +kernel, rfl, by decide +kernel, by decide +kernel⟩
theorem ok_is_piece (T : Env K mg) (h_is_from : Has P w K mg base 1 "is_from" ["value", "low", "high"] (PFt (T0 K) K (Gr M.is_from))) (h_good_beats : Has P w K mg base 2 "good_beats" ["count", "value"] (PFt (T0 K) K (Gr M.good_beats))) : Has P w K mg base 3 "is_piece" ["value"] (PFt (T0 K) K (Gr M.is_piece)) := by
  have m_len := T.free 38 (x := "len")
  have m_isinstance := T.free 32 (x := "isinstance")
  have m_tuple := T.free 36 (x := "tuple")
  obtain ⟨t_MOST_BEATS, c_MOST_BEATS⟩ := T.int 48 (x := "MOST_BEATS")
  obtain ⟨fd_is_from, g_is_from, kp_is_from, b_is_from, G_is_from⟩ := h_is_from
  obtain ⟨fd_good_beats, g_good_beats, kp_good_beats, b_good_beats, G_good_beats⟩ := h_good_beats
  obtain ⟨fd, Fd⟩ := T.c.def_ 2 (d := d_is_piece) rfl
  refine ⟨fd, T.glo 2, Fd.kp, Fd.bindsN fun _ _ _ _ _ _ us hl => match us, hl with | [_], _ => rfl, ?_⟩
  refine fn_al Fd sc_is_piece ?_
  intro cdv hcc A outer s H E hr
  have hu0 := hr.units
  have pE : ∀ {pn : Unit}, Passes (L2N.CX P w) (cxOf (L2N.CX P w) P w K mg base ["value"] "is_piece" (defScope s_is_piece) (He.fAd K d_is_piece.at_) cdv A outer s H E) E := fun {_} => L2N.passes_call (L2N.takes_of (E := E) rfl rfl rfl rfl) (fun _ _ _ _ z => z)
  refine ⟨_, (pss_cons (ps_if (PW.pt (pw_or (pt_not (pt_val (pe_callB (kIsi K) (by rfl) m_isinstance (by decide +kernel) (pa_cons (pv 0) (pa_cons (pe_bltn (v := .ty "tuple") (by rfl) m_tuple (by decide +kernel) rfl) pa_nil))))) (pw_or (pt_cmpR op_ne (pe_callB (kLen K) (by rfl) m_len PySem.boot_len (pa_cons (pv 0) pa_nil)) pe_int (nomark _)) (pw_or1 (pt_not (pt_val (pe_call G_is_from (hr.mono (by decide)) rfl g_is_from kp_is_from b_is_from .nil (pE (pn := ())) (pa_cons (pe_ix (kIxT K) (pv 0) pe_int (fun _ _ => rfl)) (pa_cons pe_int (pa_cons (pe_glob (v := .int 60) (by rfl) c_MOST_BEATS ⟨_, rfl⟩) pa_nil)))))))))) (pss_one (ps_ret pe_bl)) pss_nil) (pss_one (ps_ret (pe_call G_good_beats (hr.mono (by decide)) rfl g_good_beats kp_good_beats b_good_beats .nil (pE (pn := ())) (pa_cons (pe_ix (kIxT K) (pv 0) pe_int (fun _ _ => rfl)) (pa_cons (pe_ix (kIxT K) (pv 0) pe_int (fun _ _ => rfl)) pa_nil)))))), ?_⟩
  exact (s_sq (s_ifs (ts_or (ts_not (ts_B (d_isi kit_tuple d_var))) (ts_or (ts_test (d_op o_ne (d_cb c_len (as_cons d_var as_nil)) d_int)) (ts_not (ts_B (d_v (v_call (as_cons (d_op o_ixT d_var d_int) (as_cons d_int (as_cons d_int as_nil))))))))) (s_sq (s_rt (v_d d_bl)) s_nx) s_nx) (s_sq (s_rt (v_call (as_cons (d_op o_ixT d_var d_int) (as_cons (d_op o_ixT d_var d_int) as_nil)))) s_nx))
/-! ### is_choir -/
theorem sc_is_choir : FnScope ["value", "singers", "breath", "voices"] ["value"] (defScope s_is_choir) := ⟨rfl, rfl, rfl, by decide +kernel, rfl, by decide +kernel, by decide +kernel⟩
theorem ok_is_choir (T : Env K mg) (h_is_from : Has P w K mg base 1 "is_from" ["value", "low", "high"] (PFt (T0 K) K (Gr M.is_from))) : Has P w K mg base 2 "is_choir" ["value"] (PFt (T0 K) K (Gr M.is_choir)) := by
  have m_len := T.free 38 (x := "len")
  have m_isinstance := T.free 32 (x := "isinstance")
  have m_tuple := T.free 36 (x := "tuple")
  obtain ⟨t_MOST_BEATS, c_MOST_BEATS⟩ := T.int 48 (x := "MOST_BEATS")
  obtain ⟨t_MOST_SINGERS, c_MOST_SINGERS⟩ := T.int 49 (x := "MOST_SINGERS")
  obtain ⟨fd_is_from, g_is_from, kp_is_from, b_is_from, G_is_from⟩ := h_is_from
  obtain ⟨fd, Fd⟩ := T.c.def_ 3 (d := d_is_choir) rfl
  refine ⟨fd, T.glo 3, Fd.kp, Fd.bindsN fun _ _ _ _ _ _ us hl => match us, hl with | [_], _ => rfl, ?_⟩
  refine fn_al Fd sc_is_choir ?_
  intro cdv hcc A outer s H E hr
  have hu0 := hr.units
  have pE : ∀ {pn : Unit}, Passes (L2N.CX P w) (cxOf (L2N.CX P w) P w K mg base ["value", "singers", "breath", "voices"] "is_choir" (defScope s_is_choir) (He.fAd K d_is_choir.at_) cdv A outer s H E) E := fun {_} => L2N.passes_call (L2N.takes_of (E := E) rfl rfl rfl rfl) (fun _ _ _ _ z => z)
  refine ⟨_, (pss_cons (ps_if (PW.pt (pw_or (pt_not (pt_val (pe_callB (kIsi K) (by rfl) m_isinstance (by decide +kernel) (pa_cons (pv 0) (pa_cons (pe_bltn (v := .ty "tuple") (by rfl) m_tuple (by decide +kernel) rfl) pa_nil))))) (pw_or1 (pt_cmpR op_ne (pe_callB (kLen K) (by rfl) m_len PySem.boot_len (pa_cons (pv 0) pa_nil)) pe_int (nomark _))))) (pss_one (ps_ret pe_bl)) pss_nil) (pss_cons (ps_asg (pv 0) (kpg_tup K rfl (pgs_cons (pg_name (i := 1) sc_is_choir.nd rfl (by first | exact Or.inl rfl | exact Or.inr rfl)) (pgs_cons (pg_name (i := 2) sc_is_choir.nd rfl (by first | exact Or.inl rfl | exact Or.inr rfl)) (pgs_cons (pg_name (i := 3) sc_is_choir.nd rfl (by first | exact Or.inl rfl | exact Or.inr rfl)) pgs_nil))))) (pss_cons (ps_if (PW.pt (pw_or (pt_not (pt_val (pe_call G_is_from (hr.mono (by decide)) rfl g_is_from kp_is_from b_is_from .nil (pE (pn := ())) (pa_cons (pv 1) (pa_cons pe_int (pa_cons (pe_glob (v := .int 30) (by rfl) c_MOST_SINGERS ⟨_, rfl⟩) pa_nil)))))) (pw_or1 (pt_not (pt_val (pe_call G_is_from (hr.mono (by decide)) rfl g_is_from kp_is_from b_is_from .nil (pE (pn := ())) (pa_cons (pv 2) (pa_cons pe_int (pa_cons (pe_glob (v := .int 60) (by rfl) c_MOST_BEATS ⟨_, rfl⟩) pa_nil))))))))) (pss_one (ps_ret pe_bl)) pss_nil) (pss_one (ps_ret (pe_call G_is_from (hr.mono (by decide)) rfl g_is_from kp_is_from b_is_from .nil (pE (pn := ())) (pa_cons (pv 3) (pa_cons pe_int (pa_cons (pv 1) pa_nil))))))))), ?_⟩
  exact (s_sq (s_ifs (ts_or (ts_not (ts_B (d_isi kit_tuple d_var))) (ts_test (d_op o_ne (d_cb c_len (as_cons d_var as_nil)) d_int))) (s_sq (s_rt (v_d d_bl)) s_nx) s_nx) (s_sq (s_asg d_var (gt_3 (vs := [1, 2, 3]))) (s_sq (s_ifs (ts_or (ts_not (ts_B (d_v (v_call (as_cons d_var (as_cons d_int (as_cons d_int as_nil))))))) (ts_not (ts_B (d_v (v_call (as_cons d_var (as_cons d_int (as_cons d_int as_nil)))))))) (s_sq (s_rt (v_d d_bl)) s_nx) s_nx) (s_sq (s_rt (v_call (as_cons d_var (as_cons d_int (as_cons d_var as_nil))))) s_nx))))
/-! ### need_piece -/
theorem sc_need_piece : FnScope ["piece"] ["piece"] (defScope s_need_piece) := ⟨rfl, rfl, rfl, by decide +kernel, rfl, by decide +kernel, by decide +kernel⟩
theorem ok_need_piece (T : Env K mg) (h_is_piece : Has P w K mg base 3 "is_piece" ["value"] (PFt (T0 K) K (Gr M.is_piece))) : Has P w K mg base 4 "need_piece" ["piece"] (PFt (T0 K) K (Gr M.need_piece)) := by
  have k_InvalidPiece := T.glo 50 (x := "InvalidPiece")
  obtain ⟨x_InvalidPiece, kk_InvalidPiece, sb_InvalidPiece, ty_InvalidPiece⟩ := He.exc_ok (T.c.fact 51 (f := .exc "InvalidPiece") rfl)
  obtain ⟨fd_is_piece, g_is_piece, kp_is_piece, b_is_piece, G_is_piece⟩ := h_is_piece
  obtain ⟨fd, Fd⟩ := T.c.def_ 4 (d := d_need_piece) rfl
  refine ⟨fd, T.glo 4, Fd.kp, Fd.bindsN fun _ _ _ _ _ _ us hl => match us, hl with | [_], _ => rfl, ?_⟩
  refine fn_al Fd sc_need_piece ?_
  intro cdv hcc A outer s H E hr
  have hu0 := hr.units
  have pE : ∀ {pn : Unit}, Passes (L2N.CX P w) (cxOf (L2N.CX P w) P w K mg base ["piece"] "need_piece" (defScope s_need_piece) (He.fAd K d_need_piece.at_) cdv A outer s H E) E := fun {_} => L2N.passes_call (L2N.takes_of (E := E) rfl rfl rfl rfl) (fun _ _ _ _ z => z)
  refine ⟨_, (pss_one (ps_if (pt_not (pt_val (pe_call G_is_piece (hr.mono (by decide)) rfl g_is_piece kp_is_piece b_is_piece .nil (pE (pn := ())) (pa_cons (pv 0) pa_nil)))) (pss_one (L2N.ps_raise rfl (L2N.takes_of (E := E) rfl rfl rfl rfl) (L2N.pmk_own PySem.F.excBase_ValueError x_InvalidPiece k_InvalidPiece kk_InvalidPiece (raises_own sb_InvalidPiece ty_InvalidPiece) rfl))) pss_nil)), ?_⟩
  exact (s_sq (s_ifs (ts_not (ts_B (d_v (v_call (as_cons d_var as_nil))))) (s_sq (s_rs rfl) s_nx) s_nx) s_nx)
/-! ### need_choir -/
theorem sc_need_choir : FnScope ["piece", "choir"] ["piece", "choir"] (defScope s_need_choir) := ⟨rfl, rfl, rfl, by decide +kernel, rfl, by decide +kernel, by decide +kernel⟩
theorem ok_need_choir (T : Env K mg) (h_need_piece : Has P w K mg base 4 "need_piece" ["piece"] (PFt (T0 K) K (Gr M.need_piece))) (h_is_choir : Has P w K mg base 2 "is_choir" ["value"] (PFt (T0 K) K (Gr M.is_choir))) : Has P w K mg base 5 "need_choir" ["piece", "choir"] (PFt (T0 K) K (Gr M.need_choir)) := by
  have k_InvalidChoir := T.glo 52 (x := "InvalidChoir")
  obtain ⟨x_InvalidChoir, kk_InvalidChoir, sb_InvalidChoir, ty_InvalidChoir⟩ := He.exc_ok (T.c.fact 53 (f := .exc "InvalidChoir") rfl)
  obtain ⟨fd_need_piece, g_need_piece, kp_need_piece, b_need_piece, G_need_piece⟩ := h_need_piece
  obtain ⟨fd_is_choir, g_is_choir, kp_is_choir, b_is_choir, G_is_choir⟩ := h_is_choir
  obtain ⟨fd, Fd⟩ := T.c.def_ 5 (d := d_need_choir) rfl
  refine ⟨fd, T.glo 5, Fd.kp, Fd.bindsN fun _ _ _ _ _ _ us hl => match us, hl with | [_, _], _ => rfl, ?_⟩
  refine fn_al Fd sc_need_choir ?_
  intro cdv hcc A outer s H E hr
  have hu0 := hr.units
  have pE : ∀ {pn : Unit}, Passes (L2N.CX P w) (cxOf (L2N.CX P w) P w K mg base ["piece", "choir"] "need_choir" (defScope s_need_choir) (He.fAd K d_need_choir.at_) cdv A outer s H E) E := fun {_} => L2N.passes_call (L2N.takes_of (E := E) rfl rfl rfl rfl) (fun _ _ _ _ z => z)
  refine ⟨_, (pss_cons (ps_expr (pe_call G_need_piece (hr.mono (by decide)) rfl g_need_piece kp_need_piece b_need_piece .nil (pE (pn := ())) (pa_cons (pv 0) pa_nil))) (pss_one (ps_if (pt_not (pt_val (pe_call G_is_choir (hr.mono (by decide)) rfl g_is_choir kp_is_choir b_is_choir .nil (pE (pn := ())) (pa_cons (pv 1) pa_nil)))) (pss_one (L2N.ps_raise rfl (L2N.takes_of (E := E) rfl rfl rfl rfl) (L2N.pmk_own PySem.F.excBase_ValueError x_InvalidChoir k_InvalidChoir kk_InvalidChoir (raises_own sb_InvalidChoir ty_InvalidChoir) rfl))) pss_nil))), ?_⟩
  exact (s_sq (s_dr (v_call (as_cons d_var as_nil))) (s_sq (s_ifs (ts_not (ts_B (d_v (v_call (as_cons d_var as_nil))))) (s_sq (s_rs rfl) s_nx) s_nx) s_nx))
/-! ### good_rows -/
theorem sc_good_rows : FnScope ["piece", "value", "row"] ["piece", "value"] (defScope s_good_rows) := ⟨rfl, rfl, rfl, by decide +kernel, rfl, by decide +kernel, by decide +kernel⟩
theorem ok_good_rows (T : Env K mg) (h_good_beats : Has P w K mg base 2 "good_beats" ["count", "value"] (PFt (T0 K) K (Gr M.good_beats))) : Has P w K mg base 3 "good_rows" ["piece", "value"] (PFt (T0 K) K (Gr M.good_rows)) := by
  have m_len := T.free 38 (x := "len")
  have m_isinstance := T.free 32 (x := "isinstance")
  have m_tuple := T.free 36 (x := "tuple")
  have m_all := T.free 35 (x := "all")
  obtain ⟨t_MOST_SINGERS, c_MOST_SINGERS⟩ := T.int 49 (x := "MOST_SINGERS")
  obtain ⟨fd_good_beats, g_good_beats, kp_good_beats, b_good_beats, G_good_beats⟩ := h_good_beats
  obtain ⟨fd, Fd⟩ := T.c.def_ 6 (d := d_good_rows) rfl
  refine ⟨fd, T.glo 6, Fd.kp, Fd.bindsN fun _ _ _ _ _ _ us hl => match us, hl with | [_, _], _ => rfl, ?_⟩
  refine fn_al Fd sc_good_rows ?_
  intro cdv hcc A outer s H E hr
  have hu0 := hr.units
  have pE : ∀ {pn : Unit}, Passes (L2N.CX P w) (cxOf (L2N.CX P w) P w K mg base ["piece", "value", "row"] "good_rows" (defScope s_good_rows) (He.fAd K d_good_rows.at_) cdv A outer s H E) E := fun {_} => L2N.passes_call (L2N.takes_of (E := E) rfl rfl rfl rfl) (fun _ _ _ _ z => z)
  refine ⟨_, (pss_cons (ps_if (PW.pt (pw_or (pt_not (pt_val (pe_callB (kIsi K) (by rfl) m_isinstance (by decide +kernel) (pa_cons (pv 1) (pa_cons (pe_bltn (v := .ty "tuple") (by rfl) m_tuple (by decide +kernel) rfl) pa_nil))))) (pw_or1 (pt_not (pt_chain op_le op_le pe_int (pe_callB (kLen K) (by rfl) m_len PySem.boot_len (pa_cons (pv 1) pa_nil)) (pe_glob (v := .int 30) (by rfl) c_MOST_SINGERS ⟨_, rfl⟩)))))) (pss_one (ps_ret pe_bl)) pss_nil) (pss_one (ps_ret (pe_callB (kAll K) (by rfl) m_all (by decide +kernel) (pa_cons (pe_lc (own := [("row", 2)]) (g := (gName 2)) (tt := tYes) rfl sc_good_rows.nd (kpi_tup K (pv 1)) (blkOk_by (own := [("row", 2)]) (by kernel_rfl)) (fun _ _ _ _ _ => (pg_name (i := 2) sc_good_rows.nd rfl (by first | exact Or.inl rfl | exact Or.inr rfl))) (fun _ _ _ _ _ => pts_nil) (fun _ _ _ _ _ => (pe_call G_good_beats (hr.mono (by decide)) rfl g_good_beats kp_good_beats b_good_beats .nil passN (pa_cons (pe_ix (kIxT K) (pv 0) pe_int (fun _ _ => rfl)) (pa_cons (pv 2) pa_nil))))) pa_nil))))), ?_⟩
  exact (s_sq (s_ifs (ts_or (ts_not (ts_B (d_isi kit_tuple d_var))) (ts_not (ts_test (d_chain o_le o_le d_int (d_cb c_len (as_cons d_var as_nil)) d_int)))) (s_sq (s_rt (v_d d_bl)) s_nx) s_nx) (s_sq (s_rt (v_d (d_cb c_all (as_cons (d_v (v_lc (E1 := E0) (E2 := E0) (is_tup d_var) (gt_name (vs := [2])) ts_yes (d_v (v_callN (as_cons (d_op o_ixT d_var d_int) (as_cons d_var as_nil)))))) as_nil)))) s_nx))
/-! ### longest_run -/
theorem sc_longest_run : FnScope ["count", "row", "before", "ends", "one", "other"] ["count", "row", "before"] (defScope s_longest_run) := ⟨rfl, rfl, rfl, by decide +kernel, rfl, by decide +kernel, by decide +kernel⟩
theorem ok_longest_run (T : Env K mg) : Has P w K mg base 1 "longest_run" ["count", "row", "before"] (PFt (T0 K) K (Gr M.longest_run)) := by
  have m_list := T.free 39 (x := "list")
  have m_max := T.free 40 (x := "max")
  have m_zip := T.free 37 (x := "zip")
  obtain ⟨fd, Fd⟩ := T.c.def_ 7 (d := d_longest_run) rfl
  refine ⟨fd, T.glo 7, Fd.kp, Fd.bindsN fun _ _ _ _ _ _ us hl => match us, hl with | [_, _, _], _ => rfl, ?_⟩
  refine fn_al Fd sc_longest_run ?_
  intro cdv hcc A outer s H E hr
  have hu0 := hr.units
  have pE : ∀ {pn : Unit}, Passes (L2N.CX P w) (cxOf (L2N.CX P w) P w K mg base ["count", "row", "before", "ends", "one", "other"] "longest_run" (defScope s_longest_run) (He.fAd K d_longest_run.at_) cdv A outer s H E) E := fun {_} => L2N.passes_call (L2N.takes_of (E := E) rfl rfl rfl rfl) (fun _ _ _ _ z => z)
  refine ⟨_, (pss_cons (ps_set (i := 3) sc_longest_run.nd rfl (by first | exact Or.inl rfl | exact Or.inr rfl) (pe_op (kCatL K) (pe_op (kCatL K) (pe_lst (pa_cons (pe_op op_sub (pe_un un_neg pe_int) (pv 2)) pa_nil)) (pe_callTy (kList K) (by rfl) m_list (by decide +kernel) (pa_cons (pv 1) pa_nil))) (pe_lst (pa_cons (pv 0) pa_nil)))) (pss_one (ps_ret (pe_callB (kMax K) (by rfl) m_max (by decide +kernel) (pa_cons (pe_lc (own := [("one", 4), ("other", 5)]) (g := (gTup K 2 (gCons (gName 4) (gCons (gName 5) gNil)))) (tt := tYes) rfl sc_longest_run.nd (kpi_zip K (by rfl) m_zip (pa_cons (pv 3) (pa_cons (pe_slice (kSlL K) (pv 3) (po_some pe_int) po_none) pa_nil))) (blkOk_by (own := [("one", 4), ("other", 5)]) (by kernel_rfl)) (fun _ _ _ _ _ => (kpg_tup K rfl (pgs_cons (pg_name (i := 4) sc_longest_run.nd rfl (by first | exact Or.inl rfl | exact Or.inr rfl)) (pgs_cons (pg_name (i := 5) sc_longest_run.nd rfl (by first | exact Or.inl rfl | exact Or.inr rfl)) pgs_nil)))) (fun _ _ _ _ _ => pts_nil) (fun _ _ _ _ _ => (pe_op op_sub (pe_op op_sub (pv 5) (pv 4)) pe_int))) pa_nil))))), ?_⟩
  exact (s_sq (s_set (v_d (d_v (v_opL o_catL (d_v (v_opL o_catL (d_v (v_lst (as_cons (d_op o_sub (d_un u_neg d_int) d_var) as_nil))) (d_v (v_cbL c_list (as_cons d_var as_nil))))) (d_v (v_lst (as_cons d_var as_nil))))))) (s_sq (s_rt (v_d (d_cb c_max (as_cons (d_v (v_lc (E1 := E0) (E2 := E0) (is_zip (as_cons d_var (as_cons (d_v (v_slL d_var (os_some d_int) os_no)) as_nil))) (gt_2 (vs := [4, 5])) ts_yes (d_op o_sub (d_op o_sub d_var d_var) d_int))) as_nil)))) s_nx))
/-! ### sounds -/
theorem sc_sounds : FnScope ["piece", "rows", "beat", "row"] ["piece", "rows"] (defScope s_sounds) := ⟨rfl, rfl, rfl, by decide +kernel, rfl, by decide +kernel, by decide +kernel⟩
theorem ok_sounds (T : Env K mg) : Has P w K mg base 1 "sounds" ["piece", "rows"] (PFt (T0 K) K (Gr M.sounds)) := by
  have m_range := T.free 41 (x := "range")
  have m_len := T.free 38 (x := "len")
  obtain ⟨fd, Fd⟩ := T.c.def_ 8 (d := d_sounds) rfl
  refine ⟨fd, T.glo 8, Fd.kp, Fd.bindsN fun _ _ _ _ _ _ us hl => match us, hl with | [_, _], _ => rfl, ?_⟩
  refine fn_al Fd sc_sounds ?_
  intro cdv hcc A outer s H E hr
  have hu0 := hr.units
  have pE : ∀ {pn : Unit}, Passes (L2N.CX P w) (cxOf (L2N.CX P w) P w K mg base ["piece", "rows", "beat", "row"] "sounds" (defScope s_sounds) (He.fAd K d_sounds.at_) cdv A outer s H E) E := fun {_} => L2N.passes_call (L2N.takes_of (E := E) rfl rfl rfl rfl) (fun _ _ _ _ z => z)
  refine ⟨_, (pss_one (ps_ret (pe_lc (own := [("beat", 2)]) (g := (gName 2)) (tt := tYes) rfl sc_sounds.nd (pi_range1 (by rfl) m_range (pa_cons (pe_ix (kIxT K) (pv 0) pe_int (fun _ _ => rfl)) pa_nil)) (blkOk_by (own := [("beat", 2)]) (by kernel_rfl)) (fun _ _ _ _ _ => (pg_name (i := 2) sc_sounds.nd rfl (by first | exact Or.inl rfl | exact Or.inr rfl))) (fun _ _ _ _ _ => pts_nil) (fun _ _ _ _ _ => (pe_callB (kLen K) (by rfl) m_len PySem.boot_len (pa_cons (pe_lc (own := [("row", 3)]) (g := (gName 3)) rfl sc_sounds.nd (kpi_tup K (pv 1)) (blkOk_by (own := [("row", 3)]) (by kernel_rfl)) (fun _ _ _ _ _ => (pg_name (i := 3) sc_sounds.nd rfl (by first | exact Or.inl rfl | exact Or.inr rfl))) (fun _ _ _ _ _ => pts_one (pt_cmpR (kNotIn K) (pv 2) (pv 3) (by rfl))) (fun _ _ _ _ _ => (pv 3))) pa_nil)))))), ?_⟩
  exact (s_sq (s_rt (v_lc (E1 := E0) (E2 := E0) (is_rng1 (as_cons (d_op o_ixT d_var d_int) as_nil)) (gt_name (vs := [2])) ts_yes (d_cb c_len (as_cons (d_v (v_lc (E1 := E0) (E2 := E0) (is_tup d_var) (gt_name (vs := [3])) (ts_test (d_op o_in d_var d_var)) d_var)) as_nil)))) s_nx)
/-! ### right_from -/
theorem sc_right_from : FnScope ["piece", "choir", "rows", "tired", "singers", "breath", "voices", "row", "beat", "more"] ["piece", "choir", "rows", "tired"] (defScope s_right_from) := ⟨rfl, rfl, rfl, by decide +kernel, rfl, by decide +kernel, by decide +kernel⟩
theorem ok_right_from (T : Env K mg) (h_sounds : Has P w K mg base 1 "sounds" ["piece", "rows"] (PFt (T0 K) K (Gr M.sounds))) (h_longest_run : Has P w K mg base 1 "longest_run" ["count", "row", "before"] (PFt (T0 K) K (Gr M.longest_run))) : Has P w K mg base 2 "right_from" ["piece", "choir", "rows", "tired"] (PFt (T0 K) K (Gr M.right_from)) := by
  have m_any := T.free 42 (x := "any")
  have m_len := T.free 38 (x := "len")
  have m_min := T.free 43 (x := "min")
  have m_all := T.free 35 (x := "all")
  have m_zip := T.free 37 (x := "zip")
  obtain ⟨fd_sounds, g_sounds, kp_sounds, b_sounds, G_sounds⟩ := h_sounds
  obtain ⟨fd_longest_run, g_longest_run, kp_longest_run, b_longest_run, G_longest_run⟩ := h_longest_run
  obtain ⟨fd, Fd⟩ := T.c.def_ 9 (d := d_right_from) rfl
  refine ⟨fd, T.glo 9, Fd.kp, Fd.bindsN fun _ _ _ _ _ _ us hl => match us, hl with | [_, _, _, _], _ => rfl, ?_⟩
  refine fn_al Fd sc_right_from ?_
  intro cdv hcc A outer s H E hr
  have hu0 := hr.units
  have pE : ∀ {pn : Unit}, Passes (L2N.CX P w) (cxOf (L2N.CX P w) P w K mg base ["piece", "choir", "rows", "tired", "singers", "breath", "voices", "row", "beat", "more"] "right_from" (defScope s_right_from) (He.fAd K d_right_from.at_) cdv A outer s H E) E := fun {_} => L2N.passes_call (L2N.takes_of (E := E) rfl rfl rfl rfl) (fun _ _ _ _ z => z)
  refine ⟨_, (pss_cons (ps_asg (pv 1) (kpg_tup K rfl (pgs_cons (pg_name (i := 4) sc_right_from.nd rfl (by first | exact Or.inl rfl | exact Or.inr rfl)) (pgs_cons (pg_name (i := 5) sc_right_from.nd rfl (by first | exact Or.inl rfl | exact Or.inr rfl)) (pgs_cons (pg_name (i := 6) sc_right_from.nd rfl (by first | exact Or.inl rfl | exact Or.inr rfl)) pgs_nil))))) (pss_cons (ps_if (PW.pt (pw_or (pt_cmpR op_ne (pe_callB (kLen K) (by rfl) m_len PySem.boot_len (pa_cons (pv 2) pa_nil)) (pv 4) (nomark _)) (pw_or1 (pt_val (pe_callB (kAny K) (by rfl) m_any (by decide +kernel) (pa_cons (pe_lc2 (own := [("row", 7), ("beat", 8)]) (g := (gName 7)) (tt := tYes) (g1 := (gName 8)) (tt1 := tYes) (vs1 := [8]) rfl sc_right_from.nd (kpi_tup K (pv 2)) (blkOk_by (own := [("row", 7), ("beat", 8)]) (by kernel_rfl)) (by decide) (fun _ _ _ _ _ => (pg_name (i := 7) sc_right_from.nd rfl (by first | exact Or.inl rfl | exact Or.inr rfl))) (fun _ _ _ _ _ => pts_nil) (fun _ _ _ _ _ => (kpi_tup K (pv 7))) (fun _ _ _ _ _ => (pg_name (i := 8) sc_right_from.nd rfl (by first | exact Or.inl rfl | exact Or.inr rfl))) (fun _ _ _ _ _ => pts_nil) (fun _ _ _ _ _ => (pe_cmpR (kNotIn K) (pv 8) (pe_ix (kIxT K) (pv 0) pe_int (fun _ _ => rfl)) (by rfl)))) pa_nil)))))) (pss_one (ps_ret pe_bl)) pss_nil) (pss_cons (ps_if (pt_cmpR op_lt (pe_callB (kMin K) (by rfl) m_min (by decide +kernel) (pa_cons (pe_call G_sounds (hr.mono (by decide)) rfl g_sounds kp_sounds b_sounds .nil (pE (pn := ())) (pa_cons (pv 0) (pa_cons (pv 2) pa_nil))) pa_nil)) (pv 6) (nomark _)) (pss_one (ps_ret pe_bl)) pss_nil) (pss_one (ps_ret (pe_callB (kAll K) (by rfl) m_all (by decide +kernel) (pa_cons (pe_lc (own := [("row", 7), ("more", 9)]) (g := (gTup K 2 (gCons (gName 7) (gCons (gName 9) gNil)))) (tt := tYes) rfl sc_right_from.nd (kpi_zipA K (by rfl) m_zip (pa_cons (pv 2) (pa_cons (pv 3) pa_nil))) (blkOk_by (own := [("row", 7), ("more", 9)]) (by kernel_rfl)) (fun _ _ _ _ _ => (kpg_tup K rfl (pgs_cons (pg_name (i := 7) sc_right_from.nd rfl (by first | exact Or.inl rfl | exact Or.inr rfl)) (pgs_cons (pg_name (i := 9) sc_right_from.nd rfl (by first | exact Or.inl rfl | exact Or.inr rfl)) pgs_nil)))) (fun _ _ _ _ _ => pts_nil) (fun _ _ _ _ _ => (pe_cmpR op_le (pe_call G_longest_run (hr.mono (by decide)) rfl g_longest_run kp_longest_run b_longest_run .nil passN (pa_cons (pe_ix (kIxT K) (pv 0) pe_int (fun _ _ => rfl)) (pa_cons (pv 7) (pa_cons (pv 9) pa_nil)))) (pv 5) (nomark _)))) pa_nil))))))), ?_⟩
  exact (s_sq (s_asg d_var (gt_3 (vs := [4, 5, 6]))) (s_sq (s_ifs (ts_or (ts_test (d_op o_ne (d_cb c_len (as_cons d_var as_nil)) d_var)) (ts_B (d_cb c_any (as_cons (d_v (v_lc2 (E1 := E0) (E2 := E0) (is_tup d_var) (gt_name (vs := [7, 8])) (is_tup d_var) (gt_name (vs := [8])) ts_yes (d_op o_in d_var (d_op o_ixT d_var d_int)))) as_nil)))) (s_sq (s_rt (v_d d_bl)) s_nx) s_nx) (s_sq (s_ifs (ts_test (d_op o_lt (d_cb c_min (as_cons (d_v (v_call (as_cons d_var (as_cons d_var as_nil)))) as_nil)) d_var)) (s_sq (s_rt (v_d d_bl)) s_nx) s_nx) (s_sq (s_rt (v_d (d_cb c_all (as_cons (d_v (v_lc (E1 := E0) (E2 := E0) (is_zipT (as_cons d_var (as_cons d_var as_nil))) (gt_2 (vs := [7, 9])) ts_yes (d_op o_le (d_v (v_callN (as_cons (d_op o_ixT d_var d_int) (as_cons d_var (as_cons d_var as_nil))))) d_var))) as_nil)))) s_nx))))
/-! ### is_plan -/
theorem sc_is_plan : FnScope ["piece", "choir", "value"] ["piece", "choir", "value"] (defScope s_is_plan) := ⟨rfl, rfl, rfl, by decide +kernel, rfl, by decide +kernel, by decide +kernel⟩
theorem ok_is_plan (T : Env K mg) (h_need_choir : Has P w K mg base 5 "need_choir" ["piece", "choir"] (PFt (T0 K) K (Gr M.need_choir))) (h_right_from : Has P w K mg base 2 "right_from" ["piece", "choir", "rows", "tired"] (PFt (T0 K) K (Gr M.right_from))) (h_good_rows : Has P w K mg base 3 "good_rows" ["piece", "value"] (PFt (T0 K) K (Gr M.good_rows))) : Has P w K mg base 6 "is_plan" ["piece", "choir", "value"] (PFt (T0 K) K (Gr M.is_plan)) := by
  obtain ⟨fd_need_choir, g_need_choir, kp_need_choir, b_need_choir, G_need_choir⟩ := h_need_choir
  obtain ⟨fd_right_from, g_right_from, kp_right_from, b_right_from, G_right_from⟩ := h_right_from
  obtain ⟨fd_good_rows, g_good_rows, kp_good_rows, b_good_rows, G_good_rows⟩ := h_good_rows
  obtain ⟨fd, Fd⟩ := T.c.def_ 10 (d := d_is_plan) rfl
  refine ⟨fd, T.glo 10, Fd.kp, Fd.bindsN fun _ _ _ _ _ _ us hl => match us, hl with | [_, _, _], _ => rfl, ?_⟩
  refine fn_al Fd sc_is_plan ?_
  intro cdv hcc A outer s H E hr
  have hu0 := hr.units
  have pE : ∀ {pn : Unit}, Passes (L2N.CX P w) (cxOf (L2N.CX P w) P w K mg base ["piece", "choir", "value"] "is_plan" (defScope s_is_plan) (He.fAd K d_is_plan.at_) cdv A outer s H E) E := fun {_} => L2N.passes_call (L2N.takes_of (E := E) rfl rfl rfl rfl) (fun _ _ _ _ z => z)
  refine ⟨_, (pss_cons (ps_expr (pe_call G_need_choir (hr.mono (by decide)) rfl g_need_choir kp_need_choir b_need_choir .nil (pE (pn := ())) (pa_cons (pv 0) (pa_cons (pv 1) pa_nil)))) (pss_one (ps_ret (pe_and (pe_call G_good_rows (hr.mono (by decide)) rfl g_good_rows kp_good_rows b_good_rows .nil (pE (pn := ())) (pa_cons (pv 0) (pa_cons (pv 2) pa_nil))) (pe_one (pe_call G_right_from (hr.mono (by decide)) rfl g_right_from kp_right_from b_right_from .nil (pE (pn := ())) (pa_cons (pv 0) (pa_cons (pv 1) (pa_cons (pv 2) (pa_cons (pe_op (kRepT K) (pe_tup (pa_cons pe_int pa_nil)) (pe_ix (kIxT K) (pv 1) pe_int (fun _ _ => rfl))) pa_nil)))))))))), ?_⟩
  exact (s_sq (s_dr (v_call (as_cons d_var (as_cons d_var as_nil)))) (s_sq (s_rt (v_d (d_andV (d_v (v_call (as_cons d_var (as_cons d_var as_nil)))) (d_v (v_call (as_cons d_var (as_cons d_var (as_cons d_var (as_cons (d_op o_repT (d_tup (as_cons d_int as_nil)) (d_op o_ixT d_var d_int)) as_nil))))))))) s_nx))
/-! ### window_counts -/
theorem sc_window_counts : FnScope ["piece", "breath", "count", "allowed", "start", "beat"] ["piece", "breath"] (defScope s_window_counts) := ⟨rfl, rfl, rfl, by decide +kernel, rfl, by decide +kernel, by decide +kernel⟩
theorem ok_window_counts (T : Env K mg) : Has P w K mg base 1 "window_counts" ["piece", "breath"] (PFt (T0 K) K (Gr M.window_counts)) := by
  have m_range := T.free 41 (x := "range")
  have m_len := T.free 38 (x := "len")
  obtain ⟨fd, Fd⟩ := T.c.def_ 11 (d := d_window_counts) rfl
  refine ⟨fd, T.glo 11, Fd.kp, Fd.bindsN fun _ _ _ _ _ _ us hl => match us, hl with | [_, _], _ => rfl, ?_⟩
  refine fn_al Fd sc_window_counts ?_
  intro cdv hcc A outer s H E hr
  have hu0 := hr.units
  have pE : ∀ {pn : Unit}, Passes (L2N.CX P w) (cxOf (L2N.CX P w) P w K mg base ["piece", "breath", "count", "allowed", "start", "beat"] "window_counts" (defScope s_window_counts) (He.fAd K d_window_counts.at_) cdv A outer s H E) E := fun {_} => L2N.passes_call (L2N.takes_of (E := E) rfl rfl rfl rfl) (fun _ _ _ _ z => z)
  refine ⟨_, (pss_cons (ps_asg (pv 0) (kpg_tup K rfl (pgs_cons (pg_name (i := 2) sc_window_counts.nd rfl (by first | exact Or.inl rfl | exact Or.inr rfl)) (pgs_cons (pg_name (i := 3) sc_window_counts.nd rfl (by first | exact Or.inl rfl | exact Or.inr rfl)) pgs_nil)))) (pss_one (ps_ret (pe_lc (own := [("start", 4)]) (g := (gName 4)) (tt := tYes) rfl sc_window_counts.nd (pi_range1 (by rfl) m_range (pa_cons (pe_op op_sub (pv 2) (pv 1)) pa_nil)) (blkOk_by (own := [("start", 4)]) (by kernel_rfl)) (fun _ _ _ _ _ => (pg_name (i := 4) sc_window_counts.nd rfl (by first | exact Or.inl rfl | exact Or.inr rfl))) (fun _ _ _ _ _ => pts_nil) (fun _ _ _ _ _ => (pe_callB (kLen K) (by rfl) m_len PySem.boot_len (pa_cons (pe_lc (own := [("beat", 5)]) (g := (gName 5)) rfl sc_window_counts.nd (kpi_tup K (pv 3)) (blkOk_by (own := [("beat", 5)]) (by kernel_rfl)) (fun _ _ _ _ _ => (pg_name (i := 5) sc_window_counts.nd rfl (by first | exact Or.inl rfl | exact Or.inr rfl))) (fun _ _ _ _ _ => pts_one (pt_chain op_le op_le (pv 4) (pv 5) (pe_op op_add (pv 4) (pv 1)))) (fun _ _ _ _ _ => (pv 5))) pa_nil))))))), ?_⟩
  exact (s_sq (s_asg d_var (gt_2 (vs := [2, 3]))) (s_sq (s_rt (v_lc (E1 := E0) (E2 := E0) (is_rng1 (as_cons (d_op o_sub d_var d_var) as_nil)) (gt_name (vs := [4])) ts_yes (d_cb c_len (as_cons (d_v (v_lc (E1 := E0) (E2 := E0) (is_tup d_var) (gt_name (vs := [5])) (ts_test (d_chain o_le o_le d_var d_var (d_op o_add d_var d_var))) d_var)) as_nil)))) s_nx))
/-! ### enough -/
theorem sc_enough : FnScope ["piece", "choir", "singers", "breath", "voices", "many"] ["piece", "choir"] (defScope s_enough) := ⟨rfl, rfl, rfl, by decide +kernel, rfl, by decide +kernel, by decide +kernel⟩
theorem ok_enough (T : Env K mg) (h_window_counts : Has P w K mg base 1 "window_counts" ["piece", "breath"] (PFt (T0 K) K (Gr M.window_counts))) : Has P w K mg base 2 "enough" ["piece", "choir"] (PFt (T0 K) K (Gr M.enough)) := by
  have m_all := T.free 35 (x := "all")
  obtain ⟨fd_window_counts, g_window_counts, kp_window_counts, b_window_counts, G_window_counts⟩ := h_window_counts
  obtain ⟨fd, Fd⟩ := T.c.def_ 12 (d := d_enough) rfl
  refine ⟨fd, T.glo 12, Fd.kp, Fd.bindsN fun _ _ _ _ _ _ us hl => match us, hl with | [_, _], _ => rfl, ?_⟩
  refine fn_al Fd sc_enough ?_
  intro cdv hcc A outer s H E hr
  have hu0 := hr.units
  have pE : ∀ {pn : Unit}, Passes (L2N.CX P w) (cxOf (L2N.CX P w) P w K mg base ["piece", "choir", "singers", "breath", "voices", "many"] "enough" (defScope s_enough) (He.fAd K d_enough.at_) cdv A outer s H E) E := fun {_} => L2N.passes_call (L2N.takes_of (E := E) rfl rfl rfl rfl) (fun _ _ _ _ z => z)
  refine ⟨_, (pss_cons (ps_asg (pv 1) (kpg_tup K rfl (pgs_cons (pg_name (i := 2) sc_enough.nd rfl (by first | exact Or.inl rfl | exact Or.inr rfl)) (pgs_cons (pg_name (i := 3) sc_enough.nd rfl (by first | exact Or.inl rfl | exact Or.inr rfl)) (pgs_cons (pg_name (i := 4) sc_enough.nd rfl (by first | exact Or.inl rfl | exact Or.inr rfl)) pgs_nil))))) (pss_one (ps_ret (pe_callB (kAll K) (by rfl) m_all (by decide +kernel) (pa_cons (pe_lc (own := [("many", 5)]) (g := (gName 5)) (tt := tYes) rfl sc_enough.nd (kpi_list K (pe_call G_window_counts (hr.mono (by decide)) rfl g_window_counts kp_window_counts b_window_counts .nil (pE (pn := ())) (pa_cons (pv 0) (pa_cons (pv 3) pa_nil)))) (blkOk_by (own := [("many", 5)]) (by kernel_rfl)) (fun _ _ _ _ _ => (pg_name (i := 5) sc_enough.nd rfl (by first | exact Or.inl rfl | exact Or.inr rfl))) (fun _ _ _ _ _ => pts_nil) (fun _ _ _ _ _ => (pe_cmpR op_ge (pe_op op_mul (pe_op op_sub (pv 2) (pv 4)) (pv 5)) (pv 2) (nomark _)))) pa_nil))))), ?_⟩
  exact (s_sq (s_asg d_var (gt_3 (vs := [2, 3, 4]))) (s_sq (s_rt (v_d (d_cb c_all (as_cons (d_v (v_lc (E1 := E0) (E2 := E0) (is_list (d_v (v_call (as_cons d_var (as_cons d_var as_nil))))) (gt_name (vs := [5])) ts_yes (d_op o_ge (d_op o_mul (d_op o_sub d_var d_var) d_var) d_var))) as_nil)))) s_nx))
/-! ### dealt -/
theorem sc_dealt : FnScope ["singers", "places", "order", "rows", "singer", "number", "beat", "row"] ["singers", "places", "order"] (defScope s_dealt) := ⟨rfl, rfl, rfl, by decide +kernel, rfl, by decide +kernel, by decide +kernel⟩
theorem ok_dealt (T : Env K mg) : Has P w K mg base 1 "dealt" ["singers", "places", "order"] (PFt (T0 K) K (Gr M.dealt)) := by
  have m_range := T.free 41 (x := "range")
  have m_enumerate := T.free 44 (x := "enumerate")
  have m_len := T.free 38 (x := "len")
  have m_tuple := T.free 36 (x := "tuple")
  obtain ⟨fd, Fd⟩ := T.c.def_ 13 (d := d_dealt) rfl
  refine ⟨fd, T.glo 13, Fd.kp, Fd.bindsN fun _ _ _ _ _ _ us hl => match us, hl with | [_, _, _], _ => rfl, ?_⟩
  refine fn_al Fd sc_dealt ?_
  intro cdv hcc A outer s H E hr
  have hu0 := hr.units
  have pE : ∀ {pn : Unit}, Passes (L2N.CX P w) (cxOf (L2N.CX P w) P w K mg base ["singers", "places", "order", "rows", "singer", "number", "beat", "row"] "dealt" (defScope s_dealt) (He.fAd K d_dealt.at_) cdv A outer s H E) E := fun {_} => L2N.passes_call (L2N.takes_of (E := E) rfl rfl rfl rfl) (fun _ _ _ _ z => z)
  refine ⟨_, (pss_cons (ps_setLc (i := 3) (own := [("singer", 4)]) (g := (gName 4)) (tt := tYes) rfl sc_dealt.nd  rfl rfl (sw_true rfl rfl rfl (by decide +kernel)) (pi_range1 (by rfl) m_range (pa_cons (pv 0) pa_nil)) (blkOk_by (own := [("singer", 4)]) (by kernel_rfl)) (fun _ _ _ _ _ => (pg_name (i := 4) sc_dealt.nd rfl (by first | exact Or.inl rfl | exact Or.inr rfl))) (fun _ _ _ _ _ => pts_nil) (fun _ _ _ _ _ => (pe_lst pa_nil))) (pss_cons (ps_for (passes_of rfl) rfl (kpi_enum K (by rfl) m_enumerate (pa_cons (pv 1) pa_nil)) (kpg_tup K rfl (pgs_cons (pg_name (i := 5) sc_dealt.nd rfl (by first | exact Or.inl rfl | exact Or.inr rfl)) (pgs_cons (pg_name (i := 6) sc_dealt.nd rfl (by first | exact Or.inl rfl | exact Or.inr rfl)) pgs_nil))) (pss_one (ps_expr (kApp K (pe_ix (kIxL K) (pv 3) (pe_ix (kIxL K) (pv 2) (pe_op op_mod (pv 5) (pe_callB (kLen K) (by rfl) m_len PySem.boot_len (pa_cons (pv 2) pa_nil))) (fun _ _ => rfl)) (fun _ _ => rfl)) (pa_cons (pv 6) pa_nil))))) (pss_one (ps_ret (pe_callTy (kTuple K) (by rfl) m_tuple (by decide +kernel) (pa_cons (pe_lc (own := [("row", 7)]) (g := (gName 7)) (tt := tYes) rfl sc_dealt.nd (kpi_list K (pv 3)) (blkOk_by (own := [("row", 7)]) (by kernel_rfl)) (fun _ _ _ _ _ => (pg_name (i := 7) sc_dealt.nd rfl (by first | exact Or.inl rfl | exact Or.inr rfl))) (fun _ _ _ _ _ => pts_nil) (fun _ _ _ _ _ => (pe_callTy (kTuple K) (by rfl) m_tuple (by decide +kernel) (pa_cons (pv 7) pa_nil)))) pa_nil)))))), ?_⟩
  exact (s_sq (s_set (v_nils (is_rng1 (as_cons d_var as_nil)))) (s_sq (s_fr (is_enum (as_cons d_var as_nil)) (gt_2 (vs := [5, 6])) (s_sq (s_dr (v_d (d_appLL (E1 := E0) (E2 := E0) (d_op o_ixL d_var (d_op o_mod d_var (d_cb c_len (as_cons d_var as_nil)))) d_var))) s_nx)) (s_sq (s_rt (v_bor (E1 := E0) (v_d (d_cb c_tuple (as_cons (d_v (v_lc (E1 := E0) (E2 := E0) (is_list d_var) (gt_name (vs := [7])) ts_yes (d_cb c_tuple (as_cons d_var as_nil)))) as_nil))))) s_nx)))
/-! ### all_places -/
theorem sc_all_places : FnScope ["piece", "choir", "found", "beat"] ["piece", "choir"] (defScope s_all_places) := ⟨rfl, rfl, rfl, by decide +kernel, rfl, by decide +kernel, by decide +kernel⟩
theorem ok_all_places (T : Env K mg) : Has P w K mg base 1 "all_places" ["piece", "choir"] (PFt (T0 K) K (Gr M.all_places)) := by
  obtain ⟨fd, Fd⟩ := T.c.def_ 14 (d := d_all_places) rfl
  refine ⟨fd, T.glo 14, Fd.kp, Fd.bindsN fun _ _ _ _ _ _ us hl => match us, hl with | [_, _], _ => rfl, ?_⟩
  refine fn_al Fd sc_all_places ?_
  intro cdv hcc A outer s H E hr
  have hu0 := hr.units
  have pE : ∀ {pn : Unit}, Passes (L2N.CX P w) (cxOf (L2N.CX P w) P w K mg base ["piece", "choir", "found", "beat"] "all_places" (defScope s_all_places) (He.fAd K d_all_places.at_) cdv A outer s H E) E := fun {_} => L2N.passes_call (L2N.takes_of (E := E) rfl rfl rfl rfl) (fun _ _ _ _ z => z)
  refine ⟨_, (pss_cons (ps_set (i := 2) sc_all_places.nd rfl (by first | exact Or.inl rfl | exact Or.inr rfl) (pe_lst pa_nil)) (pss_cons (ps_for (passes_of rfl) rfl (kpi_tup K (pe_ix (kIxT K) (pv 0) pe_int (fun _ _ => rfl))) (pg_name (i := 3) sc_all_places.nd rfl (by first | exact Or.inl rfl | exact Or.inr rfl)) (pss_one (ps_set (i := 2) sc_all_places.nd rfl (by first | exact Or.inl rfl | exact Or.inr rfl) (pe_op (kCatL K) (pv 2) (pe_op op_rep (pe_lst (pa_cons (pv 3) pa_nil)) (pe_op op_sub (pe_ix (kIxT K) (pv 1) pe_int (fun _ _ => rfl)) (pe_ix (kIxT K) (pv 1) pe_int (fun _ _ => rfl)))))))) (pss_one (ps_ret (pv 2))))), ?_⟩
  exact (s_sq (s_set (v_lst as_nil)) (s_sq (s_fr (is_tup (d_op o_ixT d_var d_int)) (gt_name (vs := [3])) (s_sq (s_set (v_catO (d_v (v_rep (v_lst (as_cons d_var as_nil)) (d_op o_sub (d_op o_ixT d_var d_int) (d_op o_ixT d_var d_int)))))) s_nx)) (s_sq (s_rt v_mv) s_nx)))
/-! ### can_sing -/
theorem sc_can_sing : FnScope ["piece", "choir"] ["piece", "choir"] (defScope s_can_sing) := ⟨rfl, rfl, rfl, by decide +kernel, rfl, by decide +kernel, by decide +kernel⟩
theorem ok_can_sing (T : Env K mg) (h_need_choir : Has P w K mg base 5 "need_choir" ["piece", "choir"] (PFt (T0 K) K (Gr M.need_choir))) (h_enough : Has P w K mg base 2 "enough" ["piece", "choir"] (PFt (T0 K) K (Gr M.enough))) : Has P w K mg base 6 "can_sing" ["piece", "choir"] (PFt (T0 K) K (Gr M.can_sing)) := by
  obtain ⟨fd_need_choir, g_need_choir, kp_need_choir, b_need_choir, G_need_choir⟩ := h_need_choir
  obtain ⟨fd_enough, g_enough, kp_enough, b_enough, G_enough⟩ := h_enough
  obtain ⟨fd, Fd⟩ := T.c.def_ 15 (d := d_can_sing) rfl
  refine ⟨fd, T.glo 15, Fd.kp, Fd.bindsN fun _ _ _ _ _ _ us hl => match us, hl with | [_, _], _ => rfl, ?_⟩
  refine fn_al Fd sc_can_sing ?_
  intro cdv hcc A outer s H E hr
  have hu0 := hr.units
  have pE : ∀ {pn : Unit}, Passes (L2N.CX P w) (cxOf (L2N.CX P w) P w K mg base ["piece", "choir"] "can_sing" (defScope s_can_sing) (He.fAd K d_can_sing.at_) cdv A outer s H E) E := fun {_} => L2N.passes_call (L2N.takes_of (E := E) rfl rfl rfl rfl) (fun _ _ _ _ z => z)
  refine ⟨_, (pss_cons (ps_expr (pe_call G_need_choir (hr.mono (by decide)) rfl g_need_choir kp_need_choir b_need_choir .nil (pE (pn := ())) (pa_cons (pv 0) (pa_cons (pv 1) pa_nil)))) (pss_one (ps_ret (pe_call G_enough (hr.mono (by decide)) rfl g_enough kp_enough b_enough .nil (pE (pn := ())) (pa_cons (pv 0) (pa_cons (pv 1) pa_nil)))))), ?_⟩
  exact (s_sq (s_dr (v_call (as_cons d_var (as_cons d_var as_nil)))) (s_sq (s_rt (v_call (as_cons d_var (as_cons d_var as_nil)))) s_nx))
/-! ### plan_for -/
theorem sc_plan_for : FnScope ["piece", "choir", "places"] ["piece", "choir"] (defScope s_plan_for) := ⟨rfl, rfl, rfl, by decide +kernel, rfl, by decide +kernel, by decide +kernel⟩
theorem ok_plan_for (T : Env K mg) (h_need_choir : Has P w K mg base 5 "need_choir" ["piece", "choir"] (PFt (T0 K) K (Gr M.need_choir))) (h_enough : Has P w K mg base 2 "enough" ["piece", "choir"] (PFt (T0 K) K (Gr M.enough))) (h_all_places : Has P w K mg base 1 "all_places" ["piece", "choir"] (PFt (T0 K) K (Gr M.all_places))) (h_dealt : Has P w K mg base 1 "dealt" ["singers", "places", "order"] (PFt (T0 K) K (Gr M.dealt))) : Has P w K mg base 6 "plan_for" ["piece", "choir"] (PFt (T0 K) K (Gr M.plan_for)) := by
  have m_list := T.free 39 (x := "list")
  have m_range := T.free 41 (x := "range")
  have k_NotPossible := T.glo 56 (x := "NotPossible")
  obtain ⟨x_NotPossible, kk_NotPossible, sb_NotPossible, ty_NotPossible⟩ := He.exc_ok (T.c.fact 57 (f := .exc "NotPossible") rfl)
  obtain ⟨fd_need_choir, g_need_choir, kp_need_choir, b_need_choir, G_need_choir⟩ := h_need_choir
  obtain ⟨fd_enough, g_enough, kp_enough, b_enough, G_enough⟩ := h_enough
  obtain ⟨fd_all_places, g_all_places, kp_all_places, b_all_places, G_all_places⟩ := h_all_places
  obtain ⟨fd_dealt, g_dealt, kp_dealt, b_dealt, G_dealt⟩ := h_dealt
  obtain ⟨fd, Fd⟩ := T.c.def_ 16 (d := d_plan_for) rfl
  refine ⟨fd, T.glo 16, Fd.kp, Fd.bindsN fun _ _ _ _ _ _ us hl => match us, hl with | [_, _], _ => rfl, ?_⟩
  refine fn_al Fd sc_plan_for ?_
  intro cdv hcc A outer s H E hr
  have hu0 := hr.units
  have pE : ∀ {pn : Unit}, Passes (L2N.CX P w) (cxOf (L2N.CX P w) P w K mg base ["piece", "choir", "places"] "plan_for" (defScope s_plan_for) (He.fAd K d_plan_for.at_) cdv A outer s H E) E := fun {_} => L2N.passes_call (L2N.takes_of (E := E) rfl rfl rfl rfl) (fun _ _ _ _ z => z)
  refine ⟨_, (pss_cons (ps_expr (pe_call G_need_choir (hr.mono (by decide)) rfl g_need_choir kp_need_choir b_need_choir .nil (pE (pn := ())) (pa_cons (pv 0) (pa_cons (pv 1) pa_nil)))) (pss_cons (ps_if (pt_not (pt_val (pe_call G_enough (hr.mono (by decide)) rfl g_enough kp_enough b_enough .nil (pE (pn := ())) (pa_cons (pv 0) (pa_cons (pv 1) pa_nil))))) (pss_one (L2N.ps_raise rfl (L2N.takes_of (E := E) rfl rfl rfl rfl) (L2N.pmk_own PySem.F.excBase_ValueError x_NotPossible k_NotPossible kk_NotPossible (raises_own sb_NotPossible ty_NotPossible) rfl))) pss_nil) (pss_cons (ps_set (i := 2) sc_plan_for.nd rfl (by first | exact Or.inl rfl | exact Or.inr rfl) (pe_ifExp (pt_cmpR op_gt (pe_ix (kIxT K) (pv 0) pe_int (fun _ _ => rfl)) (pe_ix (kIxT K) (pv 1) pe_int (fun _ _ => rfl)) (nomark _)) (pe_call G_all_places (hr.mono (by decide)) rfl g_all_places kp_all_places b_all_places .nil (pE (pn := ())) (pa_cons (pv 0) (pa_cons (pv 1) pa_nil))) (pe_lst pa_nil))) (pss_one (ps_ret (pe_call G_dealt (hr.mono (by decide)) rfl g_dealt kp_dealt b_dealt .nil (pE (pn := ())) (pa_cons (pe_ix (kIxT K) (pv 1) pe_int (fun _ _ => rfl)) (pa_cons (pv 2) (pa_cons (pe_listRg rfl (by rfl) m_list (prg_1 (by rfl) m_range (pe_ix (kIxT K) (pv 1) pe_int (fun _ _ => rfl)))) pa_nil))))))))), ?_⟩
  exact (s_sq (s_dr (v_call (as_cons d_var (as_cons d_var as_nil)))) (s_sq (s_ifs (ts_not (ts_B (d_v (v_call (as_cons d_var (as_cons d_var as_nil)))))) (s_sq (s_rs rfl) s_nx) s_nx) (s_sq (s_set (v_d (d_v (v_if (ts_test (d_op o_gt (d_op o_ixT d_var d_int) (d_op o_ixT d_var d_int))) (v_call (as_cons d_var (as_cons d_var as_nil))) (v_lst as_nil))))) (s_sq (s_rt (v_call (as_cons (d_op o_ixT d_var d_int) (as_cons d_var (as_cons (d_v (v_lstRg (gs_1 (d_op o_ixT d_var d_int)))) as_nil))))) s_nx))))
/-! ### chosen -/
theorem sc_chosen : FnScope ["piece", "choir", "singers", "breath", "voices", "count", "allowed", "many", "beat", "start", "inside", "lack", "more", "found"] ["piece", "choir"] (defScope s_chosen) := ⟨rfl, rfl, rfl, by decide +kernel, rfl, by decide +kernel, by decide +kernel⟩
theorem ok_chosen (T : Env K mg) : Has P w K mg base 1 "chosen" ["piece", "choir"] (PFt (T0 K) K (Gr M.chosen)) := by
  have m_range := T.free 41 (x := "range")
  have m_sum := T.free 45 (x := "sum")
  have m_max := T.free 40 (x := "max")
  have m_min := T.free 43 (x := "min")
  obtain ⟨fd, Fd⟩ := T.c.def_ 17 (d := d_chosen) rfl
  refine ⟨fd, T.glo 17, Fd.kp, Fd.bindsN fun _ _ _ _ _ _ us hl => match us, hl with | [_, _], _ => rfl, ?_⟩
  refine fn_al Fd sc_chosen ?_
  intro cdv hcc A outer s H E hr
  have hu0 := hr.units
  have pE : ∀ {pn : Unit}, Passes (L2N.CX P w) (cxOf (L2N.CX P w) P w K mg base ["piece", "choir", "singers", "breath", "voices", "count", "allowed", "many", "beat", "start", "inside", "lack", "more", "found"] "chosen" (defScope s_chosen) (He.fAd K d_chosen.at_) cdv A outer s H E) E := fun {_} => L2N.passes_call (L2N.takes_of (E := E) rfl rfl rfl rfl) (fun _ _ _ _ z => z)
  refine ⟨_, (pss_cons (ps_asg (pv 1) (kpg_tup K rfl (pgs_cons (pg_name (i := 2) sc_chosen.nd rfl (by first | exact Or.inl rfl | exact Or.inr rfl)) (pgs_cons (pg_name (i := 3) sc_chosen.nd rfl (by first | exact Or.inl rfl | exact Or.inr rfl)) (pgs_cons (pg_name (i := 4) sc_chosen.nd rfl (by first | exact Or.inl rfl | exact Or.inr rfl)) pgs_nil))))) (pss_cons (ps_asg (pv 0) (kpg_tup K rfl (pgs_cons (pg_name (i := 5) sc_chosen.nd rfl (by first | exact Or.inl rfl | exact Or.inr rfl)) (pgs_cons (pg_name (i := 6) sc_chosen.nd rfl (by first | exact Or.inl rfl | exact Or.inr rfl)) pgs_nil)))) (pss_cons (ps_set (i := 7) sc_chosen.nd rfl (by first | exact Or.inl rfl | exact Or.inr rfl) (pe_dc (own := [("beat", 8)]) (g := (gName 8)) (tt := tYes) rfl sc_chosen.nd (kpi_tup K (pv 6)) (blkOk_by (own := [("beat", 8)]) (by kernel_rfl)) (fun _ _ _ _ _ => (pg_name (i := 8) sc_chosen.nd rfl (by first | exact Or.inl rfl | exact Or.inr rfl))) (fun _ _ _ _ _ => pts_nil) (fun _ _ _ _ _ => (pv 8)) (fun _ _ _ _ _ => pe_int))) (pss_cons (ps_for (passes_of rfl) rfl (pi_range1 (by rfl) m_range (pa_cons (pe_op op_sub (pv 5) (pv 3)) pa_nil)) (pg_name (i := 9) sc_chosen.nd rfl (by first | exact Or.inl rfl | exact Or.inr rfl)) (pss_cons (ps_setLc (i := 10) (own := [("beat", 8)]) (g := (gName 8)) rfl sc_chosen.nd  rfl rfl (sw_true rfl rfl rfl (by decide +kernel)) (kpi_tup K (pv 6)) (blkOk_by (own := [("beat", 8)]) (by kernel_rfl)) (fun _ _ _ _ _ => (pg_name (i := 8) sc_chosen.nd rfl (by first | exact Or.inl rfl | exact Or.inr rfl))) (fun _ _ _ _ _ => pts_one (pt_chain op_le op_le (pv 9) (pv 8) (pe_op op_add (pv 9) (pv 3)))) (fun _ _ _ _ _ => (pv 8))) (pss_cons (ps_set (i := 11) sc_chosen.nd rfl (by first | exact Or.inl rfl | exact Or.inr rfl) (pe_op op_sub (pv 2) (pe_callB (kSum K) (by rfl) m_sum (by decide +kernel) (pa_cons (pe_lc (own := [("beat", 8)]) (g := (gName 8)) (tt := tYes) rfl sc_chosen.nd (kpi_list K (pv 10)) (blkOk_by (own := [("beat", 8)]) (by kernel_rfl)) (fun _ _ _ _ _ => (pg_name (i := 8) sc_chosen.nd rfl (by first | exact Or.inl rfl | exact Or.inr rfl))) (fun _ _ _ _ _ => pts_nil) (fun _ _ _ _ _ => (pe_dget (hu1 hu0) (pv 7) (pv 8) (fun _ _ => rfl)))) pa_nil)))) (pss_one (ps_for (passes_of rfl) rfl (kpi_list K (kRevL K (pv 10))) (pg_name (i := 8) sc_chosen.nd rfl (by first | exact Or.inl rfl | exact Or.inr rfl)) (pss_cons (ps_set (i := 12) sc_chosen.nd rfl (by first | exact Or.inl rfl | exact Or.inr rfl) (pe_callB (call_max2 rfl) (by rfl) m_max (by decide +kernel) (pa_cons pe_int (pa_cons (pe_callB (call_min2 rfl) (by rfl) m_min (by decide +kernel) (pa_cons (pv 11) (pa_cons (pe_op op_sub (pe_op op_sub (pv 2) (pv 4)) (pe_dget (hu1 hu0) (pv 7) (pv 8) (fun _ _ => rfl))) pa_nil))) pa_nil)))) (pss_cons (ps_daug (hu1 hu0) (pv 7) (pv 8) (pv 12) in_add (fun _ _ _ => rfl)) (pss_one (ps_aug (i := 11) sc_chosen.nd rfl (by first | exact Or.inl rfl | exact Or.inr rfl) (pv 12) ip_sub))))))))) (pss_cons (ps_set (i := 13) sc_chosen.nd rfl (by first | exact Or.inl rfl | exact Or.inr rfl) (pe_lst pa_nil)) (pss_cons (ps_for (passes_of rfl) rfl (kpi_tup K (pv 6)) (pg_name (i := 8) sc_chosen.nd rfl (by first | exact Or.inl rfl | exact Or.inr rfl)) (pss_one (ps_set (i := 13) sc_chosen.nd rfl (by first | exact Or.inl rfl | exact Or.inr rfl) (pe_op (kCatL K) (pv 13) (pe_op op_rep (pe_lst (pa_cons (pv 8) pa_nil)) (pe_dget (hu1 hu0) (pv 7) (pv 8) (fun _ _ => rfl))))))) (pss_one (ps_ret (pv 13))))))))), ?_⟩
  exact (s_sq (s_asg d_var (gt_3 (vs := [2, 3, 4]))) (s_sq (s_asg d_var (gt_2 (vs := [5, 6]))) (s_sq (s_set (v_dc (E1 := E0) (is_tup d_var) (gt_name (vs := [8])) d_var d_int)) (s_sq (s_fr (is_rng1 (as_cons (d_op o_sub d_var d_var) as_nil)) (gt_name (vs := [9])) (s_sq (s_set (v_d (d_v (v_lc (E1 := E0) (E2 := E0) (is_tup d_var) (gt_name (vs := [8])) (ts_test (d_chain o_le o_le d_var d_var (d_op o_add d_var d_var))) d_var)))) (s_sq (s_set (v_d (d_op o_sub d_var (d_cb c_sum (as_cons (d_v (v_lc (E1 := E0) (E2 := E0) (is_list d_var) (gt_name (vs := [8])) ts_yes (d_dget d_var))) as_nil))))) (s_sq (s_fr (is_list (d_v (v_revL d_var))) (gt_name (vs := [8])) (s_sq (s_set (v_d (d_cb (c_max2) (as_cons d_int (as_cons (d_cb (c_min2) (as_cons d_var (as_cons (d_op o_sub (d_op o_sub d_var d_var) (d_dget d_var)) as_nil))) as_nil))))) (s_sq (s_daug d_var d_var) (s_sq (s_aug d_var) s_nx)))) s_nx)))) (s_sq (s_set (v_lst as_nil)) (s_sq (s_fr (is_tup d_var) (gt_name (vs := [8])) (s_sq (s_set (v_catO (d_v (v_rep (v_lst (as_cons d_var as_nil)) (d_dget d_var))))) s_nx)) (s_sq (s_rt v_mv) s_nx)))))))
/-! ### fewest_breaths -/
theorem sc_fewest_breaths : FnScope ["piece", "choir"] ["piece", "choir"] (defScope s_fewest_breaths) := ⟨rfl, rfl, rfl, by decide +kernel, rfl, by decide +kernel, by decide +kernel⟩
theorem ok_fewest_breaths (T : Env K mg) (h_need_choir : Has P w K mg base 5 "need_choir" ["piece", "choir"] (PFt (T0 K) K (Gr M.need_choir))) (h_enough : Has P w K mg base 2 "enough" ["piece", "choir"] (PFt (T0 K) K (Gr M.enough))) (h_chosen : Has P w K mg base 1 "chosen" ["piece", "choir"] (PFt (T0 K) K (Gr M.chosen))) : Has P w K mg base 6 "fewest_breaths" ["piece", "choir"] (PFt (T0 K) K (Gr M.fewest_breaths)) := by
  have m_len := T.free 38 (x := "len")
  have k_NotPossible := T.glo 56 (x := "NotPossible")
  obtain ⟨x_NotPossible, kk_NotPossible, sb_NotPossible, ty_NotPossible⟩ := He.exc_ok (T.c.fact 57 (f := .exc "NotPossible") rfl)
  obtain ⟨fd_need_choir, g_need_choir, kp_need_choir, b_need_choir, G_need_choir⟩ := h_need_choir
  obtain ⟨fd_enough, g_enough, kp_enough, b_enough, G_enough⟩ := h_enough
  obtain ⟨fd_chosen, g_chosen, kp_chosen, b_chosen, G_chosen⟩ := h_chosen
  obtain ⟨fd, Fd⟩ := T.c.def_ 18 (d := d_fewest_breaths) rfl
  refine ⟨fd, T.glo 18, Fd.kp, Fd.bindsN fun _ _ _ _ _ _ us hl => match us, hl with | [_, _], _ => rfl, ?_⟩
  refine fn_al Fd sc_fewest_breaths ?_
  intro cdv hcc A outer s H E hr
  have hu0 := hr.units
  have pE : ∀ {pn : Unit}, Passes (L2N.CX P w) (cxOf (L2N.CX P w) P w K mg base ["piece", "choir"] "fewest_breaths" (defScope s_fewest_breaths) (He.fAd K d_fewest_breaths.at_) cdv A outer s H E) E := fun {_} => L2N.passes_call (L2N.takes_of (E := E) rfl rfl rfl rfl) (fun _ _ _ _ z => z)
  refine ⟨_, (pss_cons (ps_expr (pe_call G_need_choir (hr.mono (by decide)) rfl g_need_choir kp_need_choir b_need_choir .nil (pE (pn := ())) (pa_cons (pv 0) (pa_cons (pv 1) pa_nil)))) (pss_cons (ps_if (pt_not (pt_val (pe_call G_enough (hr.mono (by decide)) rfl g_enough kp_enough b_enough .nil (pE (pn := ())) (pa_cons (pv 0) (pa_cons (pv 1) pa_nil))))) (pss_one (L2N.ps_raise rfl (L2N.takes_of (E := E) rfl rfl rfl rfl) (L2N.pmk_own PySem.F.excBase_ValueError x_NotPossible k_NotPossible kk_NotPossible (raises_own sb_NotPossible ty_NotPossible) rfl))) pss_nil) (pss_one (ps_ret (pe_callB (kLen K) (by rfl) m_len PySem.boot_len (pa_cons (pe_call G_chosen (hr.mono (by decide)) rfl g_chosen kp_chosen b_chosen .nil (pE (pn := ())) (pa_cons (pv 0) (pa_cons (pv 1) pa_nil))) pa_nil)))))), ?_⟩
  exact (s_sq (s_dr (v_call (as_cons d_var (as_cons d_var as_nil)))) (s_sq (s_ifs (ts_not (ts_B (d_v (v_call (as_cons d_var (as_cons d_var as_nil)))))) (s_sq (s_rs rfl) s_nx) s_nx) (s_sq (s_rt (v_d (d_cb c_len (as_cons (d_v (v_call (as_cons d_var (as_cons d_var as_nil)))) as_nil)))) s_nx)))
/-! ### need_number -/
theorem sc_need_number : FnScope ["value", "low", "high"] ["value", "low", "high"] (defScope s_need_number) := ⟨rfl, rfl, rfl, by decide +kernel, rfl, by decide +kernel, by decide +kernel⟩
theorem ok_need_number (T : Env K mg) (h_is_from : Has P w K mg base 1 "is_from" ["value", "low", "high"] (PFt (T0 K) K (Gr M.is_from))) : Has P w K mg base 2 "need_number" ["value", "low", "high"] (PFt (T0 K) K (Gr M.need_number)) := by
  have k_InvalidNumber := T.glo 54 (x := "InvalidNumber")
  obtain ⟨x_InvalidNumber, kk_InvalidNumber, sb_InvalidNumber, ty_InvalidNumber⟩ := He.exc_ok (T.c.fact 55 (f := .exc "InvalidNumber") rfl)
  obtain ⟨fd_is_from, g_is_from, kp_is_from, b_is_from, G_is_from⟩ := h_is_from
  obtain ⟨fd, Fd⟩ := T.c.def_ 19 (d := d_need_number) rfl
  refine ⟨fd, T.glo 19, Fd.kp, Fd.bindsN fun _ _ _ _ _ _ us hl => match us, hl with | [_, _, _], _ => rfl, ?_⟩
  refine fn_al Fd sc_need_number ?_
  intro cdv hcc A outer s H E hr
  have hu0 := hr.units
  have pE : ∀ {pn : Unit}, Passes (L2N.CX P w) (cxOf (L2N.CX P w) P w K mg base ["value", "low", "high"] "need_number" (defScope s_need_number) (He.fAd K d_need_number.at_) cdv A outer s H E) E := fun {_} => L2N.passes_call (L2N.takes_of (E := E) rfl rfl rfl rfl) (fun _ _ _ _ z => z)
  refine ⟨_, (pss_one (ps_if (pt_not (pt_val (pe_call G_is_from (hr.mono (by decide)) rfl g_is_from kp_is_from b_is_from .nil (pE (pn := ())) (pa_cons (pv 0) (pa_cons (pv 1) (pa_cons (pv 2) pa_nil)))))) (pss_one (L2N.ps_raise rfl (L2N.takes_of (E := E) rfl rfl rfl rfl) (L2N.pmk_own PySem.F.excBase_ValueError x_InvalidNumber k_InvalidNumber kk_InvalidNumber (raises_own sb_InvalidNumber ty_InvalidNumber) rfl))) pss_nil)), ?_⟩
  exact (s_sq (s_ifs (ts_not (ts_B (d_v (v_call (as_cons d_var (as_cons d_var (as_cons d_var as_nil))))))) (s_sq (s_rs rfl) s_nx) s_nx) s_nx)
/-! ### singers_for -/
theorem sc_singers_for : FnScope ["least", "voices"] ["least", "voices"] (defScope s_singers_for) := ⟨rfl, rfl, rfl, by decide +kernel, rfl, by decide +kernel, by decide +kernel⟩
theorem ok_singers_for (T : Env K mg) : Has P w K mg base 1 "singers_for" ["least", "voices"] (PFt (T0 K) K (Gr M.singers_for)) := by
  have m_max := T.free 40 (x := "max")
  obtain ⟨fd, Fd⟩ := T.c.def_ 20 (d := d_singers_for) rfl
  refine ⟨fd, T.glo 20, Fd.kp, Fd.bindsN fun _ _ _ _ _ _ us hl => match us, hl with | [_, _], _ => rfl, ?_⟩
  refine fn_al Fd sc_singers_for ?_
  intro cdv hcc A outer s H E hr
  have hu0 := hr.units
  have pE : ∀ {pn : Unit}, Passes (L2N.CX P w) (cxOf (L2N.CX P w) P w K mg base ["least", "voices"] "singers_for" (defScope s_singers_for) (He.fAd K d_singers_for.at_) cdv A outer s H E) E := fun {_} => L2N.passes_call (L2N.takes_of (E := E) rfl rfl rfl rfl) (fun _ _ _ _ z => z)
  refine ⟨_, (pss_cons (ps_if (PW.pt (pw_or (pt_cmpR op_eq (pv 0) pe_int (nomark _)) (pw_or1 (PW.pt (pw_and (pt_cmpR op_eq (pv 0) pe_int (nomark _)) (pw_and1 (pt_cmpR op_gt (pv 1) pe_int (nomark _)))))))) (pss_one (ps_ret pe_non)) pss_nil) (pss_one (ps_ret (pe_ifExp (pt_cmpR op_gt (pv 0) pe_int (nomark _)) (pe_callB (call_max2 rfl) (by rfl) m_max (by decide +kernel) (pa_cons pe_int (pa_cons (pe_un un_neg (pe_op op_fdiv (pe_op op_mul (pe_un un_neg (pv 1)) (pv 0)) (pe_op op_sub (pv 0) pe_int))) pa_nil))) pe_int)))), ?_⟩
  exact (s_sq (s_ifs (ts_or (ts_test (d_op o_eq d_var d_int)) (ts_and (ts_test (d_op o_eq d_var d_int)) (ts_test (d_op o_gt d_var d_int)))) (s_sq (s_rt (v_d d_non)) s_nx) s_nx) (s_sq (s_rt (v_if (ts_test (d_op o_gt d_var d_int)) (v_d (d_cb (c_max2) (as_cons d_int (as_cons (d_un u_neg (d_op o_div (d_op o_mul (d_un u_neg d_var) d_var) (d_op o_sub d_var d_int))) as_nil)))) (v_d d_int))) s_nx))
/-! ### fewest_singers -/
theorem sc_fewest_singers : FnScope ["piece", "breath", "voices", "rows"] ["piece", "breath", "voices"] (defScope s_fewest_singers) := ⟨rfl, rfl, rfl, by decide +kernel, rfl, by decide +kernel, by decide +kernel⟩
theorem ok_fewest_singers (T : Env K mg) (h_need_piece : Has P w K mg base 4 "need_piece" ["piece"] (PFt (T0 K) K (Gr M.need_piece))) (h_need_number : Has P w K mg base 2 "need_number" ["value", "low", "high"] (PFt (T0 K) K (Gr M.need_number))) (h_window_counts : Has P w K mg base 1 "window_counts" ["piece", "breath"] (PFt (T0 K) K (Gr M.window_counts))) (h_singers_for : Has P w K mg base 1 "singers_for" ["least", "voices"] (PFt (T0 K) K (Gr M.singers_for))) : Has P w K mg base 5 "fewest_singers" ["piece", "breath", "voices"] (PFt (T0 K) K (Gr M.fewest_singers)) := by
  have m_min := T.free 43 (x := "min")
  have m_max := T.free 40 (x := "max")
  obtain ⟨t_MOST_BEATS, c_MOST_BEATS⟩ := T.int 48 (x := "MOST_BEATS")
  obtain ⟨t_MOST_SINGERS, c_MOST_SINGERS⟩ := T.int 49 (x := "MOST_SINGERS")
  obtain ⟨fd_need_piece, g_need_piece, kp_need_piece, b_need_piece, G_need_piece⟩ := h_need_piece
  obtain ⟨fd_need_number, g_need_number, kp_need_number, b_need_number, G_need_number⟩ := h_need_number
  obtain ⟨fd_window_counts, g_window_counts, kp_window_counts, b_window_counts, G_window_counts⟩ := h_window_counts
  obtain ⟨fd_singers_for, g_singers_for, kp_singers_for, b_singers_for, G_singers_for⟩ := h_singers_for
  obtain ⟨fd, Fd⟩ := T.c.def_ 21 (d := d_fewest_singers) rfl
  refine ⟨fd, T.glo 21, Fd.kp, Fd.bindsN fun _ _ _ _ _ _ us hl => match us, hl with | [_, _, _], _ => rfl, ?_⟩
  refine fn_al Fd sc_fewest_singers ?_
  intro cdv hcc A outer s H E hr
  have hu0 := hr.units
  have pE : ∀ {pn : Unit}, Passes (L2N.CX P w) (cxOf (L2N.CX P w) P w K mg base ["piece", "breath", "voices", "rows"] "fewest_singers" (defScope s_fewest_singers) (He.fAd K d_fewest_singers.at_) cdv A outer s H E) E := fun {_} => L2N.passes_call (L2N.takes_of (E := E) rfl rfl rfl rfl) (fun _ _ _ _ z => z)
  refine ⟨_, (pss_cons (ps_expr (pe_call G_need_piece (hr.mono (by decide)) rfl g_need_piece kp_need_piece b_need_piece .nil (pE (pn := ())) (pa_cons (pv 0) pa_nil))) (pss_cons (ps_expr (pe_call G_need_number (hr.mono (by decide)) rfl g_need_number kp_need_number b_need_number .nil (pE (pn := ())) (pa_cons (pv 1) (pa_cons pe_int (pa_cons (pe_glob (v := .int 60) (by rfl) c_MOST_BEATS ⟨_, rfl⟩) pa_nil))))) (pss_cons (ps_expr (pe_call G_need_number (hr.mono (by decide)) rfl g_need_number kp_need_number b_need_number .nil (pE (pn := ())) (pa_cons (pv 2) (pa_cons pe_int (pa_cons (pe_glob (v := .int 30) (by rfl) c_MOST_SINGERS ⟨_, rfl⟩) pa_nil))))) (pss_cons (ps_set (i := 3) sc_fewest_singers.nd rfl (by first | exact Or.inl rfl | exact Or.inr rfl) (pe_call G_window_counts (hr.mono (by decide)) rfl g_window_counts kp_window_counts b_window_counts .nil (pE (pn := ())) (pa_cons (pv 0) (pa_cons (pv 1) pa_nil)))) (pss_one (ps_ret (pe_ifExp (pt_cmpR (kNe K hu0) (pv 3) (pe_lst pa_nil) (nomark _)) (pe_call G_singers_for (hr.mono (by decide)) rfl g_singers_for kp_singers_for b_singers_for .nil (pE (pn := ())) (pa_cons (pe_callB (kMin K) (by rfl) m_min (by decide +kernel) (pa_cons (pv 3) pa_nil)) (pa_cons (pv 2) pa_nil))) (pe_callB (call_max2 rfl) (by rfl) m_max (by decide +kernel) (pa_cons pe_int (pa_cons (pv 2) pa_nil)))))))))), ?_⟩
  exact (s_sq (s_dr (v_call (as_cons d_var as_nil))) (s_sq (s_dr (v_call (as_cons d_var (as_cons d_int (as_cons d_int as_nil))))) (s_sq (s_dr (v_call (as_cons d_var (as_cons d_int (as_cons d_int as_nil))))) (s_sq (s_set (v_d (d_v (v_call (as_cons d_var (as_cons d_var as_nil)))))) (s_sq (s_rt (v_if (ts_test (d_op o_neD d_var (d_v (v_lst as_nil)))) (v_call (as_cons (d_cb c_min (as_cons d_var as_nil)) (as_cons d_var as_nil))) (v_d (d_cb (c_max2) (as_cons d_int (as_cons d_var as_nil)))))) s_nx)))))
/-! ### most_voices -/
theorem sc_most_voices : FnScope ["piece", "singers", "breath", "rows"] ["piece", "singers", "breath"] (defScope s_most_voices) := ⟨rfl, rfl, rfl, by decide +kernel, rfl, by decide +kernel, by decide +kernel⟩
theorem ok_most_voices (T : Env K mg) (h_need_piece : Has P w K mg base 4 "need_piece" ["piece"] (PFt (T0 K) K (Gr M.need_piece))) (h_need_number : Has P w K mg base 2 "need_number" ["value", "low", "high"] (PFt (T0 K) K (Gr M.need_number))) (h_window_counts : Has P w K mg base 1 "window_counts" ["piece", "breath"] (PFt (T0 K) K (Gr M.window_counts))) : Has P w K mg base 5 "most_voices" ["piece", "singers", "breath"] (PFt (T0 K) K (Gr M.most_voices)) := by
  have m_min := T.free 43 (x := "min")
  obtain ⟨t_MOST_SINGERS, c_MOST_SINGERS⟩ := T.int 49 (x := "MOST_SINGERS")
  obtain ⟨t_MOST_BEATS, c_MOST_BEATS⟩ := T.int 48 (x := "MOST_BEATS")
  obtain ⟨fd_need_piece, g_need_piece, kp_need_piece, b_need_piece, G_need_piece⟩ := h_need_piece
  obtain ⟨fd_need_number, g_need_number, kp_need_number, b_need_number, G_need_number⟩ := h_need_number
  obtain ⟨fd_window_counts, g_window_counts, kp_window_counts, b_window_counts, G_window_counts⟩ := h_window_counts
  obtain ⟨fd, Fd⟩ := T.c.def_ 22 (d := d_most_voices) rfl
  refine ⟨fd, T.glo 22, Fd.kp, Fd.bindsN fun _ _ _ _ _ _ us hl => match us, hl with | [_, _, _], _ => rfl, ?_⟩
  refine fn_al Fd sc_most_voices ?_
  intro cdv hcc A outer s H E hr
  have hu0 := hr.units
  have pE : ∀ {pn : Unit}, Passes (L2N.CX P w) (cxOf (L2N.CX P w) P w K mg base ["piece", "singers", "breath", "rows"] "most_voices" (defScope s_most_voices) (He.fAd K d_most_voices.at_) cdv A outer s H E) E := fun {_} => L2N.passes_call (L2N.takes_of (E := E) rfl rfl rfl rfl) (fun _ _ _ _ z => z)
  refine ⟨_, (pss_cons (ps_expr (pe_call G_need_piece (hr.mono (by decide)) rfl g_need_piece kp_need_piece b_need_piece .nil (pE (pn := ())) (pa_cons (pv 0) pa_nil))) (pss_cons (ps_expr (pe_call G_need_number (hr.mono (by decide)) rfl g_need_number kp_need_number b_need_number .nil (pE (pn := ())) (pa_cons (pv 1) (pa_cons pe_int (pa_cons (pe_glob (v := .int 30) (by rfl) c_MOST_SINGERS ⟨_, rfl⟩) pa_nil))))) (pss_cons (ps_expr (pe_call G_need_number (hr.mono (by decide)) rfl g_need_number kp_need_number b_need_number .nil (pE (pn := ())) (pa_cons (pv 2) (pa_cons pe_int (pa_cons (pe_glob (v := .int 60) (by rfl) c_MOST_BEATS ⟨_, rfl⟩) pa_nil))))) (pss_cons (ps_set (i := 3) sc_most_voices.nd rfl (by first | exact Or.inl rfl | exact Or.inr rfl) (pe_call G_window_counts (hr.mono (by decide)) rfl g_window_counts kp_window_counts b_window_counts .nil (pE (pn := ())) (pa_cons (pv 0) (pa_cons (pv 2) pa_nil)))) (pss_cons (ps_if (pt_cmpR (kEq K hu0) (pv 3) (pe_lst pa_nil) (nomark _)) (pss_one (ps_ret (pv 1))) pss_nil) (pss_one (ps_ret (pe_ifExp (pt_cmpR op_gt (pe_callB (kMin K) (by rfl) m_min (by decide +kernel) (pa_cons (pv 3) pa_nil)) pe_int (nomark _)) (pe_op op_add (pv 1) (pe_op op_fdiv (pe_un un_neg (pv 1)) (pe_callB (kMin K) (by rfl) m_min (by decide +kernel) (pa_cons (pv 3) pa_nil)))) pe_non)))))))), ?_⟩
  exact (s_sq (s_dr (v_call (as_cons d_var as_nil))) (s_sq (s_dr (v_call (as_cons d_var (as_cons d_int (as_cons d_int as_nil))))) (s_sq (s_dr (v_call (as_cons d_var (as_cons d_int (as_cons d_int as_nil))))) (s_sq (s_set (v_d (d_v (v_call (as_cons d_var (as_cons d_var as_nil)))))) (s_sq (s_ifs (ts_test (d_op o_eqD d_var (d_v (v_lst as_nil)))) (s_sq (s_rt (v_d d_var)) s_nx) s_nx) (s_sq (s_rt (v_if (ts_test (d_op o_gt (d_cb c_min (as_cons d_var as_nil)) d_int)) (v_d (d_op o_add d_var (d_op o_div (d_un u_neg d_var) (d_cb c_min (as_cons d_var as_nil))))) (v_d d_non))) s_nx))))))
/-! ### least_breath -/
theorem sc_least_breath : FnScope ["piece", "singers", "voices", "breath", "many"] ["piece", "singers", "voices"] (defScope s_least_breath) := ⟨rfl, rfl, rfl, by decide +kernel, rfl, by decide +kernel, by decide +kernel⟩
theorem ok_least_breath (T : Env K mg) (h_need_piece : Has P w K mg base 4 "need_piece" ["piece"] (PFt (T0 K) K (Gr M.need_piece))) (h_need_number : Has P w K mg base 2 "need_number" ["value", "low", "high"] (PFt (T0 K) K (Gr M.need_number))) (h_window_counts : Has P w K mg base 1 "window_counts" ["piece", "breath"] (PFt (T0 K) K (Gr M.window_counts))) : Has P w K mg base 5 "least_breath" ["piece", "singers", "voices"] (PFt (T0 K) K (Gr M.least_breath)) := by
  have m_range := T.free 41 (x := "range")
  have m_all := T.free 35 (x := "all")
  obtain ⟨t_MOST_SINGERS, c_MOST_SINGERS⟩ := T.int 49 (x := "MOST_SINGERS")
  obtain ⟨fd_need_piece, g_need_piece, kp_need_piece, b_need_piece, G_need_piece⟩ := h_need_piece
  obtain ⟨fd_need_number, g_need_number, kp_need_number, b_need_number, G_need_number⟩ := h_need_number
  obtain ⟨fd_window_counts, g_window_counts, kp_window_counts, b_window_counts, G_window_counts⟩ := h_window_counts
  obtain ⟨fd, Fd⟩ := T.c.def_ 23 (d := d_least_breath) rfl
  refine ⟨fd, T.glo 23, Fd.kp, Fd.bindsN fun _ _ _ _ _ _ us hl => match us, hl with | [_, _, _], _ => rfl, ?_⟩
  refine fn_al Fd sc_least_breath ?_
  intro cdv hcc A outer s H E hr
  have hu0 := hr.units
  have pE : ∀ {pn : Unit}, Passes (L2N.CX P w) (cxOf (L2N.CX P w) P w K mg base ["piece", "singers", "voices", "breath", "many"] "least_breath" (defScope s_least_breath) (He.fAd K d_least_breath.at_) cdv A outer s H E) E := fun {_} => L2N.passes_call (L2N.takes_of (E := E) rfl rfl rfl rfl) (fun _ _ _ _ z => z)
  refine ⟨_, (pss_cons (ps_expr (pe_call G_need_piece (hr.mono (by decide)) rfl g_need_piece kp_need_piece b_need_piece .nil (pE (pn := ())) (pa_cons (pv 0) pa_nil))) (pss_cons (ps_expr (pe_call G_need_number (hr.mono (by decide)) rfl g_need_number kp_need_number b_need_number .nil (pE (pn := ())) (pa_cons (pv 1) (pa_cons pe_int (pa_cons (pe_glob (v := .int 30) (by rfl) c_MOST_SINGERS ⟨_, rfl⟩) pa_nil))))) (pss_cons (ps_expr (pe_call G_need_number (hr.mono (by decide)) rfl g_need_number kp_need_number b_need_number .nil (pE (pn := ())) (pa_cons (pv 2) (pa_cons pe_int (pa_cons (pv 1) pa_nil))))) (pss_cons (ps_for (passes_of rfl) rfl (pi_range2 (by rfl) m_range (pa_cons pe_int (pa_cons (pe_ix (kIxT K) (pv 0) pe_int (fun _ _ => rfl)) pa_nil))) (pg_name (i := 3) sc_least_breath.nd rfl (by first | exact Or.inl rfl | exact Or.inr rfl)) (pss_one (ps_if (pt_val (pe_callB (kAll K) (by rfl) m_all (by decide +kernel) (pa_cons (pe_lc (own := [("many", 4)]) (g := (gName 4)) (tt := tYes) rfl sc_least_breath.nd (kpi_list K (pe_call G_window_counts (hr.mono (by decide)) rfl g_window_counts kp_window_counts b_window_counts .nil (pE (pn := ())) (pa_cons (pv 0) (pa_cons (pv 3) pa_nil)))) (blkOk_by (own := [("many", 4)]) (by kernel_rfl)) (fun _ _ _ _ _ => (pg_name (i := 4) sc_least_breath.nd rfl (by first | exact Or.inl rfl | exact Or.inr rfl))) (fun _ _ _ _ _ => pts_nil) (fun _ _ _ _ _ => (pe_cmpR op_ge (pe_op op_mul (pe_op op_sub (pv 1) (pv 2)) (pv 4)) (pv 1) (nomark _)))) pa_nil))) (pss_one (ps_ret (pv 3))) pss_nil))) (pss_one (ps_ret (pe_ix (kIxT K) (pv 0) pe_int (fun _ _ => rfl)))))))), ?_⟩
  exact (s_sq (s_dr (v_call (as_cons d_var as_nil))) (s_sq (s_dr (v_call (as_cons d_var (as_cons d_int (as_cons d_int as_nil))))) (s_sq (s_dr (v_call (as_cons d_var (as_cons d_int (as_cons d_var as_nil))))) (s_sq (s_fr (is_rng2 (as_cons d_int (as_cons (d_op o_ixT d_var d_int) as_nil))) (gt_name (vs := [3])) (s_sq (s_ifs (ts_B (d_cb c_all (as_cons (d_v (v_lc (E1 := E0) (E2 := E0) (is_list (d_v (v_call (as_cons d_var (as_cons d_var as_nil))))) (gt_name (vs := [4])) ts_yes (d_op o_ge (d_op o_mul (d_op o_sub d_var d_var) d_var) d_var))) as_nil))) (s_sq (s_rt (v_d d_var)) s_nx) s_nx) s_nx)) (s_sq (s_rt (v_d (d_op o_ixT d_var d_int))) s_nx)))))
/-! ### _law_deck -/
theorem sc_law_deck : FnScope ["cell", "turn"] ["cell", "turn"] (defScope s_law_deck) := ⟨rfl, rfl, rfl, by decide +kernel, rfl, by decide +kernel, by decide +kernel⟩
theorem ok_law_deck (T : Env K mg) : Has P w K mg base 1 "_law_deck" ["cell", "turn"] (PFt (T0 K) K (Gr M.law_deck)) := by
  obtain ⟨fd, Fd⟩ := T.c.def_ 24 (d := d_law_deck) rfl
  refine ⟨fd, T.glo 24, Fd.kp, Fd.bindsN fun _ _ _ _ _ _ us hl => match us, hl with | [_, _], _ => rfl, ?_⟩
  refine fn_al Fd sc_law_deck ?_
  intro cdv hcc A outer s H E hr
  have hu0 := hr.units
  have pE : ∀ {pn : Unit}, Passes (L2N.CX P w) (cxOf (L2N.CX P w) P w K mg base ["cell", "turn"] "_law_deck" (defScope s_law_deck) (He.fAd K d_law_deck.at_) cdv A outer s H E) E := fun {_} => L2N.passes_call (L2N.takes_of (E := E) rfl rfl rfl rfl) (fun _ _ _ _ z => z)
  refine ⟨_, (pss_cons (ps_if (pt_cmpR op_ge (pv 0) (pe_op op_pow pe_int pe_int) (nomark _)) (pss_one (ps_ret (pe_lst (pa_cons (pe_op op_sub (pv 0) (pe_op op_pow pe_int pe_int)) (pa_cons (pe_op op_mod (pv 0) pe_int) (pa_cons (pv 1) pa_nil)))))) pss_nil) (pss_one (ps_ret (pe_lst (pa_cons pe_int (pa_cons (pe_op op_mod (pv 0) pe_int) (pa_cons (pv 1) pa_nil))))))), ?_⟩
  exact (s_sq (s_ifs (ts_test (d_op o_ge d_var (d_op o_pow d_int d_int))) (s_sq (s_rt (v_lst (as_cons (d_op o_sub d_var (d_op o_pow d_int d_int)) (as_cons (d_op o_mod d_var d_int) (as_cons d_var as_nil))))) s_nx) s_nx) (s_sq (s_rt (v_lst (as_cons d_int (as_cons (d_op o_mod d_var d_int) (as_cons d_var as_nil))))) s_nx))
/-! ### _law_pick -/
theorem sc_law_pick : FnScope ["deck", "limit", "found", "number"] ["deck", "limit"] (defScope s_law_pick) := ⟨rfl, rfl, rfl, by decide +kernel, rfl, by decide +kernel, by decide +kernel⟩
theorem ok_law_pick (T : Env K mg) : Has P w K mg base 1 "_law_pick" ["deck", "limit"] (PO (T0 K) K M.law_pick) := by
  obtain ⟨fd, Fd⟩ := T.c.def_ 25 (d := d_law_pick) rfl
  refine ⟨fd, T.glo 25, Fd.kp, Fd.bindsN fun _ _ _ _ _ _ us hl => match us, hl with | [_, _], _ => rfl, ?_⟩
  refine fn_alo Fd sc_law_pick (by decide) ?_
  intro cdv hcc A outer s H E hr
  have hu0 := hr.units
  have pE : ∀ {pn : Unit}, Passes (L2N.CX P w) (cxOf (L2N.CX P w) P w K mg base ["deck", "limit", "found", "number"] "_law_pick" (defScope s_law_pick) (He.fAd K d_law_pick.at_) cdv A outer s H E) E := fun {_} => L2N.passes_call (L2N.takes_of (E := E) rfl rfl rfl rfl) (fun _ _ _ _ z => z)
  refine ⟨_, (pss_cons (ps_if (pt_cmpR op_gt (pe_ix (kIxL K) (pv 0) pe_int (fun _ _ => rfl)) pe_int (nomark _)) (pss_cons (ps_set (i := 2) sc_law_pick.nd rfl (by first | exact Or.inl rfl | exact Or.inr rfl) (pe_op op_mod (pe_ix (kIxL K) (pv 0) pe_int (fun _ _ => rfl)) (pv 1))) (pss_cons (ps_asg (pe_op op_fdiv (pe_ix (kIxL K) (pv 0) pe_int (fun _ _ => rfl)) (pv 1)) (pg_sub (pv 0) pe_int set_list)) (pss_one (ps_ret (pv 2))))) pss_nil) (pss_cons (ps_asg (pe_op op_add (pe_ix (kIxL K) (pv 0) pe_int (fun _ _ => rfl)) pe_int) (pg_sub (pv 0) pe_int set_list)) (pss_cons (ps_set (i := 3) sc_law_pick.nd rfl (by first | exact Or.inl rfl | exact Or.inr rfl) (pe_op op_mod (pe_op op_pow (pe_op op_add (pe_ix (kIxL K) (pv 0) pe_int (fun _ _ => rfl)) (pe_op op_mul pe_int (pe_ix (kIxL K) (pv 0) pe_int (fun _ _ => rfl)))) pe_int) pe_int)) (pss_cons (ps_set (i := 2) sc_law_pick.nd rfl (by first | exact Or.inl rfl | exact Or.inr rfl) (pe_op op_fdiv (pe_op op_mod (pe_op op_pow (pe_op op_add (pv 3) (pe_op op_mul pe_int (pe_ix (kIxL K) (pv 0) pe_int (fun _ _ => rfl)))) pe_int) pe_int) pe_int)) (pss_cons (ps_if (pt_cmpR op_gt (pv 1) pe_int (nomark _)) (pss_one (ps_ret (pe_op op_mod (pe_op op_add (pe_op op_mul (pv 2) pe_int) (pv 3)) (pv 1)))) pss_nil) (pss_one (ps_ret (pe_op op_mod (pv 2) (pv 1))))))))), ?_⟩
  exact (s_sq (s_ifs (ts_bor (E1 := E0) (ts_test (d_op o_gt (d_op o_ixL d_var d_int) d_int))) (s_sq (s_set (v_d (d_v (v_bor (E1 := E0) (v_d (d_op o_mod (d_op o_ixL d_var d_int) d_var)))))) (s_sq (s_seti (d_v (v_bor (E1 := E0) (v_d (d_op o_div (d_op o_ixL d_var d_int) d_var)))) d_int) (s_sq (s_rt (v_d d_var)) s_nx))) s_nx) (s_sq (s_seti (d_v (v_bor (E1 := E0) (v_d (d_op o_add (d_op o_ixL d_var d_int) d_int)))) d_int) (s_sq (s_set (v_d (d_v (v_bor (E1 := E0) (v_d (d_op o_mod (d_op o_pow (d_op o_add (d_op o_ixL d_var d_int) (d_op o_mul d_int (d_op o_ixL d_var d_int))) d_int) d_int)))))) (s_sq (s_set (v_d (d_v (v_bor (E1 := E0) (v_d (d_op o_div (d_op o_mod (d_op o_pow (d_op o_add d_var (d_op o_mul d_int (d_op o_ixL d_var d_int))) d_int) d_int) d_int)))))) (s_sq (s_ifs (ts_test (d_op o_gt d_var d_int)) (s_sq (s_rt (v_d (d_op o_mod (d_op o_add (d_op o_mul d_var d_int) d_var) d_var))) s_nx) s_nx) (s_sq (s_rt (v_d (d_op o_mod d_var d_var))) s_nx))))))
/-! ### _law_one -/
theorem sc_law_one : FnScope ["deck", "some"] ["deck", "some"] (defScope s_law_one) := ⟨rfl, rfl, rfl, by decide +kernel, rfl, by decide +kernel, by decide +kernel⟩
theorem ok_law_one (T : Env K mg) (h_law_pick : Has P w K mg base 1 "_law_pick" ["deck", "limit"] (PO (T0 K) K M.law_pick)) : Has P w K mg base 2 "_law_one" ["deck", "some"] (PO (T0 K) K M.law_one) := by
  have m_len := T.free 38 (x := "len")
  obtain ⟨fd__law_pick, g__law_pick, kp__law_pick, b__law_pick, G__law_pick⟩ := h_law_pick
  obtain ⟨fd, Fd⟩ := T.c.def_ 26 (d := d_law_one) rfl
  refine ⟨fd, T.glo 26, Fd.kp, Fd.bindsN fun _ _ _ _ _ _ us hl => match us, hl with | [_, _], _ => rfl, ?_⟩
  refine fn_alo Fd sc_law_one (by decide) ?_
  intro cdv hcc A outer s H E hr
  have hu0 := hr.units
  have pE : ∀ {pn : Unit}, Passes (L2N.CX P w) (cxOf (L2N.CX P w) P w K mg base ["deck", "some"] "_law_one" (defScope s_law_one) (He.fAd K d_law_one.at_) cdv A outer s H E) E := fun {_} => L2N.passes_call (L2N.takes_of (E := E) rfl rfl rfl rfl) (fun _ _ _ _ z => z)
  refine ⟨_, (pss_one (ps_ret (pe_ix (kIxL K) (pv 1) (pe_call G__law_pick (hr.mono (by decide)) rfl g__law_pick kp__law_pick b__law_pick .nil (pE (pn := ())) (pa_cons (pv 0) (pa_cons (pe_callB (kLen K) (by rfl) m_len PySem.boot_len (pa_cons (pv 1) pa_nil)) pa_nil))) (fun _ _ => rfl)))), ?_⟩
  exact (s_sq (s_rt (v_d (d_op o_ixL d_var (d_v (v_callO (as_cons (d_cb c_len (as_cons d_var as_nil)) as_nil)))))) s_nx)
/-! ### _law_song -/
theorem sc_law_song : FnScope ["deck", "few", "many", "count", "chance", "allowed", "beat"] ["deck", "few", "many"] (defScope s_law_song) := ⟨rfl, rfl, rfl, by decide +kernel, rfl, by decide +kernel, by decide +kernel⟩
theorem ok_law_song (T : Env K mg) (h_law_one : Has P w K mg base 2 "_law_one" ["deck", "some"] (PO (T0 K) K M.law_one)) (h_law_pick : Has P w K mg base 1 "_law_pick" ["deck", "limit"] (PO (T0 K) K M.law_pick)) : Has P w K mg base 3 "_law_song" ["deck", "few", "many"] (PO (T0 K) K M.law_song) := by
  have m_range := T.free 41 (x := "range")
  have m_tuple := T.free 36 (x := "tuple")
  obtain ⟨fd__law_one, g__law_one, kp__law_one, b__law_one, G__law_one⟩ := h_law_one
  obtain ⟨fd__law_pick, g__law_pick, kp__law_pick, b__law_pick, G__law_pick⟩ := h_law_pick
  obtain ⟨fd, Fd⟩ := T.c.def_ 27 (d := d_law_song) rfl
  refine ⟨fd, T.glo 27, Fd.kp, Fd.bindsN fun _ _ _ _ _ _ us hl => match us, hl with | [_, _, _], _ => rfl, ?_⟩
  refine fn_alo Fd sc_law_song (by decide) ?_
  intro cdv hcc A outer s H E hr
  have hu0 := hr.units
  have pE : ∀ {pn : Unit}, Passes (L2N.CX P w) (cxOf (L2N.CX P w) P w K mg base ["deck", "few", "many", "count", "chance", "allowed", "beat"] "_law_song" (defScope s_law_song) (He.fAd K d_law_song.at_) cdv A outer s H E) E := fun {_} => L2N.passes_call (L2N.takes_of (E := E) rfl rfl rfl rfl) (fun _ _ _ _ z => z)
  refine ⟨_, (pss_cons (ps_asg (pe_tup (pa_cons (pe_op op_add (pv 1) (pe_call G__law_pick (hr.mono (by decide)) rfl g__law_pick kp__law_pick b__law_pick .nil (pE (pn := ())) (pa_cons (pv 0) (pa_cons (pe_op op_add (pe_op op_sub (pv 2) (pv 1)) pe_int) pa_nil)))) (pa_cons (pe_call G__law_one (hr.mono (by decide)) rfl g__law_one kp__law_one b__law_one .nil (pE (pn := ())) (pa_cons (pv 0) (pa_cons (pe_lst (pa_cons pe_int (pa_cons pe_int (pa_cons pe_int pa_nil)))) pa_nil))) pa_nil))) (kpg_tup K rfl (pgs_cons (pg_name (i := 3) sc_law_song.nd rfl (by first | exact Or.inl rfl | exact Or.inr rfl)) (pgs_cons (pg_name (i := 4) sc_law_song.nd rfl (by first | exact Or.inl rfl | exact Or.inr rfl)) pgs_nil)))) (pss_cons (ps_setLc (i := 5) (own := [("beat", 6)]) (g := (gName 6)) rfl sc_law_song.nd  rfl rfl (sw_true rfl rfl rfl (by decide +kernel)) (pi_range1 (by rfl) m_range (pa_cons (pv 3) pa_nil)) (blkOk_by (own := [("beat", 6)]) (by kernel_rfl)) (fun _ _ _ _ _ => (pg_name (i := 6) sc_law_song.nd rfl (by first | exact Or.inl rfl | exact Or.inr rfl))) (fun _ _ _ _ _ => pts_one (pt_cmpR op_gt (pe_call G__law_pick (hr.mono (by decide)) rfl g__law_pick kp__law_pick b__law_pick .nil passN (pa_cons (pv 0) (pa_cons (pe_op op_add (pv 4) pe_int) pa_nil))) pe_int (nomark _))) (fun _ _ _ _ _ => (pv 6))) (pss_one (ps_ret (pe_tup (pa_cons (pv 3) (pa_cons (pe_callTy (kTuple K) (by rfl) m_tuple (by decide +kernel) (pa_cons (pv 5) pa_nil)) pa_nil))))))), ?_⟩
  exact (s_sq (s_asg (d_tup (as_cons (d_op o_add d_var (d_v (v_callO (as_cons (d_op o_add (d_op o_sub d_var d_var) d_int) as_nil)))) (as_cons (d_v (v_callO (as_cons (d_v (v_lst (as_cons d_int (as_cons d_int (as_cons d_int as_nil))))) as_nil))) as_nil))) (gt_2 (vs := [3, 4]))) (s_sq (s_set (v_d (d_v (v_lc (E1 := E0) (E2 := E0) (is_rng1 (as_cons d_var as_nil)) (gt_name (vs := [6])) (ts_test (d_op o_gt (d_v (v_callO (as_cons (d_op o_add d_var d_int) as_nil))) d_int)) d_var)))) (s_sq (s_rt (v_d (d_tup (as_cons d_var (as_cons (d_cb c_tuple (as_cons d_var as_nil)) as_nil))))) s_nx)))
/-! ### _law_group -/
theorem sc_law_group : FnScope ["deck", "singers", "breath", "many"] ["deck", "singers", "breath"] (defScope s_law_group) := ⟨rfl, rfl, rfl, by decide +kernel, rfl, by decide +kernel, by decide +kernel⟩
theorem ok_law_group (T : Env K mg) (h_law_pick : Has P w K mg base 1 "_law_pick" ["deck", "limit"] (PO (T0 K) K M.law_pick)) : Has P w K mg base 2 "_law_group" ["deck", "singers", "breath"] (PO (T0 K) K M.law_group) := by
  obtain ⟨fd__law_pick, g__law_pick, kp__law_pick, b__law_pick, G__law_pick⟩ := h_law_pick
  obtain ⟨fd, Fd⟩ := T.c.def_ 28 (d := d_law_group) rfl
  refine ⟨fd, T.glo 28, Fd.kp, Fd.bindsN fun _ _ _ _ _ _ us hl => match us, hl with | [_, _, _], _ => rfl, ?_⟩
  refine fn_alo Fd sc_law_group (by decide) ?_
  intro cdv hcc A outer s H E hr
  have hu0 := hr.units
  have pE : ∀ {pn : Unit}, Passes (L2N.CX P w) (cxOf (L2N.CX P w) P w K mg base ["deck", "singers", "breath", "many"] "_law_group" (defScope s_law_group) (He.fAd K d_law_group.at_) cdv A outer s H E) E := fun {_} => L2N.passes_call (L2N.takes_of (E := E) rfl rfl rfl rfl) (fun _ _ _ _ z => z)
  refine ⟨_, (pss_cons (ps_set (i := 3) sc_law_group.nd rfl (by first | exact Or.inl rfl | exact Or.inr rfl) (pe_op op_add pe_int (pe_call G__law_pick (hr.mono (by decide)) rfl g__law_pick kp__law_pick b__law_pick .nil (pE (pn := ())) (pa_cons (pv 0) (pa_cons (pv 1) pa_nil))))) (pss_one (ps_ret (pe_tup (pa_cons (pv 3) (pa_cons (pe_op op_add pe_int (pe_call G__law_pick (hr.mono (by decide)) rfl g__law_pick kp__law_pick b__law_pick .nil (pE (pn := ())) (pa_cons (pv 0) (pa_cons (pv 2) pa_nil)))) (pa_cons (pe_call G__law_pick (hr.mono (by decide)) rfl g__law_pick kp__law_pick b__law_pick .nil (pE (pn := ())) (pa_cons (pv 0) (pa_cons (pe_op op_add (pv 3) pe_int) pa_nil))) pa_nil))))))), ?_⟩
  exact (s_sq (s_set (v_d (d_op o_add d_int (d_v (v_callO (as_cons d_var as_nil)))))) (s_sq (s_rt (v_d (d_tup (as_cons d_var (as_cons (d_op o_add d_int (d_v (v_callO (as_cons d_var as_nil)))) (as_cons (d_v (v_callO (as_cons (d_op o_add d_var d_int) as_nil))) as_nil)))))) s_nx))
/-! ### _law_not_worse -/
theorem sc_law_not_worse : FnScope ["song", "group", "other", "choir"] ["song", "group", "other", "choir"] (defScope s_law_not_worse) := ⟨rfl, rfl, rfl, by decide +kernel, rfl, by decide +kernel, by decide +kernel⟩
theorem ok_law_not_worse (T : Env K mg) (h_can_sing : Has P w K mg base 6 "can_sing" ["piece", "choir"] (PFt (T0 K) K (Gr M.can_sing))) (h_fewest_breaths : Has P w K mg base 6 "fewest_breaths" ["piece", "choir"] (PFt (T0 K) K (Gr M.fewest_breaths))) : Has P w K mg base 7 "_law_not_worse" ["song", "group", "other", "choir"] (PFt (T0 K) K (Gr M.law_not_worse)) := by
  obtain ⟨fd_can_sing, g_can_sing, kp_can_sing, b_can_sing, G_can_sing⟩ := h_can_sing
  obtain ⟨fd_fewest_breaths, g_fewest_breaths, kp_fewest_breaths, b_fewest_breaths, G_fewest_breaths⟩ := h_fewest_breaths
  obtain ⟨fd, Fd⟩ := T.c.def_ 29 (d := d_law_not_worse) rfl
  refine ⟨fd, T.glo 29, Fd.kp, Fd.bindsN fun _ _ _ _ _ _ us hl => match us, hl with | [_, _, _, _], _ => rfl, ?_⟩
  refine fn_al Fd sc_law_not_worse ?_
  intro cdv hcc A outer s H E hr
  have hu0 := hr.units
  have pE : ∀ {pn : Unit}, Passes (L2N.CX P w) (cxOf (L2N.CX P w) P w K mg base ["song", "group", "other", "choir"] "_law_not_worse" (defScope s_law_not_worse) (He.fAd K d_law_not_worse.at_) cdv A outer s H E) E := fun {_} => L2N.passes_call (L2N.takes_of (E := E) rfl rfl rfl rfl) (fun _ _ _ _ z => z)
  refine ⟨_, (pss_cons (ps_if (pt_cmpR op_notBl (pe_call G_can_sing (hr.mono (by decide)) rfl g_can_sing kp_can_sing b_can_sing .nil (pE (pn := ())) (pa_cons (pv 2) (pa_cons (pv 3) pa_nil))) pe_bl (nomark _)) (pss_one (ps_ret pe_bl)) pss_nil) (pss_one (ps_ret (pe_cmpR op_le (pe_call G_fewest_breaths (hr.mono (by decide)) rfl g_fewest_breaths kp_fewest_breaths b_fewest_breaths .nil (pE (pn := ())) (pa_cons (pv 2) (pa_cons (pv 3) pa_nil))) (pe_call G_fewest_breaths (hr.mono (by decide)) rfl g_fewest_breaths kp_fewest_breaths b_fewest_breaths .nil (pE (pn := ())) (pa_cons (pv 0) (pa_cons (pv 1) pa_nil))) (nomark _))))), ?_⟩
  exact (s_sq (s_ifs (ts_test (d_op (o_notB) (d_v (v_call (as_cons d_var (as_cons d_var as_nil)))) d_bl)) (s_sq (s_rt (v_d d_bl)) s_nx) s_nx) (s_sq (s_rt (v_d (d_op o_le (d_v (v_call (as_cons d_var (as_cons d_var as_nil)))) (d_v (v_call (as_cons d_var (as_cons d_var as_nil))))))) s_nx))
/-! ### _law_cut -/
theorem sc_law_cut : FnScope ["song", "low", "high", "beat"] ["song", "low", "high"] (defScope s_law_cut) := ⟨rfl, rfl, rfl, by decide +kernel, rfl, by decide +kernel, by decide +kernel⟩
theorem ok_law_cut (T : Env K mg) : Has P w K mg base 1 "_law_cut" ["song", "low", "high"] (PFt (T0 K) K (Gr M.law_cut)) := by
  have m_tuple := T.free 36 (x := "tuple")
  obtain ⟨fd, Fd⟩ := T.c.def_ 30 (d := d_law_cut) rfl
  refine ⟨fd, T.glo 30, Fd.kp, Fd.bindsN fun _ _ _ _ _ _ us hl => match us, hl with | [_, _, _], _ => rfl, ?_⟩
  refine fn_al Fd sc_law_cut ?_
  intro cdv hcc A outer s H E hr
  have hu0 := hr.units
  have pE : ∀ {pn : Unit}, Passes (L2N.CX P w) (cxOf (L2N.CX P w) P w K mg base ["song", "low", "high", "beat"] "_law_cut" (defScope s_law_cut) (He.fAd K d_law_cut.at_) cdv A outer s H E) E := fun {_} => L2N.passes_call (L2N.takes_of (E := E) rfl rfl rfl rfl) (fun _ _ _ _ z => z)
  refine ⟨_, (pss_one (ps_ret (pe_tup (pa_cons (pe_op op_sub (pv 2) (pv 1)) (pa_cons (pe_callTy (kTuple K) (by rfl) m_tuple (by decide +kernel) (pa_cons (pe_lc (own := [("beat", 3)]) (g := (gName 3)) rfl sc_law_cut.nd (kpi_tup K (pe_ix (kIxT K) (pv 0) pe_int (fun _ _ => rfl))) (blkOk_by (own := [("beat", 3)]) (by kernel_rfl)) (fun _ _ _ _ _ => (pg_name (i := 3) sc_law_cut.nd rfl (by first | exact Or.inl rfl | exact Or.inr rfl))) (fun _ _ _ _ _ => pts_one (pt_chain op_le op_lt (pv 1) (pv 3) (pv 2))) (fun _ _ _ _ _ => (pe_op op_sub (pv 3) (pv 1)))) pa_nil)) pa_nil))))), ?_⟩
  exact (s_sq (s_rt (v_d (d_tup (as_cons (d_op o_sub d_var d_var) (as_cons (d_cb c_tuple (as_cons (d_v (v_lc (E1 := E0) (E2 := E0) (is_tup (d_op o_ixT d_var d_int)) (gt_name (vs := [3])) (ts_test (d_chain o_le o_lt d_var d_var d_var)) (d_op o_sub d_var d_var))) as_nil)) as_nil))))) s_nx)
/-! ### law -/
theorem sc_law : FnScope ["script", "cell", "deck", "turn", "song", "group", "lists", "beat", "more", "longer", "fewer", "low", "part", "other", "choir", "cut", "row", "one"] ["script"] (defScope s_law) := ⟨rfl, rfl, rfl, by decide +kernel, rfl, by decide +kernel, by decide +kernel⟩
theorem ok_law (T : Env K mg) (h_law_deck : Has P w K mg base 1 "_law_deck" ["cell", "turn"] (PFt (T0 K) K (Gr M.law_deck))) (h_law_group : Has P w K mg base 2 "_law_group" ["deck", "singers", "breath"] (PO (T0 K) K M.law_group)) (h_law_song : Has P w K mg base 3 "_law_song" ["deck", "few", "many"] (PO (T0 K) K M.law_song)) (h_can_sing : Has P w K mg base 6 "can_sing" ["piece", "choir"] (PFt (T0 K) K (Gr M.can_sing))) (h_plan_for : Has P w K mg base 6 "plan_for" ["piece", "choir"] (PFt (T0 K) K (Gr M.plan_for))) (h_law_pick : Has P w K mg base 1 "_law_pick" ["deck", "limit"] (PO (T0 K) K M.law_pick)) (h_law_cut : Has P w K mg base 1 "_law_cut" ["song", "low", "high"] (PFt (T0 K) K (Gr M.law_cut))) (h_law_not_worse : Has P w K mg base 7 "_law_not_worse" ["song", "group", "other", "choir"] (PFt (T0 K) K (Gr M.law_not_worse))) (h_is_plan : Has P w K mg base 6 "is_plan" ["piece", "choir", "value"] (PFt (T0 K) K (Gr M.is_plan))) (h_least_breath : Has P w K mg base 5 "least_breath" ["piece", "singers", "voices"] (PFt (T0 K) K (Gr M.least_breath))) (h_fewest_singers : Has P w K mg base 5 "fewest_singers" ["piece", "breath", "voices"] (PFt (T0 K) K (Gr M.fewest_singers))) (h_most_voices : Has P w K mg base 5 "most_voices" ["piece", "singers", "breath"] (PFt (T0 K) K (Gr M.most_voices))) (h_fewest_breaths : Has P w K mg base 6 "fewest_breaths" ["piece", "choir"] (PFt (T0 K) K (Gr M.fewest_breaths))) {fd : FuncData} (Fd : FunD K d_law.name d_law.qual d_law.params d_law.body d_law.scope (He.DefD.dvs K d_law) (He.DefD.kws K d_law) (He.fAd K d_law.at_) fd) : FnOk P w K mg base (L2N.CX P w) 8 (He.fAd K d_law.at_) fd ["script"] (PFt (T0 K) K (Gr M.k16_law)) := by
  have m_range := T.free 41 (x := "range")
  have m_tuple := T.free 36 (x := "tuple")
  have m_set := T.free 46 (x := "set")
  have m_sorted := T.free 47 (x := "sorted")
  have m_max := T.free 40 (x := "max")
  obtain ⟨fd__law_deck, g__law_deck, kp__law_deck, b__law_deck, G__law_deck⟩ := h_law_deck
  obtain ⟨fd__law_group, g__law_group, kp__law_group, b__law_group, G__law_group⟩ := h_law_group
  obtain ⟨fd__law_song, g__law_song, kp__law_song, b__law_song, G__law_song⟩ := h_law_song
  obtain ⟨fd_can_sing, g_can_sing, kp_can_sing, b_can_sing, G_can_sing⟩ := h_can_sing
  obtain ⟨fd_plan_for, g_plan_for, kp_plan_for, b_plan_for, G_plan_for⟩ := h_plan_for
  obtain ⟨fd__law_pick, g__law_pick, kp__law_pick, b__law_pick, G__law_pick⟩ := h_law_pick
  obtain ⟨fd__law_cut, g__law_cut, kp__law_cut, b__law_cut, G__law_cut⟩ := h_law_cut
  obtain ⟨fd__law_not_worse, g__law_not_worse, kp__law_not_worse, b__law_not_worse, G__law_not_worse⟩ := h_law_not_worse
  obtain ⟨fd_is_plan, g_is_plan, kp_is_plan, b_is_plan, G_is_plan⟩ := h_is_plan
  obtain ⟨fd_least_breath, g_least_breath, kp_least_breath, b_least_breath, G_least_breath⟩ := h_least_breath
  obtain ⟨fd_fewest_singers, g_fewest_singers, kp_fewest_singers, b_fewest_singers, G_fewest_singers⟩ := h_fewest_singers
  obtain ⟨fd_most_voices, g_most_voices, kp_most_voices, b_most_voices, G_most_voices⟩ := h_most_voices
  obtain ⟨fd_fewest_breaths, g_fewest_breaths, kp_fewest_breaths, b_fewest_breaths, G_fewest_breaths⟩ := h_fewest_breaths
  refine fn_al Fd sc_law ?_
  intro cdv hcc A outer s H E hr
  have hu0 := hr.units
  refine ⟨_, (pss_cons (ps_for (passes_of rfl) rfl (kpi_list K (pe_slice (kSlL K) (pe_op (kCatL K) (pe_lst (pa_cons pe_int pa_nil)) (pv 0)) po_none (po_some pe_int))) (pg_name (i := 1) sc_law.nd rfl (by first | exact Or.inl rfl | exact Or.inr rfl)) (pss_cons (ps_set (i := 2) sc_law.nd rfl (by first | exact Or.inl rfl | exact Or.inr rfl) (pe_call G__law_deck (hr.mono (by decide)) rfl g__law_deck kp__law_deck b__law_deck .nil passN (pa_cons (pv 1) (pa_cons pe_int pa_nil)))) (pss_one (ps_for (passes_of rfl) rfl (pi_range1 (by rfl) m_range (pa_cons pe_int pa_nil)) (pg_name (i := 3) sc_law.nd rfl (by first | exact Or.inl rfl | exact Or.inr rfl)) (pss_cons (ps_par (i := 4) (j := 5) rfl sc_law.nd rfl rfl (by decide) rfl rfl (pa_cons (pe_call G__law_song (hr.mono (by decide)) rfl g__law_song kp__law_song b__law_song .nil passN (pa_cons (pv 2) (pa_cons pe_int (pa_cons pe_int pa_nil)))) (pa_cons (pe_call G__law_group (hr.mono (by decide)) rfl g__law_group kp__law_group b__law_group .nil passN (pa_cons (pv 2) (pa_cons pe_int (pa_cons pe_int pa_nil)))) pa_nil)) rfl) (pss_cons (ps_if (pt_not (pt_val (pe_call G_can_sing (hr.mono (by decide)) rfl g_can_sing kp_can_sing b_can_sing .nil passN (pa_cons (pv 4) (pa_cons (pv 5) pa_nil))))) (pss_one ps_continue) pss_nil) (pss_cons (ps_set (i := 6) sc_law.nd rfl (by first | exact Or.inl rfl | exact Or.inr rfl) (pe_call G_plan_for (hr.mono (by decide)) rfl g_plan_for kp_plan_for b_plan_for .nil passN (pa_cons (pv 4) (pa_cons (pv 5) pa_nil)))) (pss_cons (ps_set (i := 7) sc_law.nd rfl (by first | exact Or.inl rfl | exact Or.inr rfl) (pe_call G__law_pick (hr.mono (by decide)) rfl g__law_pick kp__law_pick b__law_pick .nil passN (pa_cons (pv 2) (pa_cons (pe_ix (kIxT K) (pv 4) pe_int (fun _ _ => rfl)) pa_nil)))) (pss_cons (ps_set (i := 8) sc_law.nd rfl (by first | exact Or.inl rfl | exact Or.inr rfl) (pe_tup (pa_cons (pe_ix (kIxT K) (pv 4) pe_int (fun _ _ => rfl)) (pa_cons (pe_callTy (kTuple K) (by rfl) m_tuple (by decide +kernel) (pa_cons (pe_callB (kSortedSet w) (by rfl) m_sorted (by decide +kernel) (pa_cons (pe_callTy (kSetI K w) (by rfl) m_set (by decide +kernel) (pa_cons (pe_op (kCatT K) (pe_ix (kIxT K) (pv 4) pe_int (fun _ _ => rfl)) (pe_tup (pa_cons (pv 7) pa_nil))) pa_nil)) pa_nil)) pa_nil)) pa_nil)))) (pss_cons (ps_par (i := 9) (j := 10) rfl sc_law.nd rfl rfl (by decide) rfl rfl (pa_cons (pe_tup (pa_cons (pe_ix (kIxT K) (pv 5) pe_int (fun _ _ => rfl)) (pa_cons (pe_op op_add (pe_ix (kIxT K) (pv 5) pe_int (fun _ _ => rfl)) pe_int) (pa_cons (pe_ix (kIxT K) (pv 5) pe_int (fun _ _ => rfl)) pa_nil)))) (pa_cons (pe_tup (pa_cons (pe_ix (kIxT K) (pv 5) pe_int (fun _ _ => rfl)) (pa_cons (pe_ix (kIxT K) (pv 5) pe_int (fun _ _ => rfl)) (pa_cons (pe_callB (call_max2 rfl) (by rfl) m_max (by decide +kernel) (pa_cons pe_int (pa_cons (pe_op op_sub (pe_ix (kIxT K) (pv 5) pe_int (fun _ _ => rfl)) pe_int) pa_nil))) pa_nil)))) pa_nil)) rfl) (pss_cons (ps_set (i := 11) sc_law.nd rfl (by first | exact Or.inl rfl | exact Or.inr rfl) (pe_call G__law_pick (hr.mono (by decide)) rfl g__law_pick kp__law_pick b__law_pick .nil passN (pa_cons (pv 2) (pa_cons (pe_ix (kIxT K) (pv 4) pe_int (fun _ _ => rfl)) pa_nil)))) (pss_cons (ps_set (i := 12) sc_law.nd rfl (by first | exact Or.inl rfl | exact Or.inr rfl) (pe_call G__law_cut (hr.mono (by decide)) rfl g__law_cut kp__law_cut b__law_cut .nil passN (pa_cons (pv 4) (pa_cons (pv 11) (pa_cons (pe_op op_add (pe_op op_add (pv 11) pe_int) (pe_call G__law_pick (hr.mono (by decide)) rfl g__law_pick kp__law_pick b__law_pick .nil passN (pa_cons (pv 2) (pa_cons (pe_op op_sub (pe_ix (kIxT K) (pv 4) pe_int (fun _ _ => rfl)) (pv 11)) pa_nil)))) pa_nil))))) (pss_cons (ps_for (passes_of rfl) rfl (kpi_list K (pe_lst (pa_cons (pe_tup (pa_cons (pv 8) (pa_cons (pv 5) pa_nil))) (pa_cons (pe_tup (pa_cons (pv 4) (pa_cons (pv 9) pa_nil))) (pa_cons (pe_tup (pa_cons (pv 4) (pa_cons (pv 10) pa_nil))) (pa_cons (pe_tup (pa_cons (pv 12) (pa_cons (pv 5) pa_nil))) pa_nil)))))) (kpg_tup K rfl (pgs_cons (pg_name (i := 13) sc_law.nd rfl (by first | exact Or.inl rfl | exact Or.inr rfl)) (pgs_cons (pg_name (i := 14) sc_law.nd rfl (by first | exact Or.inl rfl | exact Or.inr rfl)) pgs_nil))) (pss_one (ps_if (pt_not (pt_val (pe_call G__law_not_worse (hr.mono (by decide)) rfl g__law_not_worse kp__law_not_worse b__law_not_worse .nil passN (pa_cons (pv 4) (pa_cons (pv 5) (pa_cons (pv 13) (pa_cons (pv 14) pa_nil))))))) (pss_one (ps_ret pe_bl)) pss_nil))) (pss_cons (ps_for (passes_of rfl) rfl (kpi_list K (pe_lst (pa_cons (pe_tup (pa_cons (pv 8) (pa_cons (pv 5) pa_nil))) (pa_cons (pe_tup (pa_cons (pv 4) (pa_cons (pv 9) pa_nil))) (pa_cons (pe_tup (pa_cons (pv 4) (pa_cons (pv 10) pa_nil))) pa_nil))))) (kpg_tup K rfl (pgs_cons (pg_name (i := 13) sc_law.nd rfl (by first | exact Or.inl rfl | exact Or.inr rfl)) (pgs_cons (pg_name (i := 14) sc_law.nd rfl (by first | exact Or.inl rfl | exact Or.inr rfl)) pgs_nil))) (pss_one (ps_if (pt_cmpR op_notBl (pe_call G_is_plan (hr.mono (by decide)) rfl g_is_plan kp_is_plan b_is_plan .nil passN (pa_cons (pv 13) (pa_cons (pv 14) (pa_cons (pv 6) pa_nil)))) pe_bl (nomark _)) (pss_one (ps_ret pe_bl)) pss_nil))) (pss_cons (ps_set (i := 15) sc_law.nd rfl (by first | exact Or.inl rfl | exact Or.inr rfl) (pe_callTy (kTuple K) (by rfl) m_tuple (by decide +kernel) (pa_cons (pe_lc (own := [("row", 16)]) (g := (gName 16)) (tt := tYes) rfl sc_law.nd (kpi_tup K (pv 6)) (blkOk_by (own := [("row", 16)]) (by kernel_rfl)) (fun _ _ _ _ _ => (pg_name (i := 16) sc_law.nd rfl (by first | exact Or.inl rfl | exact Or.inr rfl))) (fun _ _ _ _ _ => pts_nil) (fun _ _ _ _ _ => (pe_callTy (kTuple K) (by rfl) m_tuple (by decide +kernel) (pa_cons (pe_lc (own := [("one", 17)]) (g := (gName 17)) rfl sc_law.nd (kpi_tup K (pv 16)) (blkOk_by (own := [("one", 17)]) (by kernel_rfl)) (fun _ _ _ _ _ => (pg_name (i := 17) sc_law.nd rfl (by first | exact Or.inl rfl | exact Or.inr rfl))) (fun _ _ _ _ _ => pts_one (pt_chain op_le op_lt (pv 11) (pv 17) (pe_op op_add (pv 11) (pe_ix (kIxT K) (pv 12) pe_int (fun _ _ => rfl))))) (fun _ _ _ _ _ => (pe_op op_sub (pv 17) (pv 11)))) pa_nil)))) pa_nil))) (pss_cons (ps_if (pt_cmpR op_notBl (pe_call G_is_plan (hr.mono (by decide)) rfl g_is_plan kp_is_plan b_is_plan .nil passN (pa_cons (pv 12) (pa_cons (pv 5) (pa_cons (pv 15) pa_nil)))) pe_bl (nomark _)) (pss_one (ps_ret pe_bl)) pss_nil) (pss_cons (ps_if (pt_cmpR op_gt (pe_call G_least_breath (hr.mono (by decide)) rfl g_least_breath kp_least_breath b_least_breath .nil passN (pa_cons (pv 4) (pa_cons (pe_ix (kIxT K) (pv 5) pe_int (fun _ _ => rfl)) (pa_cons (pe_ix (kIxT K) (pv 5) pe_int (fun _ _ => rfl)) pa_nil)))) (pe_ix (kIxT K) (pv 5) pe_int (fun _ _ => rfl)) (nomark _)) (pss_one (ps_ret pe_bl)) pss_nil) (pss_one (ps_if (PW.pt (pw_or (pt_cmpR op_lt (pe_call G_most_voices (hr.mono (by decide)) rfl g_most_voices kp_most_voices b_most_voices .nil passN (pa_cons (pv 4) (pa_cons (pe_ix (kIxT K) (pv 5) pe_int (fun _ _ => rfl)) (pa_cons (pe_ix (kIxT K) (pv 5) pe_int (fun _ _ => rfl)) pa_nil)))) (pe_ix (kIxT K) (pv 5) pe_int (fun _ _ => rfl)) (nomark _)) (pw_or1 (pt_cmpR op_gt (pe_call G_fewest_singers (hr.mono (by decide)) rfl g_fewest_singers kp_fewest_singers b_fewest_singers .nil passN (pa_cons (pv 4) (pa_cons (pe_ix (kIxT K) (pv 5) pe_int (fun _ _ => rfl)) (pa_cons (pe_ix (kIxT K) (pv 5) pe_int (fun _ _ => rfl)) pa_nil)))) (pe_ix (kIxT K) (pv 5) pe_int (fun _ _ => rfl)) (nomark _))))) (pss_one (ps_ret pe_bl)) pss_nil))))))))))))))))))) (pss_cons (ps_set (i := 4) sc_law.nd rfl (by first | exact Or.inl rfl | exact Or.inr rfl) (pe_tup (pa_cons pe_int (pa_cons (pe_tup (pa_cons pe_int (pa_cons pe_int (pa_cons pe_int (pa_cons pe_int (pa_cons pe_int (pa_cons pe_int pa_nil))))))) pa_nil)))) (pss_cons (ps_if (PW.pt (pw_or (pt_val (pe_call G_can_sing (hr.mono (by decide)) rfl g_can_sing kp_can_sing b_can_sing .nil passN (pa_cons (pv 4) (pa_cons (pe_tup (pa_cons pe_int (pa_cons pe_int (pa_cons pe_int pa_nil)))) pa_nil)))) (pw_or (pt_not (pt_val (pe_call G_can_sing (hr.mono (by decide)) rfl g_can_sing kp_can_sing b_can_sing .nil passN (pa_cons (pe_tup (pa_cons pe_int (pa_cons (pe_tupRg rfl (by rfl) m_tuple (prg_1 (by rfl) m_range pe_int)) pa_nil))) (pa_cons (pe_tup (pa_cons pe_int (pa_cons pe_int (pa_cons pe_int pa_nil)))) pa_nil))))) (pw_or1 (pt_not (pt_val (pe_call G_can_sing (hr.mono (by decide)) rfl g_can_sing kp_can_sing b_can_sing .nil passN (pa_cons (pv 4) (pa_cons (pe_tup (pa_cons pe_int (pa_cons pe_int (pa_cons pe_int pa_nil)))) pa_nil))))))))) (pss_one (ps_ret pe_bl)) pss_nil) (pss_cons (ps_if (pt_cmpR op_ne (pe_call G_fewest_breaths (hr.mono (by decide)) rfl g_fewest_breaths kp_fewest_breaths b_fewest_breaths .nil passN (pa_cons (pe_tup (pa_cons pe_int (pa_cons (pe_tup (pa_cons pe_int pa_nil)) pa_nil))) (pa_cons (pe_tup (pa_cons pe_int (pa_cons pe_int (pa_cons pe_int pa_nil)))) pa_nil))) pe_int (nomark _)) (pss_one (ps_ret pe_bl)) pss_nil) (pss_one (ps_ret (pe_and (pe_call G_can_sing (hr.mono (by decide)) rfl g_can_sing kp_can_sing b_can_sing .nil passN (pa_cons (pe_tup (pa_cons pe_int (pa_cons (pe_tup (pa_cons pe_int pa_nil)) pa_nil))) (pa_cons (pe_tup (pa_cons pe_int (pa_cons pe_int (pa_cons pe_int pa_nil)))) pa_nil))) (pe_one (pe_not (pe_call G_can_sing (hr.mono (by decide)) rfl g_can_sing kp_can_sing b_can_sing .nil passN (pa_cons (pe_tup (pa_cons pe_int (pa_cons (pe_tup (pa_cons pe_int pa_nil)) pa_nil))) (pa_cons (pe_tup (pa_cons pe_int (pa_cons pe_int (pa_cons pe_int pa_nil)))) pa_nil)))))))))))), ?_⟩
  exact (s_sq (s_fr (is_list (d_v (v_slL (d_v (v_opL o_catL (d_v (v_lst (as_cons d_int as_nil))) d_var)) os_no (os_some d_int)))) (gt_name (vs := [1])) (s_sq (s_set (v_callN (as_cons d_var (as_cons d_int as_nil)))) (s_sq (s_fr (is_rng1 (as_cons d_int as_nil)) (gt_name (vs := [3])) (s_sq (s_par (ws_cons (v_d (d_v (v_callO (as_cons d_int (as_cons d_int as_nil))))) (ws_cons (v_d (d_v (v_callO (as_cons d_int (as_cons d_int as_nil))))) ws_nil))) (s_sq (s_ifs (ts_not (ts_B (d_v (v_callN (as_cons d_var (as_cons d_var as_nil)))))) (s_sq s_ct s_nx) s_nx) (s_sq (s_set (v_d (d_v (v_callN (as_cons d_var (as_cons d_var as_nil)))))) (s_sq (s_set (v_d (d_v (v_callO (as_cons (d_op o_ixT d_var d_int) as_nil))))) (s_sq (s_set (v_d (d_tup (as_cons (d_op o_ixT d_var d_int) (as_cons (d_cb c_tuple (as_cons (d_v (v_sset (d_op o_catT (d_op o_ixT d_var d_int) (d_tup (as_cons d_var as_nil))))) as_nil)) as_nil))))) (s_sq (s_par (ws_cons (v_d (d_tup (as_cons (d_op o_ixT d_var d_int) (as_cons (d_op o_add (d_op o_ixT d_var d_int) d_int) (as_cons (d_op o_ixT d_var d_int) as_nil))))) (ws_cons (v_d (d_tup (as_cons (d_op o_ixT d_var d_int) (as_cons (d_op o_ixT d_var d_int) (as_cons (d_cb (c_max2) (as_cons d_int (as_cons (d_op o_sub (d_op o_ixT d_var d_int) d_int) as_nil))) as_nil))))) ws_nil))) (s_sq (s_set (v_d (d_v (v_callO (as_cons (d_op o_ixT d_var d_int) as_nil))))) (s_sq (s_set (v_d (d_v (v_callN (as_cons d_var (as_cons d_var (as_cons (d_op o_add (d_op o_add d_var d_int) (d_v (v_callO (as_cons (d_op o_sub (d_op o_ixT d_var d_int) d_var) as_nil)))) as_nil))))))) (s_sq (s_fr (is_list (d_v (v_lst (as_cons (d_tup (as_cons d_var (as_cons d_var as_nil))) (as_cons (d_tup (as_cons d_var (as_cons d_var as_nil))) (as_cons (d_tup (as_cons d_var (as_cons d_var as_nil))) (as_cons (d_tup (as_cons d_var (as_cons d_var as_nil))) as_nil))))))) (gt_2 (vs := [13, 14])) (s_sq (s_ifs (ts_not (ts_B (d_v (v_callN (as_cons d_var (as_cons d_var (as_cons d_var (as_cons d_var as_nil)))))))) (s_sq (s_rt (v_d d_bl)) s_nx) s_nx) s_nx)) (s_sq (s_fr (is_list (d_v (v_lst (as_cons (d_tup (as_cons d_var (as_cons d_var as_nil))) (as_cons (d_tup (as_cons d_var (as_cons d_var as_nil))) (as_cons (d_tup (as_cons d_var (as_cons d_var as_nil))) as_nil)))))) (gt_2 (vs := [13, 14])) (s_sq (s_ifs (ts_test (d_op (o_notB) (d_v (v_callN (as_cons d_var (as_cons d_var (as_cons d_var as_nil))))) d_bl)) (s_sq (s_rt (v_d d_bl)) s_nx) s_nx) s_nx)) (s_sq (s_set (v_d (d_cb c_tuple (as_cons (d_v (v_lc (E1 := E0) (E2 := E0) (is_tup d_var) (gt_name (vs := [16])) ts_yes (d_cb c_tuple (as_cons (d_v (v_lc (E1 := E0) (E2 := E0) (is_tup d_var) (gt_name (vs := [17])) (ts_test (d_chain o_le o_lt d_var d_var (d_op o_add d_var (d_op o_ixT d_var d_int)))) (d_op o_sub d_var d_var))) as_nil)))) as_nil)))) (s_sq (s_ifs (ts_test (d_op (o_notB) (d_v (v_callN (as_cons d_var (as_cons d_var (as_cons d_var as_nil))))) d_bl)) (s_sq (s_rt (v_d d_bl)) s_nx) s_nx) (s_sq (s_ifs (ts_test (d_op o_gt (d_v (v_callN (as_cons d_var (as_cons (d_op o_ixT d_var d_int) (as_cons (d_op o_ixT d_var d_int) as_nil))))) (d_op o_ixT d_var d_int))) (s_sq (s_rt (v_d d_bl)) s_nx) s_nx) (s_sq (s_ifs (ts_or (ts_test (d_op o_lt (d_v (v_callN (as_cons d_var (as_cons (d_op o_ixT d_var d_int) (as_cons (d_op o_ixT d_var d_int) as_nil))))) (d_op o_ixT d_var d_int))) (ts_test (d_op o_gt (d_v (v_callN (as_cons d_var (as_cons (d_op o_ixT d_var d_int) (as_cons (d_op o_ixT d_var d_int) as_nil))))) (d_op o_ixT d_var d_int)))) (s_sq (s_rt (v_d d_bl)) s_nx) s_nx) s_nx))))))))))))))) s_nx))) (s_sq (s_set (v_d (d_tup (as_cons d_int (as_cons (d_tup (as_cons d_int (as_cons d_int (as_cons d_int (as_cons d_int (as_cons d_int (as_cons d_int as_nil))))))) as_nil))))) (s_sq (s_ifs (ts_or (ts_B (d_v (v_callN (as_cons d_var (as_cons (d_tup (as_cons d_int (as_cons d_int (as_cons d_int as_nil)))) as_nil))))) (ts_or (ts_not (ts_B (d_v (v_callN (as_cons (d_tup (as_cons d_int (as_cons (d_tupRg (gs_1 d_int)) as_nil))) (as_cons (d_tup (as_cons d_int (as_cons d_int (as_cons d_int as_nil)))) as_nil)))))) (ts_not (ts_B (d_v (v_callN (as_cons d_var (as_cons (d_tup (as_cons d_int (as_cons d_int (as_cons d_int as_nil)))) as_nil)))))))) (s_sq (s_rt (v_d d_bl)) s_nx) s_nx) (s_sq (s_ifs (ts_test (d_op o_ne (d_v (v_callN (as_cons (d_tup (as_cons d_int (as_cons (d_tup (as_cons d_int as_nil)) as_nil))) (as_cons (d_tup (as_cons d_int (as_cons d_int (as_cons d_int as_nil)))) as_nil)))) d_int)) (s_sq (s_rt (v_d d_bl)) s_nx) s_nx) (s_sq (s_rt (v_d (d_andV (d_v (v_callN (as_cons (d_tup (as_cons d_int (as_cons (d_tup (as_cons d_int as_nil)) as_nil))) (as_cons (d_tup (as_cons d_int (as_cons d_int (as_cons d_int as_nil)))) as_nil)))) (d_notV (d_v (v_callN (as_cons (d_tup (as_cons d_int (as_cons (d_tup (as_cons d_int as_nil)) as_nil))) (as_cons (d_tup (as_cons d_int (as_cons d_int (as_cons d_int as_nil)))) as_nil)))))))) s_nx)))))
end
def loose : List Str := (["ChoirError", "InvalidPiece", "InvalidChoir", "InvalidNumber", "NotPossible", "MOST_BEATS", "MOST_SINGERS", "is_from", "good_beats", "is_piece", "is_choir", "need_piece", "need_choir", "good_rows", "longest_run", "sounds", "right_from", "is_plan", "window_counts", "enough", "dealt", "all_places", "can_sing", "plan_for", "chosen", "fewest_breaths", "need_number", "singers_for", "fewest_singers", "most_voices"] : List Str) ++ (["least_breath", "_law_deck", "_law_pick", "_law_one", "_law_sort", "_law_same", "_law_song", "_law_group", "_law_not_worse", "_law_cut"] : List Str)
abbrev R : PySem.W.OpenRow := PySem.W.OpenLaw.row PySem.Challenge.rw_staggerbreaths_k16_whole_more_never_take
abbrev hk : PySem.W.Hook := He.hookD 4 fa fn
def ob (s : PySem.W.SharedT) : He.AlD := He.obsDG 4 fa fn (HandSHeadRun.getT s)
theorem ob_eq (s : PySem.W.SharedT) : ob s = hk.obs s.abs := He.obsDG_eq (HandSHeadRun.getT_eq s)
theorem run (w : World) : HandSHeadRun.RunEq R (PySem.W.view R.prog [45]) hk ob 6000 loose w := by
  intro os
  kernel_rfl
theorem facts {P : Program} {w : World} {K : PySem.W.Frag} {h : Heap} {mg : Str → Option Value} {f : Addr} (X : K.In h) (G : h.Ns mainGlobals mg) (hfa : mg ("law" : Str) = some (.ref f)) (c : He.SaysD fa fn K) :
    ∃ fd : FuncData, (∀ (s : Shared) (v : Value), BindsTo s fd ⟨[v], []⟩ [("script", v)]) ∧ ∀ base : Heap, K.In base → base.Ns mainGlobals mg → FnOk P w K mg base (L2N.CX P w) 8 f fd ["script"] (PFt (T0 K) K (Gr M.k16_law)) := by
  have T : Env K mg := ⟨c, h, X, G⟩
  obtain ⟨fd, F⟩ := c.def_ 31 (d := d_law) rfl
  have e := hfa.symm.trans (T.glo 31 (x := "law"))
  cases e
  have b := FunD.bindsA (ps := ["script"]) F fun _ _ _ _ _ _ us hl => match us, hl with | [_], _ => rfl
  refine ⟨fd, fun s v => b s [v] rfl, fun base _ _ => ?_⟩
  have h_is_from := ok_is_from (P := P) (w := w) (base := base) T 
  have h_good_beats := ok_good_beats (P := P) (w := w) (base := base) T h_is_from
  have h_is_piece := ok_is_piece (P := P) (w := w) (base := base) T h_is_from h_good_beats
  have h_is_choir := ok_is_choir (P := P) (w := w) (base := base) T h_is_from
  have h_need_piece := ok_need_piece (P := P) (w := w) (base := base) T h_is_piece
  have h_need_choir := ok_need_choir (P := P) (w := w) (base := base) T h_need_piece h_is_choir
  have h_good_rows := ok_good_rows (P := P) (w := w) (base := base) T h_good_beats
  have h_longest_run := ok_longest_run (P := P) (w := w) (base := base) T 
  have h_sounds := ok_sounds (P := P) (w := w) (base := base) T 
  have h_right_from := ok_right_from (P := P) (w := w) (base := base) T h_sounds h_longest_run
  have h_is_plan := ok_is_plan (P := P) (w := w) (base := base) T h_need_choir h_right_from h_good_rows
  have h_window_counts := ok_window_counts (P := P) (w := w) (base := base) T 
  have h_enough := ok_enough (P := P) (w := w) (base := base) T h_window_counts
  have h_dealt := ok_dealt (P := P) (w := w) (base := base) T 
  have h_all_places := ok_all_places (P := P) (w := w) (base := base) T 
  have h_can_sing := ok_can_sing (P := P) (w := w) (base := base) T h_need_choir h_enough
  have h_plan_for := ok_plan_for (P := P) (w := w) (base := base) T h_need_choir h_enough h_all_places h_dealt
  have h_chosen := ok_chosen (P := P) (w := w) (base := base) T 
  have h_fewest_breaths := ok_fewest_breaths (P := P) (w := w) (base := base) T h_need_choir h_enough h_chosen
  have h_need_number := ok_need_number (P := P) (w := w) (base := base) T h_is_from
  have h_singers_for := ok_singers_for (P := P) (w := w) (base := base) T 
  have h_fewest_singers := ok_fewest_singers (P := P) (w := w) (base := base) T h_need_piece h_need_number h_window_counts h_singers_for
  have h_most_voices := ok_most_voices (P := P) (w := w) (base := base) T h_need_piece h_need_number h_window_counts
  have h_least_breath := ok_least_breath (P := P) (w := w) (base := base) T h_need_piece h_need_number h_window_counts
  have h_law_deck := ok_law_deck (P := P) (w := w) (base := base) T 
  have h_law_pick := ok_law_pick (P := P) (w := w) (base := base) T 
  have h_law_one := ok_law_one (P := P) (w := w) (base := base) T h_law_pick
  have h_law_song := ok_law_song (P := P) (w := w) (base := base) T h_law_one h_law_pick
  have h_law_group := ok_law_group (P := P) (w := w) (base := base) T h_law_pick
  have h_law_not_worse := ok_law_not_worse (P := P) (w := w) (base := base) T h_can_sing h_fewest_breaths
  have h_law_cut := ok_law_cut (P := P) (w := w) (base := base) T 
  exact ok_law T h_law_deck h_law_group h_law_song h_can_sing h_plan_for h_law_pick h_law_cut h_law_not_worse h_is_plan h_least_breath h_fewest_singers h_most_voices h_fewest_breaths F
end G
open PySem PySem.W PySem.Calls PyProof.Rows
theorem PySem.Challenge.cw_staggerbreaths_k16_whole_more_never_take_holds : PySem.Challenge.rw_staggerbreaths_k16_whole_more_never_take.Holds := by
  w_on; o_law
  refine HandSHeadRun.head_any (r := OpenLaw.row PySem.Challenge.rw_staggerbreaths_k16_whole_more_never_take) (q := view (OpenLaw.row PySem.Challenge.rw_staggerbreaths_k16_whole_more_never_take).prog [45]) (H := G.hk) (ob := G.ob) (M := 6000) (loose := G.loose) (d := HandSHeadRun.topDef (OpenLaw.row PySem.Challenge.rw_staggerbreaths_k16_whole_more_never_take).prog 45) (kwd := []) G.ob_eq
    (by kernel_rfl) (fun s => by kernel_rfl) G.run (by kernel_rfl) (by kernel_rfl) (by kernel_rfl) (by rfl) (by first | assumption | decide +kernel) (by decide +kernel) ⟨rfl, rfl, rfl, rfl, rfl, by decide +kernel⟩ ?hw ?hc
  case hw => w_witness2
  case hc =>
    refine TL.walk_end (l := PySem.Challenge.rw_staggerbreaths_k16_whole_more_never_take) (n := 63) (k := 8) (x := "script") (R := AL.Gr M.k16_law) rfl (Nat.le_of_ble_eq_true rfl) (by kernel_rfl) ⟨rfl, by decide, by decide⟩ ?F M.k16_law_true
    intro w mg fa h Y N hmg0
    obtain ⟨K, KX, c⟩ := Y
    have hmg : mg ("law" : PySem.Str) = some (.ref fa) := by
      have e : (HandSHeadRun.topDef (OpenLaw.row PySem.Challenge.rw_staggerbreaths_k16_whole_more_never_take).prog 45).name = ("law" : PySem.Str) := by kernel_rfl
      rw [← e]
      exact hmg0
    obtain ⟨fd, hb, hF⟩ := G.facts (P := (PySem.Challenge.rw_staggerbreaths_k16_whole_more_never_take).prog) (w := w) KX N hmg c
    exact ⟨K, fd, KX, hb, hF⟩

