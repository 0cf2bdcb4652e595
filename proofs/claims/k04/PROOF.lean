import PyProof.Rows.All
import Wide.All
import OpenK.AllK
import Wide.FinOn
import HandS.ForMost
import HandS.ForExc
import HandS.Wide
import HandS.Deep
import HandS.TupAny
import HandS.Codes
import HandS.CallSlots
import HandS.IsInst
import KE.GoesEnum
import HandS.More
import HandS.EndBits
import KE.KIntText
import PyProof.Rows.StrBin
import PySem.Challenge.RW_twomakes_k04_written_and_read
set_option Elab.async false
set_option linter.all false
set_option maxRecDepth 100000
namespace Ev
open PySem PySem.Spec PyProof.Rows L2

/-! ### data -/
/-- plain data: what never changes any more -/
inductive D where
  | non | bl (b : Bool) | int (i : Int) | str (x : Str)
  | tup (xs : List D) | lst (xs : List D) | dct (kvs : List (D × D)) | obj (n : Nat) | exn (c : Str)
  deriving Inhabited
/-- a cell: plain data, or a list or a dict that this cell alone holds -/
inductive C where
  | val (d : D) | lst (xs : List D) | dct (kvs : List (D × D))
  deriving Inhabited
/-- a shared object: a list, a dict, an instance, of cells -/
inductive SO where
  | lst (cs : List C) | dct (kvs : List (D × C)) | ins (cls : Str) (fs : List (Str × C))
  deriving Inhabited
structure FSt where
  sl : List (Option C)
  st : List SO
inductive Out (σ α : Type) where
  | ok (a : α) (s : σ) | exc (c : Str) (s : σ) | stuck
  deriving Inhabited
abbrev M (α : Type) := FSt → Out FSt α
/-- a def, from outside -/
abbrev Fn := List D → List SO → Out (List SO) D
def C.toD : C → D
  | .val d => d
  | .lst xs => .lst xs
  | .dct kvs => .dct kvs

/-- the ghost: which addresses are settled for good, where the shared objects stand -/
structure G where
  Z : Addr → Prop
  ι : List Addr

/-! ### how data lies in the heap -/
section
variable (K : PySem.W.Frag)
def FT (g : G) (H : Hp) (a : Addr) (vs : List V) : Prop := SqT K H a vs ∧ (g.Z a ∨ ∀ H', SqT K H' a vs)
def FL (g : G) (H : Hp) (a : Addr) (vs : List V) : Prop := SqL K H a vs ∧ (g.Z a ∨ ∀ H', SqL K H' a vs)
def keyD : Key → D
  | .inl i => .int i
  | .inr x => .str x
mutual
def Rep (g : G) (H : Hp) : D → V → Prop
  | .non, v => v = .non
  | .bl b, v => v = .bl b
  | .int i, v => v = .int i
  | .str x, v => v = .str x ∧ PyData.strOk x = true
  | .tup xs, v => ∃ a vs, v = .ref a ∧ FT K g H a vs ∧ RepL g H xs vs
  | .lst xs, v => ∃ a vs, v = .ref a ∧ FL K g H a vs ∧ RepL g H xs vs
  | .dct kvs, v => ∃ a ks, v = .ref a ∧ (Rd H a (.dK ks) ∧ g.Z a) ∧ RepK g H kvs ks
  | .obj n, v => ∃ a, g.ι[n]? = some a ∧ v = .ref a
  | .exn _, _ => False
def RepL (g : G) (H : Hp) : List D → List V → Prop
  | [], vs => vs = []
  | x :: xs, vs => ∃ v ws, vs = v :: ws ∧ Rep g H x v ∧ RepL g H xs ws
def RepK (g : G) (H : Hp) : List (D × D) → List (Key × V) → Prop
  | [], ks => ks = []
  | (k, d) :: r, ks => ∃ kk v ws, ks = (kk, v) :: ws ∧ keyD kk = k ∧ (∀ x, kk = Sum.inr x → PyData.strOk x = true) ∧ Rep g H d v ∧ RepK g H r ws
end
def RepC (g : G) (H : Hp) : C → V → List Addr → Prop
  | .val d, v, f => Rep K g H d v ∧ f = []
  | .lst xs, v, f => ∃ a vs, v = .ref a ∧ H a = some (.lst vs) ∧ RepL K g H xs vs ∧ f = [a]
  | .dct kvs, v, f => ∃ a ks, v = .ref a ∧ H a = some (.dK ks) ∧ RepK K g H kvs ks ∧ f = [a]
def RepCs (g : G) (H : Hp) : List C → List V → List Addr → Prop
  | [], vs, f => vs = [] ∧ f = []
  | c :: cs, vs, f => ∃ v ws f1 f2, vs = v :: ws ∧ f = f1 ++ f2 ∧ RepC K g H c v f1 ∧ RepCs g H cs ws f2
def RepS (g : G) (H : Hp) : List (Option C) → L2.St → List Addr → Prop
  | [], σ, f => σ = [] ∧ f = []
  | c :: cs, σ, f => ∃ v ws f1 f2, σ = v :: ws ∧ f = f1 ++ f2 ∧ (match c with | none => f1 = [] | some c => ∃ u, v = some u ∧ RepC K g H c u f1) ∧ RepS g H cs ws f2
variable (mg : Str → Option Value)
def RepO (g : G) (H : Hp) : SO → Addr → List Addr → Prop
  | .lst cs, a, f => ∃ vs f1, H a = some (.lst vs) ∧ RepCs K g H cs vs f1 ∧ f = a :: f1
  | .dct kvs, a, f => ∃ ks f1, H a = some (.dK ks) ∧ ks.map (fun p => keyD p.1) = kvs.map (·.1) ∧ RepCs K g H (kvs.map (·.2)) (ks.map (·.2)) f1 ∧ f = a :: f1
  | .ins cls fs, a, f => ∃ Cl dx gs f1, H a = some (.ins Cl dx gs) ∧ mg cls = some (.ref Cl) ∧ gs.map (·.1) = fs.map (·.1) ∧ RepCs K g H (fs.map (·.2)) (gs.map (·.2)) f1 ∧ f = a :: f1
def RepOs (g : G) (H : Hp) : List SO → List Addr → List Addr → Prop
  | [], as, f => as = [] ∧ f = []
  | o :: os, as, f => ∃ a bs f1 f2, as = a :: bs ∧ f = f1 ++ f2 ∧ RepO K mg g H o a f1 ∧ RepOs g H os bs f2
end

/-! ### from one heap to the next -/
structure Ext (F : List Addr) (g : G) (H : Hp) (g' : G) (H' : Hp) : Prop where
  keep : ∀ a o, H a = some o → a ∉ F → H' a = some o
  z : ∀ a, g.Z a → g'.Z a
  zn : ∀ a, g'.Z a → g.Z a ∨ a ∈ F ∨ H a = none
  dom : ∀ a, H a ≠ none → H' a ≠ none
  io : ∃ t, g'.ι = g.ι ++ t
theorem Ext.refl (F : List Addr) (g : G) (H : Hp) : Ext F g H g H := ⟨fun _ _ h _ => h, fun _ h => h, fun _ h => .inl h, fun _ h => h, ⟨[], by simp⟩⟩
theorem Ext.mono {F F' : List Addr} {g g' : G} {H H' : Hp} (e : Ext F g H g' H') (h : ∀ a ∈ F, a ∈ F') : Ext F' g H g' H' :=
  ⟨fun a o q n => e.keep a o q fun z => n (h a z), e.z, fun a q => (e.zn a q).imp id (Or.imp (h a) id), e.dom, e.io⟩
/-- F' : what may be written behind the first step -/
theorem Ext.trans {F F' : List Addr} {g g1 g2 : G} {H H1 H2 : Hp} (e : Ext F g H g1 H1) (e' : Ext F' g1 H1 g2 H2) (h : ∀ a ∈ F', a ∈ F ∨ H a = none) : Ext F g H g2 H2 where
  keep := fun a o q n => e'.keep a o (e.keep a o q n) fun z => (h a z).elim n fun k => by rw [q] at k; cases k
  z := fun a q => e'.z a (e.z a q)
  zn := fun a q => by
    rcases e'.zn a q with z | z | z
    · exact e.zn a z
    · exact .inr (h a z)
    · right; right
      cases k : H a with
      | none => rfl
      | some o => exact absurd z (e.dom a (by rw [k]; simp))
  dom := fun a q => e'.dom a (e.dom a q)
  io := by
    obtain ⟨t, q⟩ := e.io
    obtain ⟨u, r⟩ := e'.io
    exact ⟨t ++ u, by rw [r, q, List.append_assoc]⟩

section
variable {K : PySem.W.Frag} {mg : Str → Option Value} {F : List Addr} {g g' : G} {H H' : Hp}
theorem Rd.ext (e : Ext F g H g' H') {a : Addr} {u : HO} (n : a ∉ F) (h : Rd H a u) : Rd H' a u := by
  rcases h with h | ⟨o, h⟩
  · exact .inl (e.keep _ _ h n)
  · exact .inr ⟨o, e.keep _ _ h n⟩
theorem SqT.ext (e : Ext F g H g' H') {a : Addr} {u : List V} (n : a ∉ F) (h : SqT K H a u) : SqT K H' a u := by
  rcases h with h | h
  · exact .inl (Rd.ext e n h)
  · exact .inr h
theorem SqL.ext (e : Ext F g H g' H') {a : Addr} {u : List V} (n : a ∉ F) (h : SqL K H a u) : SqL K H' a u := by
  rcases h with h | h
  · exact .inl (Rd.ext e n h)
  · exact .inr h
theorem FT.ext (e : Ext F g H g' H') (hz : ∀ a, g.Z a → a ∉ F) {a : Addr} {u : List V} (h : FT K g H a u) : FT K g' H' a u := by
  obtain ⟨h, k | k⟩ := h
  · exact ⟨SqT.ext e (hz a k) h, .inl (e.z a k)⟩
  · exact ⟨k _, .inr k⟩
theorem FL.ext (e : Ext F g H g' H') (hz : ∀ a, g.Z a → a ∉ F) {a : Addr} {u : List V} (h : FL K g H a u) : FL K g' H' a u := by
  obtain ⟨h, k | k⟩ := h
  · exact ⟨SqL.ext e (hz a k) h, .inl (e.z a k)⟩
  · exact ⟨k _, .inr k⟩
mutual
theorem Rep.ext (e : Ext F g H g' H') (hz : ∀ a, g.Z a → a ∉ F) : ∀ (d : D) {v : V}, Rep K g H d v → Rep K g' H' d v
  | .non, v, h => by unfold Rep at h ⊢; exact h
  | .bl b, v, h => by unfold Rep at h ⊢; exact h
  | .int i, v, h => by unfold Rep at h ⊢; exact h
  | .str x, v, h => by unfold Rep at h ⊢; exact h
  | .tup xs, v, h => by
    unfold Rep at h ⊢
    obtain ⟨a, vs, e1, f, r⟩ := h
    exact ⟨a, vs, e1, f.ext e hz, RepL.ext e hz xs r⟩
  | .lst xs, v, h => by
    unfold Rep at h ⊢
    obtain ⟨a, vs, e1, f, r⟩ := h
    exact ⟨a, vs, e1, f.ext e hz, RepL.ext e hz xs r⟩
  | .dct kvs, v, h => by
    unfold Rep at h ⊢
    obtain ⟨a, ks, e1, ⟨f, z⟩, r⟩ := h
    exact ⟨a, ks, e1, ⟨Rd.ext e (hz a z) f, e.z a z⟩, RepK.ext e hz kvs r⟩
  | .obj n, v, h => by
    unfold Rep at h ⊢
    obtain ⟨a, e1, e2⟩ := h
    obtain ⟨t, ht⟩ := e.io
    refine ⟨a, ?_, e2⟩
    rw [ht, List.getElem?_append_left (List.getElem?_eq_some_iff.mp e1).1]
    exact e1
  | .exn c, v, h => by unfold Rep at h ⊢; exact h
theorem RepL.ext (e : Ext F g H g' H') (hz : ∀ a, g.Z a → a ∉ F) : ∀ (xs : List D) {vs : List V}, RepL K g H xs vs → RepL K g' H' xs vs
  | [], vs, h => by unfold RepL at h ⊢; exact h
  | x :: xs, vs, h => by
    unfold RepL at h ⊢
    obtain ⟨v, ws, e1, r, rs⟩ := h
    exact ⟨v, ws, e1, Rep.ext e hz x r, RepL.ext e hz xs rs⟩
theorem RepK.ext (e : Ext F g H g' H') (hz : ∀ a, g.Z a → a ∉ F) : ∀ (kvs : List (D × D)) {ks : List (Key × V)}, RepK K g H kvs ks → RepK K g' H' kvs ks
  | [], ks, h => by unfold RepK at h ⊢; exact h
  | (k, d) :: r, ks, h => by
    unfold RepK at h ⊢
    obtain ⟨kk, v, ws, e1, e2, e3, r1, rs⟩ := h
    exact ⟨kk, v, ws, e1, e2, e3, Rep.ext e hz d r1, RepK.ext e hz r rs⟩
end
theorem RepC.ext (e : Ext F g H g' H') (hz : ∀ a, g.Z a → a ∉ F) {c : C} {v : V} {f : List Addr} (h : RepC K g H c v f) (hf : ∀ a ∈ f, a ∉ F) : RepC K g' H' c v f := by
  cases c with
  | val d => exact ⟨Rep.ext e hz d h.1, h.2⟩
  | lst xs =>
    obtain ⟨a, vs, e1, e2, r, e3⟩ := h
    exact ⟨a, vs, e1, e.keep _ _ e2 (hf a (by rw [e3]; simp)), RepL.ext e hz xs r, e3⟩
  | dct kvs =>
    obtain ⟨a, vs, e1, e2, r, e3⟩ := h
    exact ⟨a, vs, e1, e.keep _ _ e2 (hf a (by rw [e3]; simp)), RepK.ext e hz kvs r, e3⟩
theorem RepCs.ext (e : Ext F g H g' H') (hz : ∀ a, g.Z a → a ∉ F) : ∀ (cs : List C) {vs : List V} {f : List Addr}, RepCs K g H cs vs f → (∀ a ∈ f, a ∉ F) → RepCs K g' H' cs vs f
  | [], vs, f, h, hf => h
  | c :: cs, vs, f, h, hf => by
    unfold RepCs at h ⊢
    obtain ⟨v, ws, f1, f2, e1, e2, r, rs⟩ := h
    exact ⟨v, ws, f1, f2, e1, e2, r.ext e hz fun a q => hf a (by rw [e2]; simp [q]), RepCs.ext e hz cs rs fun a q => hf a (by rw [e2]; simp [q])⟩
theorem RepS.ext (e : Ext F g H g' H') (hz : ∀ a, g.Z a → a ∉ F) : ∀ (cs : List (Option C)) {σ : L2.St} {f : List Addr}, RepS K g H cs σ f → (∀ a ∈ f, a ∉ F) → RepS K g' H' cs σ f
  | [], vs, f, h, hf => h
  | c :: cs, vs, f, h, hf => by
    unfold RepS at h ⊢
    obtain ⟨v, ws, f1, f2, e1, e2, r, rs⟩ := h
    refine ⟨v, ws, f1, f2, e1, e2, ?_, RepS.ext e hz cs rs fun a q => hf a (by rw [e2]; simp [q])⟩
    cases c with
    | none => exact r
    | some c =>
      obtain ⟨u, q, r⟩ := r
      exact ⟨u, q, r.ext e hz fun a q => hf a (by rw [e2]; simp [q])⟩
theorem RepO.ext (e : Ext F g H g' H') (hz : ∀ a, g.Z a → a ∉ F) {o : SO} {a : Addr} {f : List Addr} (h : RepO K mg g H o a f) (hf : ∀ a ∈ f, a ∉ F) : RepO K mg g' H' o a f := by
  cases o with
  | lst cs =>
    obtain ⟨vs, f1, e1, r, e2⟩ := h
    exact ⟨vs, f1, e.keep _ _ e1 (hf a (by rw [e2]; simp)), r.ext e hz _ fun b q => hf b (by rw [e2]; simp [q]), e2⟩
  | dct kvs =>
    obtain ⟨ks, f1, e1, ek, r, e2⟩ := h
    exact ⟨ks, f1, e.keep _ _ e1 (hf a (by rw [e2]; simp)), ek, r.ext e hz _ fun b q => hf b (by rw [e2]; simp [q]), e2⟩
  | ins cls fs =>
    obtain ⟨Cl, dx, gs, f1, e1, ec, ek, r, e2⟩ := h
    exact ⟨Cl, dx, gs, f1, e.keep _ _ e1 (hf a (by rw [e2]; simp)), ec, ek, r.ext e hz _ fun b q => hf b (by rw [e2]; simp [q]), e2⟩
theorem RepOs.ext (e : Ext F g H g' H') (hz : ∀ a, g.Z a → a ∉ F) : ∀ (os : List SO) {as : List Addr} {f : List Addr}, RepOs K mg g H os as f → (∀ a ∈ f, a ∉ F) → RepOs K mg g' H' os as f
  | [], vs, f, h, hf => h
  | c :: cs, vs, f, h, hf => by
    unfold RepOs at h ⊢
    obtain ⟨v, ws, f1, f2, e1, e2, r, rs⟩ := h
    exact ⟨v, ws, f1, f2, e1, e2, r.ext e hz fun a q => hf a (by rw [e2]; simp [q]), RepOs.ext e hz cs rs fun a q => hf a (by rw [e2]; simp [q])⟩
/-- what a cell owns is tracked -/
theorem RepC.dom {c : C} {v : V} {f : List Addr} (h : RepC K g H c v f) : ∀ a ∈ f, H a ≠ none := by
  cases c with
  | val d => rw [h.2]; simp
  | lst xs =>
    obtain ⟨a, vs, e1, e2, r, e3⟩ := h
    rw [e3]; simp [e2]
  | dct kvs =>
    obtain ⟨a, vs, e1, e2, r, e3⟩ := h
    rw [e3]; simp [e2]
theorem RepCs.dom : ∀ (cs : List C) {vs : List V} {f : List Addr}, RepCs K g H cs vs f → ∀ a ∈ f, H a ≠ none
  | [], vs, f, h => by rw [h.2]; simp
  | c :: cs, vs, f, h => by
    unfold RepCs at h
    obtain ⟨v, ws, f1, f2, e1, e2, r, rs⟩ := h
    intro a q
    rw [e2] at q
    rcases List.mem_append.mp q with q | q
    · exact r.dom a q
    · exact RepCs.dom cs rs a q
theorem RepS.dom : ∀ (cs : List (Option C)) {σ : L2.St} {f : List Addr}, RepS K g H cs σ f → ∀ a ∈ f, H a ≠ none
  | [], vs, f, h => by rw [h.2]; simp
  | c :: cs, vs, f, h => by
    unfold RepS at h
    obtain ⟨v, ws, f1, f2, e1, e2, r, rs⟩ := h
    intro a q
    rw [e2] at q
    rcases List.mem_append.mp q with q | q
    · cases c with
      | none =>
        have r : f1 = [] := r
        rw [r] at q; simp at q
      | some c =>
        obtain ⟨u, _, r⟩ := r
        exact r.dom a q
    · exact RepS.dom cs rs a q
theorem RepO.dom {o : SO} {a : Addr} {f : List Addr} (h : RepO K mg g H o a f) : ∀ a ∈ f, H a ≠ none := by
  cases o with
  | lst cs =>
    obtain ⟨vs, f1, e1, r, e2⟩ := h
    intro b q
    rw [e2] at q
    rcases List.mem_cons.mp q with q | q
    · rw [q, e1]; simp
    · exact RepCs.dom _ r b q
  | dct kvs =>
    obtain ⟨ks, f1, e1, ek, r, e2⟩ := h
    intro b q
    rw [e2] at q
    rcases List.mem_cons.mp q with q | q
    · rw [q, e1]; simp
    · exact RepCs.dom _ r b q
  | ins cls fs =>
    obtain ⟨Cl, dx, gs, f1, e1, ec, ek, r, e2⟩ := h
    intro b q
    rw [e2] at q
    rcases List.mem_cons.mp q with q | q
    · rw [q, e1]; simp
    · exact RepCs.dom _ r b q
theorem RepOs.dom : ∀ (os : List SO) {as : List Addr} {f : List Addr}, RepOs K mg g H os as f → ∀ a ∈ f, H a ≠ none
  | [], vs, f, h => by rw [h.2]; simp
  | c :: cs, vs, f, h => by
    unfold RepOs at h
    obtain ⟨v, ws, f1, f2, e1, e2, r, rs⟩ := h
    intro a q
    rw [e2] at q
    rcases List.mem_append.mp q with q | q
    · exact r.dom a q
    · exact RepOs.dom cs rs a q
end

section
variable {K : PySem.W.Frag} {g g' : G} {H : Hp}
mutual
/-- more is settled -/
theorem Rep.zmono (hz : ∀ a, g.Z a → g'.Z a) (hi : g'.ι = g.ι) : ∀ (d : D) {v : V}, Rep K g H d v → Rep K g' H d v
  | .non, v, h => by unfold Rep at h ⊢; exact h
  | .bl b, v, h => by unfold Rep at h ⊢; exact h
  | .int i, v, h => by unfold Rep at h ⊢; exact h
  | .str x, v, h => by unfold Rep at h ⊢; exact h
  | .tup xs, v, h => by
    unfold Rep at h ⊢
    obtain ⟨a, vs, e1, ⟨f, k⟩, r⟩ := h
    exact ⟨a, vs, e1, ⟨f, k.imp (hz a) id⟩, RepL.zmono hz hi xs r⟩
  | .lst xs, v, h => by
    unfold Rep at h ⊢
    obtain ⟨a, vs, e1, ⟨f, k⟩, r⟩ := h
    exact ⟨a, vs, e1, ⟨f, k.imp (hz a) id⟩, RepL.zmono hz hi xs r⟩
  | .dct kvs, v, h => by
    unfold Rep at h ⊢
    obtain ⟨a, ks, e1, ⟨f, z⟩, r⟩ := h
    exact ⟨a, ks, e1, ⟨f, hz a z⟩, RepK.zmono hz hi kvs r⟩
  | .obj n, v, h => by
    unfold Rep at h ⊢
    rw [hi]; exact h
  | .exn c, v, h => by unfold Rep at h ⊢; exact h
theorem RepL.zmono (hz : ∀ a, g.Z a → g'.Z a) (hi : g'.ι = g.ι) : ∀ (xs : List D) {vs : List V}, RepL K g H xs vs → RepL K g' H xs vs
  | [], vs, h => by unfold RepL at h ⊢; exact h
  | x :: xs, vs, h => by
    unfold RepL at h ⊢
    obtain ⟨v, ws, e1, r, rs⟩ := h
    exact ⟨v, ws, e1, Rep.zmono hz hi x r, RepL.zmono hz hi xs rs⟩
theorem RepK.zmono (hz : ∀ a, g.Z a → g'.Z a) (hi : g'.ι = g.ι) : ∀ (kvs : List (D × D)) {ks : List (Key × V)}, RepK K g H kvs ks → RepK K g' H kvs ks
  | [], ks, h => by unfold RepK at h ⊢; exact h
  | (k, d) :: r, ks, h => by
    unfold RepK at h ⊢
    obtain ⟨kk, v, ws, e1, e2, e3, r1, rs⟩ := h
    exact ⟨kk, v, ws, e1, e2, e3, Rep.zmono hz hi d r1, RepK.zmono hz hi r rs⟩
end
end

/-! ### a def's state -/
/-- the entry of a def: ghost, heap, what it may write -/
structure Ent where
  g : G
  H : Hp
  F : List Addr
structure Rel (K : PySem.W.Frag) (mg : Str → Option Value) (B : Ent) (g : G) (s : FSt) (σ : L2.St) (H : Hp) (f1 f2 : List Addr) : Prop where
  sl : RepS K g H s.sl σ f1
  st : RepOs K mg g H s.st g.ι f2
  nd : (f1 ++ f2).Nodup
  nz : ∀ a ∈ f1 ++ f2, ¬ g.Z a
  zd : ∀ a, g.Z a → H a ≠ none
  ex : Ext B.F B.g B.H g H
  ow : ∀ a ∈ f1 ++ f2, a ∈ B.F ∨ B.H a = none
section
variable {K : PySem.W.Frag} {mg : Str → Option Value} {B : Ent} {g g' : G} {s : FSt} {σ : L2.St} {H H' : Hp} {f1 f2 : List Addr}
theorem Rel.zf (R : Rel K mg B g s σ H f1 f2) : ∀ a, g.Z a → a ∉ f1 ++ f2 := fun a z q => R.nz a q z
theorem Rel.dom (R : Rel K mg B g s σ H f1 f2) : ∀ a ∈ f1 ++ f2, H a ≠ none := fun a q => by
  rcases List.mem_append.mp q with q | q
  · exact RepS.dom _ R.sl a q
  · exact RepOs.dom _ R.st a q
/-- a heap that only grew -/
theorem Rel.grow (R : Rel K mg B g s σ H f1 f2) (e : Ext [] g H g' H') (hi : g'.ι = g.ι) (hz : ∀ a, g'.Z a → H' a ≠ none) : Rel K mg B g' s σ H' f1 f2 where
  sl := R.sl.ext e (fun _ _ => by simp) _ (fun _ _ => by simp)
  st := by rw [hi]; exact R.st.ext e (fun _ _ => by simp) _ (fun _ _ => by simp)
  nd := R.nd
  nz := fun a q z => by
    rcases e.zn a z with k | k | k
    · exact R.nz a q k
    · simp at k
    · exact R.dom a q k
  zd := hz
  ex := R.ex.trans e (fun _ q => by simp at q)
  ow := R.ow
end

/-! ### borrowed values -/
def Bor (K : PySem.W.Frag) (g : G) (H : Hp) : D → V → Prop
  | .lst xs, v => ∃ a vs, v = .ref a ∧ SqL K H a vs ∧ RepL K g H xs vs
  | .dct kvs, v => ∃ a ks, v = .ref a ∧ Rd H a (.dK ks) ∧ RepK K g H kvs ks
  | d, v => Rep K g H d v
section
variable {K : PySem.W.Frag} {mg : Str → Option Value} {F : List Addr} {g g' : G} {H H' : Hp} {d : D} {v : V}
theorem Rep.bor (h : Rep K g H d v) : Bor K g H d v := by
  cases d with
  | lst xs =>
    unfold Rep at h
    obtain ⟨a, vs, e, f, r⟩ := h
    exact ⟨a, vs, e, f.1, r⟩
  | dct kvs =>
    unfold Rep at h
    obtain ⟨a, vs, e, f, r⟩ := h
    exact ⟨a, vs, e, f.1, r⟩
  | _ => exact h
theorem Bor.grow (h : Bor K g H d v) (e : Ext [] g H g' H') : Bor K g' H' d v := by
  cases d with
  | lst xs =>
    obtain ⟨a, vs, e1, f, r⟩ := h
    exact ⟨a, vs, e1, SqL.ext e (by simp) f, r.ext e (fun _ _ => by simp) xs⟩
  | dct kvs =>
    obtain ⟨a, vs, e1, f, r⟩ := h
    exact ⟨a, vs, e1, Rd.ext e (by simp) f, r.ext e (fun _ _ => by simp) kvs⟩
  | _ => exact Rep.ext e (fun _ _ => by simp) _ h
theorem RepC.bor {c : C} {f : List Addr} (h : RepC K g H c v f) : Bor K g H c.toD v := by
  cases c with
  | val d => exact h.1.bor
  | lst xs =>
    obtain ⟨a, vs, e1, e2, r, e3⟩ := h
    exact ⟨a, vs, e1, .inl (.inl e2), r⟩
  | dct kvs =>
    obtain ⟨a, vs, e1, e2, r, e3⟩ := h
    exact ⟨a, vs, e1, .inl e2, r⟩
/-- a given cell's content stays while others write -/
theorem RepC.borExt {c : C} {f : List Addr} (h : RepC K g H c v f) (e : Ext F g H g' H') (hz : ∀ a, g.Z a → a ∉ F) (hf : ∀ a ∈ f, a ∉ F) : Bor K g' H' c.toD v := (h.ext e hz hf).bor
end
end Ev

namespace Ev
open PySem PySem.Spec PyProof.Rows L2

/-! ### the plain side -/
def bnd {α β : Type} (m : M α) (k : α → M β) : M β := fun s =>
  match m s with
  | .ok a s' => k a s'
  | .exc n s' => .exc n s'
  | .stuck => .stuck
def opt {α : Type} (o : Option α) : M α := fun s =>
  match o with
  | some a => .ok a s
  | none => .stuck
def ret {α : Type} (a : α) : M α := fun s => .ok a s
/-- what is read off the state -/
def get {α : Type} (r : FSt → Option α) : M α := fun s => opt (r s) s

/-! ### what a step keeps -/
def Sub (f : List Addr) (H : Hp) (l : List Addr) : Prop := ∀ a ∈ l, a ∈ f ∨ H a = none
theorem Sub.refl (f : List Addr) (H : Hp) : Sub f H f := fun _ h => .inl h
/-- a new thing, nothing else changed -/
structure New (g : G) (H : Hp) (g' : G) (H' : Hp) : Prop where
  ext : Ext [] g H g' H'
  io : g'.ι = g.ι
  zd : (∀ a, g.Z a → H a ≠ none) → ∀ a, g'.Z a → H' a ≠ none
theorem New.refl (g : G) (H : Hp) : New g H g H := ⟨.refl _ _ _, rfl, fun h => h⟩
theorem Ext.upd_new {g : G} {H : Hp} {p : Addr} {o : HO} (np : H p = none) (F : List Addr) : Ext F g H g (upd H p o) :=
  ⟨fun a u q _ => by rw [upd_ne (ne_of_none q np)]; exact q, fun _ h => h, fun _ h => .inl h, fun a q => by
    by_cases e : a = p
    · rw [e, upd_same]; simp
    · rw [upd_ne e]; exact q, ⟨[], by simp⟩⟩
/-- a fresh object, not settled -/
theorem New.own {g : G} {H : Hp} {p : Addr} {o : HO} (np : H p = none) : New g H g (upd H p o) :=
  ⟨.upd_new np _, rfl, fun h a z => (Ext.upd_new (g := g) (o := o) np []).dom a (h a z)⟩
/-- settled for good -/
def G.addL (g : G) (l : List Addr) : G := { g with Z := fun a => g.Z a ∨ a ∈ l }
theorem New.addL {g : G} {H : Hp} {l : List Addr} (h : ∀ a ∈ l, H a = none) {H' : Hp} (e : Ext [] g H g H') (d : ∀ a ∈ l, H' a ≠ none) : New g H (g.addL l) H' where
  ext := ⟨e.keep, fun _ h => .inl h, fun a z => z.elim (e.zn a) fun z => .inr (.inr (h a z)), e.dom, ⟨[], by simp [G.addL]⟩⟩
  io := rfl
  zd := fun k a z => z.elim (fun z => e.dom a (k a z)) (d a)
theorem New.frz {g : G} {H : Hp} {p : Addr} {o : HO} (np : H p = none) : New g H (g.addL [p]) (upd H p o) :=
  New.addL (by simp [np]) (.upd_new np _) (by simp [upd_same])
theorem New.trans {g g1 g2 : G} {H H1 H2 : Hp} (a : New g H g1 H1) (b : New g1 H1 g2 H2) : New g H g2 H2 :=
  ⟨a.ext.trans b.ext (fun _ q => by simp at q), b.io.trans a.io, fun h => b.zd (a.zd h)⟩

/-- the plain state with its ghosts -/
structure Wd where
  g : G
  s : FSt
  f1 : List Addr
  f2 : List Addr
abbrev Wd.f (w : Wd) : List Addr := w.f1 ++ w.f2

/-- a step of a def: the state behind it -/
structure StepK (K : PySem.W.Frag) (mg : Str → Option Value) (B : Ent) (w : Wd) (H : Hp) (w' : Wd) (σ' : L2.St) (H' : Hp) : Prop where
  rel : Rel K mg B w'.g w'.s σ' H' w'.f1 w'.f2
  ext : Ext w.f w.g H w'.g H'
  sub : Sub w.f H w'.f
section
variable (X : Cx) (B : Ent) (W : WX)
abbrev RelW (w : Wd) (σ : L2.St) (H : Hp) : Prop := Rel X.K X.mg B w.g w.s σ H w.f1 w.f2
abbrev Step (w : Wd) (H : Hp) (w' : Wd) (σ' : L2.St) (H' : Hp) : Prop := StepK X.K X.mg B w H w' σ' H'
/-- .. that changed nothing -/
structure Pure (w : Wd) (H : Hp) (w' : Wd) (H' : Hp) : Prop where
  s : w'.s = w.s
  f1 : w'.f1 = w.f1
  f2 : w'.f2 = w.f2
  n : New w.g H w'.g H'
/-- the run m from the world w: what is wanted (R: how a result lies behind it) -/
def At {α β : Type} (R : α → β → Wd → Hp → Prop) (m : M α) (w : Wd) (σ : L2.St) (H : Hp) (Q : β → Hp → Prop) : Prop :=
  RelW X B w σ H ∧ match m w.s with
  | .ok a s' => ∀ b w' H', w'.s = s' → Step X B w H w' σ H' → R a b w' H' → Q b H'
  | .exc n s' => ∀ Cl w' H', w'.s = s' → X.mg n = some (.ref Cl) → Step X B w H w' σ H' → W (.ref Cl) none σ H'
  | .stuck => False
def TX {α β : Type} (R : Wd → Hp → α → β → Wd → Hp → Prop) (m : M α) : L2.St → Hp → (β → Hp → Prop) → Prop := fun σ H Q => ∃ w, At X B W (R w H) m w σ H Q

/-- a borrowed value (b: it stays while others write; p: nothing is changed) -/
def RV (b p : Bool) (w : Wd) (H : Hp) (d : D) (v : V) (w' : Wd) (H' : Hp) : Prop :=
  Bor X.K w'.g H' d v ∧ (b = true → ∀ g2 H2, Ext w'.f w'.g H' g2 H2 → Bor X.K g2 H2 d v) ∧ (p = true → Pure w H w' H')
/-- plain data -/
def RF (p : Bool) (w : Wd) (H : Hp) (d : D) (v : V) (w' : Wd) (H' : Hp) : Prop := Rep X.K w'.g H' d v ∧ (p = true → Pure w H w' H')
/-- a fresh cell -/
def RG (p : Bool) (w : Wd) (H : Hp) (c : C) (v : V) (w' : Wd) (H' : Hp) : Prop :=
  ∃ fr, RepC X.K w'.g H' c v fr ∧ (∀ a ∈ fr, a ∉ w'.f ∧ ¬ w'.g.Z a ∧ (a ∈ B.F ∨ B.H a = none)) ∧ Sub w.f H fr ∧ (p = true → Pure w H w' H' ∧ ∀ a ∈ fr, H a = none)
def RFs (p : Bool) (w : Wd) (H : Hp) (ds : List D) (vs : List V) (w' : Wd) (H' : Hp) : Prop := RepL X.K w'.g H' ds vs ∧ (p = true → Pure w H w' H')
def RB (p : Bool) (w : Wd) (H : Hp) (b c : Bool) (w' : Wd) (H' : Hp) : Prop := b = c ∧ (p = true → Pure w H w' H')
abbrev TV (b p : Bool) (f : M D) : TE := TX X B W (RV X b p) f
abbrev TF (p : Bool) (f : M D) : TE := TX X B W (RF X p) f
abbrev TG (p : Bool) (f : M C) : TE := TX X B W (RG X B p) f
abbrev TFs (p : Bool) (f : M (List D)) : TA := TX X B W (RFs X p) f
abbrev TB (p : Bool) (f : M Bool) : TT := TX X B W (RB p) f

structure EV (b p : Bool) (e : Expr) (f : M D) : Prop where
  h : PE X e (TV X B W b p f)
structure EF (p : Bool) (e : Expr) (f : M D) : Prop where
  h : PE X e (TF X B W p f)
structure EG (p : Bool) (e : Expr) (f : M C) : Prop where
  h : PE X e (TG X B W p f)
structure EFs (p : Bool) (es : List Expr) (f : M (List D)) : Prop where
  h : PA X es (TFs X B W p f)
structure ET (p : Bool) (e : Expr) (f : M Bool) : Prop where
  h : PT X e (TB X B W p f)
structure EW (p : Bool) (e : Expr) (f : M Bool) : Prop where
  h : PW X e (TB X B W p f)
end

section
variable {X : Cx} {B : Ent} {W : WX} {w w' w2 : Wd} {H H' H2 : Hp} {σ σ' σ2 : L2.St} {α β γ : Type}
theorem Step.refl (R : RelW X B w σ H) : Step X B w H w σ H := ⟨R, .refl _ _ _, .refl _ _⟩
theorem Step.trans (a : Step X B w H w' σ' H') (b : Step X B w' H' w2 σ2 H2) : Step X B w H w2 σ2 H2 where
  rel := b.rel
  ext := a.ext.trans b.ext a.sub
  sub := fun x q => by
    rcases b.sub x q with z | z
    · exact a.sub x z
    · right
      cases k : H x with
      | none => rfl
      | some o => exact absurd z (a.ext.dom x (by rw [k]; simp))
theorem Step.new {g' : G} (R : RelW X B w σ H) (n : New w.g H g' H') : Step X B w H { w with g := g' } σ H' := ⟨R.grow n.ext n.io (n.zd R.zd), n.ext.mono (by simp), .refl _ _⟩
theorem Pure.refl : Pure w H w H := ⟨rfl, rfl, rfl, .refl _ _⟩
theorem Pure.new {g' : G} (n : New w.g H g' H') : Pure w H { w with g := g' } H' := ⟨rfl, rfl, rfl, n⟩
theorem Pure.trans (a : Pure w H w' H') (b : Pure w' H' w2 H2) : Pure w H w2 H2 := ⟨b.s.trans a.s, b.f1.trans a.f1, b.f2.trans a.f2, a.n.trans b.n⟩
theorem Sub.trans (a : Step X B w H w' σ' H') {l : List Addr} (b : Sub w'.f H' l) : Sub w.f H l := fun x q => by
  rcases b x q with z | z
  · exact a.sub x z
  · right
    cases k : H x with
    | none => rfl
    | some o => exact absurd z (a.ext.dom x (by rw [k]; simp))

/-- a run in two parts -/
theorem At.bnd {δ : Type} {R : α → γ → Wd → Hp → Prop} {R1 : β → δ → Wd → Hp → Prop} {m : M β} {k : β → M α} {Q : γ → Hp → Prop} {Q1 : δ → Hp → Prop} (h : At X B W R (bnd m k) w σ H Q)
    (next : ∀ a b w1 H1, Step X B w H w1 σ H1 → R1 a b w1 H1 → At X B W R (k a) w1 σ H1 Q → Q1 b H1) : At X B W R1 m w σ H Q1 := by
  obtain ⟨R0, h⟩ := h
  refine ⟨R0, ?_⟩
  unfold Ev.bnd at h
  cases e : m w.s with
  | ok a s1 =>
    rw [e] at h
    intro b w1 H1 es st r
    subst es
    refine next a b w1 H1 st r ⟨st.rel, ?_⟩
    have h : match k a w1.s with
      | .ok a s' => ∀ b w' H', w'.s = s' → Step X B w H w' σ H' → R a b w' H' → Q b H'
      | .exc n s' => ∀ Cl w' H', w'.s = s' → X.mg n = some (.ref Cl) → Step X B w H w' σ H' → W (.ref Cl) none σ H'
      | .stuck => False := h
    cases e2 : k a w1.s with
    | ok a2 s2 =>
      rw [e2] at h
      exact fun b w' H' q st2 r2 => h b w' H' q (st.trans st2) r2
    | exc n s2 =>
      rw [e2] at h
      exact fun Cl w' H' q m st2 => h Cl w' H' q m (st.trans st2)
    | stuck =>
      rw [e2] at h
      exact h
  | exc n s1 =>
    rw [e] at h
    exact h
  | stuck =>
    rw [e] at h
    exact h
/-- the end -/
theorem At.opt {R : α → γ → Wd → Hp → Prop} {o : Option α} {Q : γ → Hp → Prop} (h : At X B W R (opt o) w σ H Q) :
    ∃ a, o = some a ∧ RelW X B w σ H ∧ ∀ b w' H', w'.s = w.s → Step X B w H w' σ H' → R a b w' H' → Q b H' := by
  obtain ⟨R0, h⟩ := h
  cases o with
  | none => exact h.elim
  | some a => exact ⟨a, rfl, R0, h⟩
theorem At.get {R : α → γ → Wd → Hp → Prop} {r : FSt → Option α} {Q : γ → Hp → Prop} (h : At X B W R (get r) w σ H Q) :
    ∃ a, r w.s = some a ∧ RelW X B w σ H ∧ ∀ b w' H', w'.s = w.s → Step X B w H w' σ H' → R a b w' H' → Q b H' := At.opt (o := r w.s) h
theorem At.ret {R : α → γ → Wd → Hp → Prop} {a : α} {Q : γ → Hp → Prop} (h : At X B W R (ret a) w σ H Q) :
    RelW X B w σ H ∧ ∀ b w' H', w'.s = w.s → Step X B w H w' σ H' → R a b w' H' → Q b H' := h
/-- the same run, another way to lie -/
theorem At.imp {R R1 : α → γ → Wd → Hp → Prop} {m : M α} {Q : γ → Hp → Prop} (h : At X B W R m w σ H Q)
    (r : ∀ a b w' H', Step X B w H w' σ H' → R1 a b w' H' → R a b w' H') : At X B W R1 m w σ H Q := by
  obtain ⟨R0, h⟩ := h
  refine ⟨R0, ?_⟩
  cases e : m w.s with
  | ok a s1 =>
    rw [e] at h
    exact fun b w' H' q st x => h b w' H' q st (r _ _ _ _ st x)
  | exc n s1 => rw [e] at h; exact h
  | stuck => rw [e] at h; exact h
/-- .. and another end -/
theorem At.map {δ : Type} {R : α → γ → Wd → Hp → Prop} {R1 : β → δ → Wd → Hp → Prop} {m : M β} {k : β → α} {Q : γ → Hp → Prop} {Q1 : δ → Hp → Prop} (h : At X B W R (Ev.bnd m fun a => Ev.ret (k a)) w σ H Q)
    (next : ∀ a b w1 H1, Step X B w H w1 σ H1 → R1 a b w1 H1 → (∀ c w' H', w'.s = w1.s → Step X B w H w' σ H' → R (k a) c w' H' → Q c H') → Q1 b H1) : At X B W R1 m w σ H Q1 := by
  obtain ⟨R0, h⟩ := h
  refine ⟨R0, ?_⟩
  unfold Ev.bnd at h
  cases e : m w.s with
  | ok a s1 =>
    rw [e] at h
    intro b w1 H1 es st r
    subst es
    exact next a b w1 H1 st r h
  | exc n s1 =>
    rw [e] at h
    exact h
  | stuck =>
    rw [e] at h
    exact h

/-! ### from one kind to another -/
theorem EF.v {p : Bool} {e : Expr} {f : M D} (h : EF X B W p e f) : EV X B W true p e f := ⟨⟨fun pins sh σ H Q I ⟨w, t⟩ => h.h.run pins sh σ H Q I
  ⟨w, t.imp fun d v w' H' st r => ⟨r.1.bor, fun _ g2 H2 x => (Rep.ext x st.rel.zf _ r.1).bor, r.2⟩⟩⟩⟩
theorem RepC.settle {K : PySem.W.Frag} {g : G} {c : C} {v : V} {fr : List Addr} (h : RepC K g H c v fr) : Rep K (g.addL fr) H c.toD v := by
  have z : ∀ a, g.Z a → (g.addL fr).Z a := fun a k => .inl k
  cases c with
  | val d =>
    exact Rep.zmono z rfl d h.1
  | lst xs =>
    obtain ⟨a, vs, e1, e2, r, e3⟩ := h
    show Rep K (g.addL fr) H (.lst xs) v
    unfold Rep
    exact ⟨a, vs, e1, ⟨.inl (.inl e2), .inl (.inr (by rw [e3]; simp))⟩, RepL.zmono z rfl xs r⟩
  | dct kvs =>
    obtain ⟨a, vs, e1, e2, r, e3⟩ := h
    show Rep K (g.addL fr) H (.dct kvs) v
    unfold Rep
    exact ⟨a, vs, e1, ⟨.inl e2, .inr (by rw [e3]; simp)⟩, RepK.zmono z rfl kvs r⟩
/-- a world in which l is settled -/
def Wd.addL (w : Wd) (l : List Addr) : Wd := { w with g := w.g.addL l }
theorem Rel.addL {l : List Addr} (R : RelW X B w σ H) (h : ∀ a ∈ l, a ∉ w.f ∧ ¬ w.g.Z a ∧ (a ∈ B.F ∨ B.H a = none)) (d : ∀ a ∈ l, H a ≠ none) : RelW X B (w.addL l) σ H where
  sl := R.sl.ext (F := l) (⟨fun _ _ h _ => h, fun _ h => .inl h, fun a z => z.imp id fun q => .inl q, fun _ h => h, ⟨[], by simp [Wd.addL, G.addL]⟩⟩ : Ext l w.g H (w.addL l).g H) (fun a z q => (h a q).2.1 z) _ (fun a q z => (h a z).1 (List.mem_append_left _ q))
  st := R.st.ext (F := l) (⟨fun _ _ h _ => h, fun _ h => .inl h, fun a z => z.imp id fun q => .inl q, fun _ h => h, ⟨[], by simp [Wd.addL, G.addL]⟩⟩ : Ext l w.g H (w.addL l).g H) (fun a z q => (h a q).2.1 z) _ (fun a q z => (h a z).1 (List.mem_append_right _ q))
  nd := R.nd
  nz := fun a q z => z.elim (R.nz a q) fun z => (h a z).1 q
  zd := fun a z => z.elim (R.zd a) (d a)
  ex := ⟨R.ex.keep, fun a z => .inl (R.ex.z a z), fun a z => z.elim (R.ex.zn a) fun z => .inr (h a z).2.2, R.ex.dom, R.ex.io⟩
  ow := R.ow
/-- a fresh cell becomes plain data -/
def fz (f : M C) : M D := bnd f fun c => ret c.toD
theorem EG.f {p : Bool} {e : Expr} {f : M C} (h : EG X B W p e f) : EF X B W p e (fz f) := ⟨⟨fun pins sh σ H Q I ⟨w, t⟩ => h.h.run pins sh σ H Q I
  ⟨w, t.map fun c v w1 H1 st ⟨fr, r, hn, hs, hp⟩ t => by
    have R1 : RelW X B (w1.addL fr) σ H1 := Rel.addL st.rel hn r.dom
    refine t v (w1.addL fr) H1 rfl ⟨R1, ⟨st.ext.keep, fun a z => .inl (st.ext.z a z), fun a z => z.elim (st.ext.zn a) fun z => .inr (hs a z), st.ext.dom, st.ext.io⟩, st.sub⟩ ⟨r.settle, fun e => ?_⟩
    obtain ⟨pu, n⟩ := hp e
    refine ⟨pu.s, pu.f1, pu.f2, ?_⟩
    exact ⟨⟨pu.n.ext.keep, fun a z => .inl (pu.n.ext.z a z), fun a z => z.elim (pu.n.ext.zn a) fun z => .inr (.inr (n a z)), pu.n.ext.dom, pu.n.ext.io⟩, pu.n.io, fun k a z => z.elim (pu.n.zd k a) (r.dom a)⟩⟩⟩⟩

end
end Ev

namespace Ev
open PySem PySem.Spec PyProof.Rows L2

/-! ### equality of data -/
mutual
def D.toPD : D → PyData
  | .non => .none
  | .bl b => .bool b
  | .int i => .int i
  | .str x => .str x
  | .tup xs => .tuple (D.toPDs xs)
  | .lst xs => .list (D.toPDs xs)
  | .dct _ => .dict []
  | .obj _ => .dict []
  | .exn _ => .dict []
def D.toPDs : List D → List PyData
  | [] => []
  | x :: xs => D.toPD x :: D.toPDs xs
end
mutual
/-- none, bools, ints, texts, tuples and lists of such -/
def D.fin : D → Bool
  | .tup xs => D.fins xs
  | .lst xs => D.fins xs
  | .dct _ => false
  | .obj _ => false
  | .exn _ => false
  | _ => true
def D.fins : List D → Bool
  | [] => true
  | x :: xs => D.fin x && D.fins xs
end
mutual
def D.dep : D → Nat
  | .tup xs => D.deps xs + 1
  | .lst xs => D.deps xs + 1
  | _ => 0
def D.deps : List D → Nat
  | [] => 0
  | x :: xs => max (D.dep x) (D.deps xs)
end
def D.eqv (a b : D) : Bool := PyData.eqv a.toPD b.toPD
mutual
theorem D.depth_eq : ∀ (d : D), d.fin = true → d.toPD.depth = d.dep
  | .non, _ => rfl
  | .bl _, _ => rfl
  | .int _, _ => rfl
  | .str _, _ => rfl
  | .tup xs, h => by
    unfold D.fin at h
    simp only [D.toPD, PyData.depth, D.dep, D.depths_eq xs h]
  | .lst xs, h => by
    unfold D.fin at h
    simp only [D.toPD, PyData.depth, D.dep, D.depths_eq xs h]
  | .dct _, h => by simp [D.fin] at h
  | .obj _, h => by simp [D.fin] at h
  | .exn _, h => by simp [D.fin] at h
theorem D.depths_eq : ∀ (xs : List D), D.fins xs = true → PyData.depthAll (D.toPDs xs) = D.deps xs
  | [], _ => rfl
  | x :: xs, h => by
    simp only [D.fins, Bool.and_eq_true] at h
    simp only [D.toPDs, PyData.depthAll, D.deps, D.depth_eq x h.1, D.depths_eq xs h.2]
end
section
variable {K : PySem.W.Frag} {g : G} {H : Hp}
mutual
theorem Rep.dp : ∀ (d : D) {v : V}, Rep K g H d v → d.fin = true → Dp K H v d.toPD ∧ d.toPD.canLay0 = true
  | .non, v, r, _ => by unfold Rep at r; subst r; exact ⟨.non, rfl⟩
  | .bl b, v, r, _ => by unfold Rep at r; subst r; exact ⟨.bl b, rfl⟩
  | .int i, v, r, _ => by unfold Rep at r; subst r; exact ⟨.int i, rfl⟩
  | .str x, v, r, _ => by
    unfold Rep at r
    obtain ⟨r, q⟩ := r
    subst r; exact ⟨.str x, by simpa [D.toPD, PyData.canLay0] using q⟩
  | .tup xs, v, r, h => by
    unfold Rep at r
    obtain ⟨a, vs, e, f, r⟩ := r
    subst e
    unfold D.fin at h
    obtain ⟨q1, q2⟩ := RepL.dp xs r h
    exact ⟨.tup f.1 q1, by simpa [D.toPD, PyData.canLay0] using q2⟩
  | .lst xs, v, r, h => by
    unfold Rep at r
    obtain ⟨a, vs, e, f, r⟩ := r
    subst e
    unfold D.fin at h
    obtain ⟨q1, q2⟩ := RepL.dp xs r h
    exact ⟨.lst f.1 q1, by simpa [D.toPD, PyData.canLay0] using q2⟩
  | .dct _, _, _, h => by simp [D.fin] at h
  | .obj _, _, _, h => by simp [D.fin] at h
  | .exn _, _, _, h => by simp [D.fin] at h
theorem RepL.dp : ∀ (xs : List D) {vs : List V}, RepL K g H xs vs → D.fins xs = true → DpAll K H vs (D.toPDs xs) ∧ PyData.canLayAll0 (D.toPDs xs) = true
  | [], vs, r, _ => by unfold RepL at r; subst r; exact ⟨.nil, rfl⟩
  | x :: xs, vs, r, h => by
    unfold RepL at r
    obtain ⟨v, ws, e, r, rs⟩ := r
    subst e
    simp only [D.fins, Bool.and_eq_true] at h
    obtain ⟨a1, a2⟩ := Rep.dp x r h.1
    obtain ⟨b1, b2⟩ := RepL.dp xs rs h.2
    exact ⟨.cons a1 b1, by simp [D.toPDs, PyData.canLayAll0, a2, b2]⟩
end
theorem Bor.dp {d : D} {v : V} (r : Bor K g H d v) (h : d.fin = true) : Dp K H v d.toPD ∧ d.toPD.canLay0 = true := by
  cases d with
  | lst xs =>
    obtain ⟨a, vs, e, f, r⟩ := r
    subst e
    unfold D.fin at h
    obtain ⟨q1, q2⟩ := RepL.dp xs r h
    exact ⟨.lst f q1, by simpa [D.toPD, PyData.canLay0] using q2⟩
  | dct _ => simp [D.fin] at h
  | _ => exact Rep.dp (g := g) _ r h
/-! ### lists of data -/
theorem RepL.len : ∀ (xs : List D) {vs : List V}, RepL K g H xs vs → vs.length = xs.length
  | [], vs, r => by unfold RepL at r; subst r; rfl
  | x :: xs, vs, r => by
    unfold RepL at r
    obtain ⟨v, ws, e, r, rs⟩ := r
    subst e
    simp [RepL.len xs rs]
theorem RepL.get : ∀ (xs : List D) {vs : List V} {i : Nat} {d : D}, RepL K g H xs vs → xs[i]? = some d → ∃ v, vs[i]? = some v ∧ Rep K g H d v
  | [], vs, i, d, r, h => by simp at h
  | x :: xs, vs, 0, d, r, h => by
    unfold RepL at r
    obtain ⟨v, ws, e, r, rs⟩ := r
    subst e
    simp at h; subst h
    exact ⟨v, rfl, r⟩
  | x :: xs, vs, i + 1, d, r, h => by
    unfold RepL at r
    obtain ⟨v, ws, e, r, rs⟩ := r
    subst e
    obtain ⟨u, h1, h2⟩ := RepL.get xs rs (i := i) (d := d) (by simpa using h)
    exact ⟨u, by simpa using h1, h2⟩
theorem RepL.append : ∀ {xs ys : List D} {vs ws : List V}, RepL K g H xs vs → RepL K g H ys ws → RepL K g H (xs ++ ys) (vs ++ ws)
  | [], ys, vs, ws, r, q => by unfold RepL at r; subst r; exact q
  | x :: xs, ys, vs, ws, r, q => by
    unfold RepL at r
    obtain ⟨v, us, e, r, rs⟩ := r
    subst e
    show RepL K g H (x :: (xs ++ ys)) _
    unfold RepL
    exact ⟨v, us ++ ws, rfl, r, RepL.append rs q⟩
theorem RepL.take : ∀ (n : Nat) {xs : List D} {vs : List V}, RepL K g H xs vs → RepL K g H (xs.take n) (vs.take n)
  | 0, xs, vs, r => by simp [RepL]
  | n + 1, [], vs, r => by unfold RepL at r; subst r; simp [RepL]
  | n + 1, x :: xs, vs, r => by
    unfold RepL at r
    obtain ⟨v, us, e, r, rs⟩ := r
    subst e
    show RepL K g H (x :: xs.take n) (v :: us.take n)
    unfold RepL
    exact ⟨v, _, rfl, r, RepL.take n rs⟩
theorem RepL.drop : ∀ (n : Nat) {xs : List D} {vs : List V}, RepL K g H xs vs → RepL K g H (xs.drop n) (vs.drop n)
  | 0, xs, vs, r => by simpa using r
  | n + 1, [], vs, r => by unfold RepL at r; subst r; simp [RepL]
  | n + 1, x :: xs, vs, r => by
    unfold RepL at r
    obtain ⟨v, us, e, r, rs⟩ := r
    subst e
    exact RepL.drop n rs
theorem RepL.set : ∀ (n : Nat) {xs : List D} {vs : List V} {d : D} {v : V}, RepL K g H xs vs → Rep K g H d v → RepL K g H (xs.set n d) (vs.set n v)
  | _, [], vs, d, v, r, q => by unfold RepL at r; subst r; simp [RepL]
  | 0, x :: xs, vs, d, v, r, q => by
    unfold RepL at r
    obtain ⟨u, us, e, r, rs⟩ := r
    subst e
    show RepL K g H (d :: xs) (v :: us)
    unfold RepL
    exact ⟨v, _, rfl, q, rs⟩
  | n + 1, x :: xs, vs, d, v, r, q => by
    unfold RepL at r
    obtain ⟨u, us, e, r, rs⟩ := r
    subst e
    show RepL K g H (x :: xs.set n d) (u :: us.set n v)
    unfold RepL
    exact ⟨u, _, rfl, r, RepL.set n rs q⟩
theorem RepL.one {d : D} {v : V} (r : Rep K g H d v) : RepL K g H [d] [v] := by
  unfold RepL
  exact ⟨v, [], rfl, r, by unfold RepL; rfl⟩
theorem RepL.strs : ∀ (zs : List Str) {vs : List V}, RepL K g H (zs.map D.str) vs → vs = zs.map V.str ∧ ∀ z ∈ zs, PyData.strOk z = true
  | [], vs, r => by
    simp only [List.map_nil] at r
    unfold RepL at r; subst r; simp
  | z :: zs, vs, r => by
    simp only [List.map_cons] at r
    unfold RepL at r
    obtain ⟨u, us, e, r, rs⟩ := r
    unfold Rep at r
    obtain ⟨r1, r2⟩ := r
    obtain ⟨q1, q2⟩ := RepL.strs zs rs
    subst e r1 q1
    simp [r2]; exact q2
theorem RepL.ofStrs : ∀ (zs : List Str), (∀ z ∈ zs, PyData.strOk z = true) → RepL K g H (zs.map D.str) (zs.map V.str)
  | [], h => by simp [RepL]
  | z :: zs, h => by
    simp only [List.map_cons]
    unfold RepL
    exact ⟨_, _, rfl, by unfold Rep; exact ⟨rfl, h z (by simp)⟩, RepL.ofStrs zs fun y q => h y (by simp [q])⟩
end

/-! ### operators, as plain functions -/
def D.toStr? : D → Option Str
  | .str x => some x
  | _ => none
def D.toInt? : D → Option Int
  | .int i => some i
  | _ => none
def allStr : List D → Option (List Str)
  | [] => some []
  | .str x :: r => (allStr r).map (x :: ·)
  | _ :: _ => none
def cAdd : D → D → Option D
  | .int i, .int j => some (.int (i + j))
  | .str x, .str y => if x.length + y.length ≤ sizeLine then some (.str (x ++ y)) else none
  | .tup xs, .tup ys => if xs.length + ys.length ≤ sizeLine then some (.tup (xs ++ ys)) else none
  | _, _ => none
def cSub : D → D → Option D
  | .int i, .int j => some (.int (i - j))
  | _, _ => none
def cMul : D → D → Option D
  | .int i, .int j => if i.natAbs < 2 ^ 64 ∨ j.natAbs < 2 ^ 64 then some (.int (i * j)) else none
  | _, _ => none
def cMod : D → D → Option D
  | .int i, .int j => if 0 < j then some (.int (i % j)) else none
  | _, _ => none
def cDiv : D → D → Option D
  | .int i, .int j => if 0 < j ∧ j < 2 ^ 60 then some (.int (i / j)) else none
  | _, _ => none
def cPow : D → D → Option D
  | .int i, .int j => if 0 ≤ j ∧ j ≤ 100 ∧ i.natAbs < 2 ^ 64 then some (.int (i ^ j.toNat)) else none
  | _, _ => none
def cAnd : D → D → Option D
  | .int i, .int j => some (.int (Builtin.bitAnd i j))
  | _, _ => none
def cNeg : D → Option D
  | .int i => some (.int (-i))
  | _ => none
def cEq (a b : D) : Option D := if a.fin = true ∧ b.fin = true ∧ min a.dep b.dep ≤ 60 then some (.bl (D.eqv a b)) else none
def cNe (a b : D) : Option D := if a.fin = true ∧ b.fin = true ∧ min a.dep b.dep ≤ 60 then some (.bl (!D.eqv a b)) else none
def cLt : D → D → Option D
  | .int i, .int j => some (.bl (decide (i < j)))
  | _, _ => none
def cLe : D → D → Option D
  | .int i, .int j => some (.bl (decide (i ≤ j)))
  | _, _ => none
def cGt : D → D → Option D
  | .int i, .int j => some (.bl (decide (j < i)))
  | _, _ => none
def cGe : D → D → Option D
  | .int i, .int j => some (.bl (decide (j ≤ i)))
  | _, _ => none
def cIsN : D → Option D
  | .non => some (.bl true)
  | _ => some (.bl false)
def cNotN : D → Option D
  | .non => some (.bl false)
  | _ => some (.bl true)
/-- a sign in a text; data in a list; a text in a tuple of texts -/
def cInB (d e : D) : Option Bool := match e with
  | .str z => match d with
    | .str x => if x.cps.size = 1 then some (decide (x.cps.getD 0 0 ∈ z.cps.toList)) else none
    | _ => none
  | .lst xs => if d.fin = true ∧ D.fins xs = true ∧ d.dep ≤ 60 ∧ D.deps xs ≤ 60 then some (xs.any fun z => D.eqv z d) else none
  | .tup xs => match d with
    | .str x => (allStr xs).map fun zs => zs.any fun z => z == x
    | _ => none
  | _ => none
def cIn (neg : Bool) (d e : D) : Option D := (cInB d e).map fun t => .bl (if neg then !t else t)
def cIx : D → D → Option D
  | .lst xs, .int i => atI xs i
  | .tup xs, .int i => atI xs i
  | .str z, .int i => if z.length ≤ sizeLine then (atI z.cps.toList i).map fun c => .str ⟨#[c]⟩ else none
  | _, _ => none

/-! ### a reading for an operator -/
def MkF (K : PySem.W.Frag) (g : G) (H : Hp) (d : D) (Q : VK) : Prop := ∀ v g' H', New g H g' H' → Rep K g' H' d v → Q v H'
def MkG (K : PySem.W.Frag) (g : G) (H : Hp) (c : C) (Q : VK) : Prop := ∀ v g' H' fr, New g H g' H' → RepC K g' H' c v fr → (∀ a ∈ fr, H a = none ∧ ¬ g'.Z a) → Q v H'
def Op1 (K : PySem.W.Frag) (c : D → Option D) (r : V → Hp → VK → Prop) : Prop := ∀ g H d v d' Q, Bor K g H d v → c d = some d' → MkF K g H d' Q → r v H Q
def Op2 (K : PySem.W.Frag) (c : D → D → Option D) (r : R2) : Prop := ∀ g H d1 v1 d2 v2 d Q, Bor K g H d1 v1 → Bor K g H d2 v2 → c d1 d2 = some d → MkF K g H d Q → r v1 v2 H Q
def Op1G (K : PySem.W.Frag) (c : D → Option C) (r : V → Hp → VK → Prop) : Prop := ∀ g H d v d' Q, (∀ a, g.Z a → H a ≠ none) → Bor K g H d v → c d = some d' → MkG K g H d' Q → r v H Q
def Op2G (K : PySem.W.Frag) (c : D → D → Option C) (r : R2) : Prop := ∀ g H d1 v1 d2 v2 d Q, (∀ a, g.Z a → H a ≠ none) → Bor K g H d1 v1 → Bor K g H d2 v2 → c d1 d2 = some d → MkG K g H d Q → r v1 v2 H Q
section
variable {K : PySem.W.Frag} {g : G} {H : Hp} {Q : VK} {d : D}
/-- an end that lies in no new object -/
theorem MkF.here {v : V} (m : MkF K g H d Q) (r : Rep K g H d v) : Q v H := m v g H (.refl _ _) r
theorem MkF.int {i : Int} (m : MkF K g H (.int i) Q) : Q (.int i) H := m.here (by unfold Rep; rfl)
theorem MkF.bl {i : Bool} (m : MkF K g H (.bl i) Q) : Q (.bl i) H := m.here (by unfold Rep; rfl)
theorem MkF.str {i : Str} (m : MkF K g H (.str i) Q) (h : PyData.strOk i = true) : Q (.str i) H := m.here (by unfold Rep; exact ⟨rfl, h⟩)
/-- a new tuple -/
theorem MkF.tup {xs : List D} {vs : List V} (m : MkF K g H (.tup xs) Q) (r : RepL K g H xs vs) : ∀ p, H p = none → Q (.ref p) (upd H p (.tup vs)) := fun p np => by
  have n : New g H (g.addL [p]) (upd H p (.tup vs)) := New.frz np
  refine m _ _ _ n ?_
  unfold Rep
  exact ⟨p, vs, rfl, ⟨SqT.of upd_same, .inl (.inr (by simp))⟩, RepL.ext n.ext (fun _ _ => by simp) xs r⟩
/-- a new list, settled at once -/
theorem MkF.lst {xs : List D} {vs : List V} (m : MkF K g H (.lst xs) Q) (r : RepL K g H xs vs) : ∀ p, H p = none → Q (.ref p) (upd H p (.lst vs)) := fun p np => by
  have n : New g H (g.addL [p]) (upd H p (.lst vs)) := New.frz np
  refine m _ _ _ n ?_
  unfold Rep
  exact ⟨p, vs, rfl, ⟨SqL.of upd_same, .inl (.inr (by simp))⟩, RepL.ext n.ext (fun _ _ => by simp) xs r⟩
/-- a new list of one's own; zd: what is settled is tracked -/
theorem MkG.lst {xs : List D} {vs : List V} (m : MkG K g H (.lst xs) Q) (zd : ∀ a, g.Z a → H a ≠ none) (r : RepL K g H xs vs) : ∀ p, H p = none → Q (.ref p) (upd H p (.lst vs)) := fun p np => by
  have n : New g H g (upd H p (.lst vs)) := New.own np
  refine m _ _ _ [p] n ⟨p, vs, rfl, upd_same, RepL.ext n.ext (fun _ _ => by simp) xs r, rfl⟩ ?_
  intro a q
  have e : a = p := by simpa using q
  subst e
  exact ⟨np, fun z => zd _ z np⟩
theorem Bor.int {i : Int} {v : V} (r : Bor K g H (.int i) v) : v = .int i := by
  have r : Rep K g H (.int i) v := r
  unfold Rep at r; exact r
theorem Bor.bl {i : Bool} {v : V} (r : Bor K g H (.bl i) v) : v = .bl i := by
  have r : Rep K g H (.bl i) v := r
  unfold Rep at r; exact r
theorem Bor.non {v : V} (r : Bor K g H .non v) : v = .non := by
  have r : Rep K g H .non v := r
  unfold Rep at r; exact r
theorem Bor.str {i : Str} {v : V} (r : Bor K g H (.str i) v) : v = .str i ∧ PyData.strOk i = true := by
  have r : Rep K g H (.str i) v := r
  unfold Rep at r; exact r
theorem Bor.tup {xs : List D} {v : V} (r : Bor K g H (.tup xs) v) : ∃ a vs, v = .ref a ∧ FT K g H a vs ∧ RepL K g H xs vs := by
  have r : Rep K g H (.tup xs) v := r
  unfold Rep at r; exact r
end
section
variable {K : PySem.W.Frag}
theorem strOk_append {x y : Str} (hx : PyData.strOk x = true) (hy : PyData.strOk y = true) : PyData.strOk (x ++ y) = true := by
  unfold PyData.strOk at *
  show (x.cps ++ y.cps).all _ = true
  rw [Array.all_append, hx, hy]; rfl
/-- the readings of the operators -/
def rAll (K : PySem.W.Frag) : R2 := fun x y H Q => (rI0 (fun i j => .int (i + j)) x y H Q ∨ (∃ i j, x = .str i ∧ y = .str j ∧ i.length + j.length ≤ sizeLine ∧ Q (.str (i ++ j)) H)) ∨ rCatA K x y H Q
theorem o2_add : Op2 K cAdd (rAll K) := by
  intro g H d1 v1 d2 v2 d Q b1 b2 hc m
  cases d1 with
  | int i =>
    cases d2 with
    | int j =>
      cases hc
      exact .inl (.inl ⟨i, j, b1.int, b2.int, m.int⟩)
    | _ => cases hc
  | str x =>
    cases d2 with
    | str y =>
      simp only [cAdd] at hc
      split at hc
      · rename_i hl
        cases hc
        exact .inl (.inr ⟨x, y, b1.str.1, b2.str.1, hl, m.str (strOk_append b1.str.2 b2.str.2)⟩)
      · cases hc
    | _ => cases hc
  | tup xs =>
    cases d2 with
    | tup ys =>
      simp only [cAdd] at hc
      split at hc
      · rename_i hl
        cases hc
        obtain ⟨a, vs, e1, f1, r1⟩ := b1.tup
        obtain ⟨b, ws, e2, f2, r2⟩ := b2.tup
        have l1 := RepL.len _ r1
        have l2 := RepL.len _ r2
        refine .inr ⟨a, b, vs, ws, e1, e2, f1.1, f2.1, by omega, fun z => ?_, fun _ z => ?_, fun _ _ => m.tup (r1.append r2)⟩
        · have : xs = [] := by rw [z] at l1; exact List.length_eq_zero_iff.mp l1.symm
          subst this
          refine m.here ?_
          unfold Rep
          exact ⟨b, ws, rfl, f2, r2⟩
        · have : ys = [] := by rw [z] at l2; exact List.length_eq_zero_iff.mp l2.symm
          subst this
          refine m.here ?_
          unfold Rep
          exact ⟨a, vs, rfl, f1, by simpa using r1⟩
      · cases hc
    | _ => cases hc
  | _ => cases hc
theorem o2_sub : Op2 K cSub (rI0 fun i j => .int (i - j)) := by
  intro g H d1 v1 d2 v2 d Q b1 b2 hc m
  cases d1 with
  | int i => cases d2 with
    | int j => cases hc; exact ⟨i, j, b1.int, b2.int, m.int⟩
    | _ => cases hc
  | _ => cases hc
theorem o2_and : Op2 K cAnd (rI0 fun i j => .int (Builtin.bitAnd i j)) := by
  intro g H d1 v1 d2 v2 d Q b1 b2 hc m
  cases d1 with
  | int i => cases d2 with
    | int j => cases hc; exact ⟨i, j, b1.int, b2.int, m.int⟩
    | _ => cases hc
  | _ => cases hc
theorem o2_lt : Op2 K cLt (rI0 fun i j => .bl (decide (i < j))) := by
  intro g H d1 v1 d2 v2 d Q b1 b2 hc m
  cases d1 with
  | int i => cases d2 with
    | int j => cases hc; exact ⟨i, j, b1.int, b2.int, m.bl⟩
    | _ => cases hc
  | _ => cases hc
theorem o2_le : Op2 K cLe (rI0 fun i j => .bl (decide (i ≤ j))) := by
  intro g H d1 v1 d2 v2 d Q b1 b2 hc m
  cases d1 with
  | int i => cases d2 with
    | int j => cases hc; exact ⟨i, j, b1.int, b2.int, m.bl⟩
    | _ => cases hc
  | _ => cases hc
theorem o2_gt : Op2 K cGt (rI0 fun i j => .bl (decide (j < i))) := by
  intro g H d1 v1 d2 v2 d Q b1 b2 hc m
  cases d1 with
  | int i => cases d2 with
    | int j => cases hc; exact ⟨i, j, b1.int, b2.int, m.bl⟩
    | _ => cases hc
  | _ => cases hc
theorem o2_ge : Op2 K cGe (rI0 fun i j => .bl (decide (j ≤ i))) := by
  intro g H d1 v1 d2 v2 d Q b1 b2 hc m
  cases d1 with
  | int i => cases d2 with
    | int j => cases hc; exact ⟨i, j, b1.int, b2.int, m.bl⟩
    | _ => cases hc
  | _ => cases hc
theorem o2_mul : Op2 K cMul (rI CMul fun i j => .int (i * j)) := by
  intro g H d1 v1 d2 v2 d Q b1 b2 hc m
  cases d1 with
  | int i => cases d2 with
    | int j =>
      simp only [cMul] at hc
      split at hc
      · rename_i hl
        cases hc
        refine ⟨i, j, b1.int, b2.int, ?_, m.int⟩
        exact hl.imp (fun h => ⟨by omega, by omega⟩) (fun h => ⟨by omega, by omega⟩)
      · cases hc
    | _ => cases hc
  | _ => cases hc
theorem o2_mod : Op2 K cMod (rI (fun _ j => 0 < j) fun i j => .int (i % j)) := by
  intro g H d1 v1 d2 v2 d Q b1 b2 hc m
  cases d1 with
  | int i => cases d2 with
    | int j =>
      simp only [cMod] at hc
      split at hc
      · rename_i hl
        cases hc
        exact ⟨i, j, b1.int, b2.int, hl, m.int⟩
      · cases hc
    | _ => cases hc
  | _ => cases hc
theorem o2_div : Op2 K cDiv (rI CDivW fun i j => .int (i / j)) := by
  intro g H d1 v1 d2 v2 d Q b1 b2 hc m
  cases d1 with
  | int i => cases d2 with
    | int j =>
      simp only [cDiv] at hc
      split at hc
      · rename_i hl
        cases hc
        exact ⟨i, j, b1.int, b2.int, wide_div (b := 60) hl.1 (by omega) (by decide) (by decide), m.int⟩
      · cases hc
    | _ => cases hc
  | _ => cases hc
theorem o2_pow : Op2 K cPow (rI CPow fun i j => .int (i ^ j.toNat)) := by
  intro g H d1 v1 d2 v2 d Q b1 b2 hc m
  cases d1 with
  | int i => cases d2 with
    | int j =>
      simp only [cPow] at hc
      split at hc
      · rename_i hl
        cases hc
        exact ⟨i, j, b1.int, b2.int, ⟨hl.1, by omega, hl.2.2⟩, m.int⟩
      · cases hc
    | _ => cases hc
  | _ => cases hc
theorem o1_neg : Op1 K cNeg (rU fun i => .int (-i)) := by
  intro g H d v d' Q b hc m
  cases d with
  | int i => cases hc; exact ⟨i, b.int, m.int⟩
  | _ => cases hc
/-- == by the smaller depth -/
def rEqM (K : PySem.W.Frag) (neg : Bool) : R2 := fun x y H Q => ∃ d e, Dp K H x d ∧ Dp K H y e ∧ d.canLay0 = true ∧ e.canLay0 = true ∧ min d.depth e.depth ≤ 60 ∧ Q (.bl (if neg then !PyData.eqv d e else PyData.eqv d e)) H
theorem op_eqM {X : Cx} (hu : X.A.units + 64 < cLine) : OpR X (compareOp .Eq) (rEqM X.K false) := by
  intro pins s σ H x y v u Q I rx ry ⟨d, e, hd, he, cd, ce, hm, q⟩
  obtain ⟨as, r1⟩ := Dp.reads I d x v hd rx
  obtain ⟨bs, r2⟩ := Dp.reads I e y u he ry
  exact SeqAt.compareEq_reads r1 r2 cd ce (by omega) ⟨.bl _, H, I, rfl, q⟩
theorem op_neM {X : Cx} (hu : X.A.units + 64 < cLine) : OpR X (compareOp .NotEq) (rEqM X.K true) := by
  intro pins s σ H x y v u Q I rx ry ⟨d, e, hd, he, cd, ce, hm, q⟩
  obtain ⟨as, r1⟩ := Dp.reads I d x v hd rx
  obtain ⟨bs, r2⟩ := Dp.reads I e y u he ry
  exact SeqAt.compareNe_reads r1 r2 cd ce (by omega) ⟨.bl _, H, I, rfl, q⟩
theorem o2_eq : Op2 K cEq (rEqM K false) := by
  intro g H d1 v1 d2 v2 d Q b1 b2 hc m
  unfold cEq at hc
  split at hc
  · rename_i h
    cases hc
    obtain ⟨h1, h2, h3⟩ := h
    exact ⟨_, _, (b1.dp h1).1, (b2.dp h2).1, (b1.dp h1).2, (b2.dp h2).2, by rw [D.depth_eq _ h1, D.depth_eq _ h2]; exact h3, m.bl⟩
  · cases hc
theorem o2_ne : Op2 K cNe (rEqM K true) := by
  intro g H d1 v1 d2 v2 d Q b1 b2 hc m
  unfold cNe at hc
  split at hc
  · rename_i h
    cases hc
    obtain ⟨h1, h2, h3⟩ := h
    exact ⟨_, _, (b1.dp h1).1, (b2.dp h2).1, (b1.dp h1).2, (b2.dp h2).2, by rw [D.depth_eq _ h1, D.depth_eq _ h2]; exact h3, m.bl⟩
  · cases hc
theorem Bor.isN {g : G} {H : Hp} {d : D} {v : V} (b : Bor K g H d v) : cIsN d = some (.bl (decide (v = .non))) := by
  cases d with
  | non => rw [b.non]; rfl
  | lst xs => obtain ⟨a, vs, e, _⟩ := b; subst e; rfl
  | dct xs => obtain ⟨a, vs, e, _⟩ := b; subst e; rfl
  | tup xs => obtain ⟨a, vs, e, _⟩ := b.tup; subst e; rfl
  | int i => rw [b.int]; rfl
  | bl i => rw [b.bl]; rfl
  | str i => rw [b.str.1]; rfl
  | obj n =>
    have b : Rep K g H (.obj n) v := b
    unfold Rep at b
    obtain ⟨a, _, e⟩ := b; subst e; rfl
  | exn n =>
    have b : Rep K g H (.exn n) v := b
    unfold Rep at b
    exact b.elim
theorem o1_isN : Op1 K cIsN (fun x H Q => Q (.bl (decide (x = .non))) H) := by
  intro g H d v d' Q b hc m
  rw [b.isN] at hc
  cases hc
  exact m.bl
theorem cNotN_eq (d : D) : cNotN d = (cIsN d).bind fun d => match d with
  | .bl t => some (.bl (!t))
  | _ => none := by cases d <;> rfl
theorem o1_notN : Op1 K cNotN (fun x H Q => Q (.bl (!decide (x = .non))) H) := by
  intro g H d v d' Q b hc m
  rw [cNotN_eq, b.isN] at hc
  cases hc
  exact m.bl
theorem toPDs_eq : ∀ xs : List D, D.toPDs xs = xs.map D.toPD
  | [] => rfl
  | x :: xs => by simp [D.toPDs, toPDs_eq xs]
theorem shaped_of {g : G} {H : Hp} {d : D} {v : V} (b : Bor K g H d v) (h : d.fin = true) (hd : d.dep ≤ 60) : SeqAt.shaped d.toPD = true := by
  unfold SeqAt.shaped
  rw [(b.dp h).2, D.depth_eq d h, Bool.true_and]
  exact decide_eq_true (by omega)
def rInA (K : PySem.W.Frag) (neg : Bool) : R2 := fun x y H Q => (∃ (c : Nat) (z : Str), x = .str ⟨#[c]⟩ ∧ y = .str z ∧ Q (.bl (if neg then !decide (c ∈ z.cps.toList) else decide (c ∈ z.cps.toList))) H) ∨
  (∃ d ds, Dp K H x d ∧ Dp K H y (.list ds) ∧ SeqAt.shaped d = true ∧ SeqAt.shaped (.list ds) = true ∧ Q (.bl (if neg then !(ds.any fun z => PyData.eqv z d) else (ds.any fun z => PyData.eqv z d))) H) ∨ rIn K neg x y H Q
theorem allStr_eq : ∀ {xs : List D} {zs : List Str}, allStr xs = some zs → xs = zs.map D.str
  | [], zs, h => by cases h; rfl
  | .str x :: r, zs, h => by
    simp only [allStr] at h
    cases e : allStr r with
    | none => rw [e] at h; cases h
    | some ws =>
      rw [e] at h
      cases h
      rw [allStr_eq e]; rfl
  | .non :: _, _, h => by cases h
  | .bl _ :: _, _, h => by cases h
  | .int _ :: _, _, h => by cases h
  | .tup _ :: _, _, h => by cases h
  | .lst _ :: _, _, h => by cases h
  | .dct _ :: _, _, h => by cases h
  | .obj _ :: _, _, h => by cases h
  | .exn _ :: _, _, h => by cases h
theorem o2_in (neg : Bool) : Op2 K (cIn neg) (rInA K neg) := by
  intro g H d1 v1 d2 v2 d Q b1 b2 hc m
  unfold cIn at hc
  cases e : cInB d1 d2 with
  | none => rw [e] at hc; cases hc
  | some t =>
    rw [e] at hc
    have hc : D.bl (if neg then !t else t) = d := Option.some.inj hc
    subst hc
    unfold cInB at e
    cases d2 with
    | str z =>
      cases d1 with
      | str x =>
        simp only at e
        split at e
        · rename_i hs
          have e : decide (x.cps.getD 0 0 ∈ z.cps.toList) = t := Option.some.inj e
          subst e
          obtain ⟨c, hx⟩ : ∃ c, x = ⟨#[c]⟩ := by
            obtain ⟨⟨l⟩⟩ := x
            match l, hs with
            | [c], _ => exact ⟨c, rfl⟩
          subst hx
          exact .inl ⟨c, z, b1.str.1, b2.str.1, m.bl⟩
        · cases e
      | _ => cases e
    | lst xs =>
      simp only at e
      split at e
      · rename_i h
        have e : (xs.any fun z => D.eqv z d1) = t := Option.some.inj e
        subst e
        obtain ⟨h1, h2, h3, h4⟩ := h
        have hf : (D.lst xs).fin = true := by unfold D.fin; exact h2
        have q := (b2.dp hf).1
        refine .inr (.inl ⟨d1.toPD, D.toPDs xs, (b1.dp h1).1, by simpa [D.toPD] using q, shaped_of b1 h1 h3, ?_, ?_⟩)
        · unfold SeqAt.shaped
          have q2 := (b2.dp hf).2
          have q3 := D.depth_eq _ hf
          simp only [D.toPD, D.dep] at q2 q3
          rw [q2, q3, Bool.true_and]
          exact decide_eq_true (by omega)
        · have e : (D.toPDs xs).any (fun z => PyData.eqv z d1.toPD) = xs.any fun z => D.eqv z d1 := by
            rw [toPDs_eq, List.any_map]; rfl
          rw [e]
          exact m.bl
      · cases e
    | tup xs =>
      cases d1 with
      | str x =>
        simp only at e
        cases ea : allStr xs with
        | none => rw [ea] at e; cases e
        | some zs =>
          rw [ea] at e
          have e : (zs.any fun z => z == x) = t := Option.some.inj e
          subst e
          have ex := allStr_eq ea
          subst ex
          obtain ⟨a, vs, e1, f1, r1⟩ := b2.tup
          obtain ⟨ev, _⟩ := RepL.strs zs r1
          subst ev
          refine .inr (.inr ⟨a, _, e1, .inr f1.1, by rw [b1.str.1]; rfl, ?_, ?_⟩)
          · rw [List.all_map, List.all_eq_true]; intro z _; rfl
          · have e : inV v1 (zs.map V.str) = zs.any fun z => z == x := by
              rw [b1.str.1]
              unfold inV
              rw [List.any_map]
              rfl
            rw [e]
            exact m.bl
      | _ => cases e
    | _ => cases e
end
end Ev

namespace Ev
open PySem PySem.Spec PyProof.Rows L2

def bin {α : Type} (c : D → D → Option α) (m1 m2 : M D) : M α := bnd m1 fun a => bnd m2 fun b => opt (c a b)
def una {α : Type} (c : D → Option α) (m : M D) : M α := bnd m fun a => opt (c a)

/-- what a rule may lean on -/
structure Bd (X : Cx) (W : WX) (k : Nat) : Prop where
  calm : X.calm = true
  nd : X.N.Nodup
  tk : Takes X W
  room : Room k X.A
theorem Bd.hu {X : Cx} {W : WX} {k : Nat} (b : Bd X W k) : X.A.units + 64 < cLine := b.room.units
theorem Bd.hu1 {X : Cx} {W : WX} {k : Nat} (b : Bd X W k) : X.A.units < cLine := by have := b.hu; omega

section
variable {X : Cx} {B : Ent} {W : WX} {b b1 b2 p p1 p2 : Bool} {k : Nat}
theorem Pure.and {w w1 w2 : Wd} {H H1 H2 : Hp} (a : p1 = true → Pure w H w1 H1) (c : p2 = true → Pure w1 H1 w2 H2) (h : (p1 && p2) = true) : Pure w H w2 H2 := by
  rw [Bool.and_eq_true] at h
  exact (a h.1).trans (c h.2)
theorem tF1 {c : D → Option D} {r : V → Hp → VK → Prop} (o : Op1 X.K c r) {m : M D} {σ : L2.St} {H : Hp} {Q : VK} (h : TF X B W p (una c m) σ H Q) : TV X B W b p m σ H (fun x H1 => r x H1 Q) := by
  obtain ⟨w, h⟩ := h
  refine ⟨w, h.bnd fun d1 v1 w1 H1 st1 r1 h1 => ?_⟩
  obtain ⟨d, hd, R1, hq⟩ := h1.opt
  refine o w1.g H1 d1 v1 d Q r1.1 hd fun v g' H' n rep => hq v { w1 with g := g' } H' rfl (.new R1 n) ⟨rep, fun e => (r1.2.2 e).trans (.new n)⟩
theorem tF2 {c : D → D → Option D} {r : R2} (o : Op2 X.K c r) {m1 m2 : M D} (hb : (b1 || p2) = true) {σ : L2.St} {H : Hp} {Q : VK} (h : TF X B W (p1 && p2) (bin c m1 m2) σ H Q) :
    TV X B W b1 p1 m1 σ H (fun x H1 => TV X B W b2 p2 m2 σ H1 (fun y H2 => r x y H2 Q)) := by
  obtain ⟨w, h⟩ := h
  refine ⟨w, h.bnd fun d1 v1 w1 H1 st1 r1 h1 => ⟨w1, h1.bnd fun d2 v2 w2 H2 st2 r2 h2 => ?_⟩⟩
  obtain ⟨d, hd, R2, hq⟩ := h2.opt
  have q1 : Bor X.K w2.g H2 d1 v1 := by
    rcases (Bool.or_eq_true _ _).mp hb with e | e
    · exact r1.2.1 e _ _ st2.ext
    · exact r1.1.grow (r2.2.2 e).n.ext
  exact o w2.g H2 d1 v1 d2 v2 d Q q1 r2.1 hd fun v g' H' n rep => hq v { w2 with g := g' } H' rfl (.new R2 n) ⟨rep, fun e => (Pure.and r1.2.2 r2.2.2 e).trans (.new n)⟩
/-- a new object's place is free of the old ones -/
theorem fresh_ok {w : Wd} {σ : L2.St} {H : Hp} {g' : G} {H' : Hp} {fr : List Addr} (R : RelW X B w σ H) (n : New w.g H g' H') (h : ∀ a ∈ fr, H a = none ∧ ¬ g'.Z a) :
    ∀ a ∈ fr, a ∉ w.f ∧ ¬ g'.Z a ∧ (a ∈ B.F ∨ B.H a = none) := fun a q => by
  refine ⟨fun z => R.dom a z (h a q).1, (h a q).2, .inr ?_⟩
  cases e : B.H a with
  | none => rfl
  | some o => exact absurd (h a q).1 (R.ex.dom a (by rw [e]; simp))
theorem tG1 {c : D → Option C} {r : V → Hp → VK → Prop} (o : Op1G X.K c r) {m : M D} {σ : L2.St} {H : Hp} {Q : VK} (h : TG X B W p (una c m) σ H Q) : TV X B W b p m σ H (fun x H1 => r x H1 Q) := by
  obtain ⟨w, h⟩ := h
  refine ⟨w, h.bnd fun d1 v1 w1 H1 st1 r1 h1 => ?_⟩
  obtain ⟨d, hd, R1, hq⟩ := h1.opt
  refine o w1.g H1 d1 v1 d Q R1.zd r1.1 hd fun v g' H' fr n rep hf => hq v { w1 with g := g' } H' rfl (.new R1 n) ⟨fr, rep, fresh_ok (w := w1) R1 n hf, Sub.trans st1 fun a q => .inr (hf a q).1, fun e => ⟨(r1.2.2 e).trans (.new n), fun a q => ?_⟩⟩
  cases k : H a with
  | none => rfl
  | some u => exact absurd (hf a q).1 (st1.ext.dom a (by rw [k]; simp))
theorem tG2 {c : D → D → Option C} {r : R2} (o : Op2G X.K c r) {m1 m2 : M D} (hb : (b1 || p2) = true) {σ : L2.St} {H : Hp} {Q : VK} (h : TG X B W (p1 && p2) (bin c m1 m2) σ H Q) :
    TV X B W b1 p1 m1 σ H (fun x H1 => TV X B W b2 p2 m2 σ H1 (fun y H2 => r x y H2 Q)) := by
  obtain ⟨w, h⟩ := h
  refine ⟨w, h.bnd fun d1 v1 w1 H1 st1 r1 h1 => ⟨w1, h1.bnd fun d2 v2 w2 H2 st2 r2 h2 => ?_⟩⟩
  obtain ⟨d, hd, R2, hq⟩ := h2.opt
  have q1 : Bor X.K w2.g H2 d1 v1 := by
    rcases (Bool.or_eq_true _ _).mp hb with e | e
    · exact r1.2.1 e _ _ st2.ext
    · exact r1.1.grow (r2.2.2 e).n.ext
  refine o w2.g H2 d1 v1 d2 v2 d Q R2.zd q1 r2.1 hd fun v g' H' fr n rep hf => hq v { w2 with g := g' } H' rfl (.new R2 n) ⟨fr, rep, fresh_ok (w := w2) R2 n hf, Sub.trans st1 (Sub.trans st2 fun a q => .inr (hf a q).1), fun e => ⟨(Pure.and r1.2.2 r2.2.2 e).trans (.new n), fun a q => ?_⟩⟩
  cases k : H a with
  | none => rfl
  | some u => exact absurd (hf a q).1 ((st1.trans st2).ext.dom a (by rw [k]; simp))

/-! ### expressions -/
variable {x a e : Expr} {pos : Pos} {f f1 f2 : M D}
theorem _root_.L2.PE.weak {e : Expr} {t t' : TE} (h : PE X e t) (i : ∀ σ H Q, t' σ H Q → t σ H Q) : PE X e t' := ⟨fun pins s σ H Q I q => h.run pins s σ H Q I (i σ H Q q)⟩
theorem _root_.L2.PT.weak {e : Expr} {t t' : TT} (h : PT X e t) (i : ∀ σ H Q, t' σ H Q → t σ H Q) : PT X e t' := ⟨fun pins s σ H Q I q => h.run pins s σ H Q I (i σ H Q q)⟩
theorem _root_.L2.PW.weak {e : Expr} {t t' : TT} (h : PW X e t) (i : ∀ σ H Q, t' σ H Q → t σ H Q) : PW X e t' := ⟨fun wh pins s σ H Q I q => h.run wh pins s σ H Q I (i σ H Q q)⟩
theorem _root_.L2.PA.weak {e : List Expr} {t t' : TA} (h : PA X e t) (i : ∀ σ H Q, t' σ H Q → t σ H Q) : PA X e t' := ⟨fun po pins s σ H Q I q => h.run po pins s σ H Q I (i σ H Q q)⟩
theorem _root_.L2.PSs.weak {e : List Stmt} {t t' : TS} (h : PSs X e t) (i : ∀ σ H Q, t' σ H Q → t σ H Q) : PSs X e t' := ⟨fun pins s σ H Q I q => h.run pins s σ H Q I (i _ _ _ q)⟩
theorem _root_.L2.PS.weak {e : Stmt} {t t' : TS} (h : PS X e t) (i : ∀ σ H Q, t' σ H Q → t σ H Q) : PS X e t' := ⟨fun pins s σ H Q I q => h.run pins s σ H Q I (i _ _ _ q)⟩

theorem RF.here {w : Wd} {H : Hp} {d : D} {v : V} (h : Rep X.K w.g H d v) : RF X p w H d v w H := ⟨h, fun _ => .refl⟩
theorem tC_of {d : D} {v : V} (r : ∀ g H, Rep X.K g H d v) {σ : L2.St} {H : Hp} {Q : VK} (h : TF X B W p (ret d) σ H Q) : Q v H := by
  obtain ⟨w, h⟩ := h
  obtain ⟨R, q⟩ := h.ret
  exact q v w H rfl (.refl R) (.here (r _ _))
theorem ef_int {i : Int} {j : Nat} : EF X B W true (.Constant (.int i) j pos) (ret (.int i)) := ⟨pe_int.weak fun σ H Q h => tC_of (fun _ _ => by unfold Rep; rfl) h⟩
theorem ef_bl {i : Bool} {j : Nat} : EF X B W true (.Constant (.bool i) j pos) (ret (.bl i)) := ⟨pe_bl.weak fun σ H Q h => tC_of (fun _ _ => by unfold Rep; rfl) h⟩
theorem ef_non {j : Nat} : EF X B W true (.Constant .none j pos) (ret .non) := ⟨pe_non.weak fun σ H Q h => tC_of (fun _ _ => by unfold Rep; rfl) h⟩
theorem ef_str {i : Str} {j : Nat} (h : PyData.strOk i = true := by decide +kernel) : EF X B W true (.Constant (.str i) j pos) (ret (.str i)) := ⟨pe_str.weak fun σ H Q q => tC_of (fun _ _ => by unfold Rep; exact ⟨rfl, h⟩) q⟩

/-- a module's name that holds plain data of the written part -/
def GlV (K : PySem.W.Frag) (d : D) (v : V) : Prop := ∀ g H, Rep K g H d v
theorem ef_glob {n : Str} {d : D} {v : V} {u : Value} (hg : Gl X n) (hm : X.mg n = some u) (r : RelV v u) (hd : GlV X.K d v) (hn : (n == ("__debug__" : Str)) = false := by decide) : EF X B W true (.Name n pos) (ret d) :=
  ⟨(pe_glob hg hm r hn).weak fun σ H Q h => tC_of hd h⟩

/-! ### slots -/
def slotC (i : Nat) : FSt → Option C := fun s => s.sl.getD i none
/-- what a slot holds, as data -/
def slotD (i : Nat) : FSt → Option D := fun s => (s.sl.getD i none).map C.toD
/-- a slot that holds plain data -/
def slotV (i : Nat) : FSt → Option D := fun s => match s.sl.getD i none with
  | some (.val d) => some d
  | _ => none
theorem RepS.get {K : PySem.W.Frag} {g : G} {H : Hp} : ∀ {cs : List (Option C)} {σ : L2.St} {f : List Addr} {i : Nat} {c : C}, RepS K g H cs σ f → cs.getD i none = some c → ∃ v fr, σ[i]? = some (some v) ∧ RepC K g H c v fr ∧ ∀ a ∈ fr, a ∈ f
  | [], σ, f, i, c, h, e => by simp at e
  | none :: cs, σ, f, 0, c, h, e => by simp at e
  | some c' :: cs, σ, f, 0, c, h, e => by
    unfold RepS at h
    obtain ⟨v, ws, g1, g2, e1, e2, ⟨u, e3, r⟩, rs⟩ := h
    simp at e; subst e e1 e2 e3
    exact ⟨u, g1, rfl, r, fun a q => List.mem_append_left _ q⟩
  | x :: cs, σ, f, i + 1, c, h, e => by
    unfold RepS at h
    obtain ⟨v, ws, g1, g2, e1, e2, _, rs⟩ := h
    subst e1 e2
    obtain ⟨u, fr, q1, q2, q3⟩ := RepS.get (i := i) (c := c) rs (by simpa using e)
    exact ⟨u, fr, by simpa using q1, q2, fun a q => List.mem_append_right _ (q3 a q)⟩
section
variable {i : Nat} {n : Str}
/-- a name, borrowed -/
theorem ev_var (hN : X.N[i]? = some n := by rfl) (hv : Vis X.env.scope n := by first | exact Or.inl rfl | exact Or.inr (Or.inl rfl) | exact Or.inr (Or.inr rfl)) (hd : (n == ("__debug__" : Str)) = false := by decide)
    (hcd : (n == ("__classdict__" : Str)) = false := by decide) : EV X B W false true (.Name n pos) (get (slotD i)) := ⟨(pe_var hN hv hd hcd).weak fun σ H Q ⟨w, h⟩ => by
  obtain ⟨d, e, R, q⟩ := h.get
  unfold slotD at e
  cases ec : w.s.sl.getD i none with
  | none => rw [ec] at e; cases e
  | some c =>
    rw [ec] at e
    cases e
    obtain ⟨v, fr, e1, rc, _⟩ := R.sl.get ec
    exact ⟨v, e1, q v w H rfl (.refl R) ⟨rc.bor, (fun z => absurd z (by decide)), fun _ => .refl⟩⟩⟩
/-- a name that holds plain data -/
theorem ef_var (hN : X.N[i]? = some n := by rfl) (hv : Vis X.env.scope n := by first | exact Or.inl rfl | exact Or.inr (Or.inl rfl) | exact Or.inr (Or.inr rfl)) (hd : (n == ("__debug__" : Str)) = false := by decide)
    (hcd : (n == ("__classdict__" : Str)) = false := by decide) : EF X B W true (.Name n pos) (get (slotV i)) := ⟨(pe_var hN hv hd hcd).weak fun σ H Q ⟨w, h⟩ => by
  obtain ⟨d, e, R, q⟩ := h.get
  unfold slotV at e
  split at e
  · rename_i d' ec
    cases e
    obtain ⟨v, fr, e1, rc, _⟩ := R.sl.get ec
    exact ⟨v, e1, q v w H rfl (.refl R) (.here rc.1)⟩
  · cases e⟩
end

/-! ### operators -/
section
variable {eb : Expr} {op : Operator} {cop : CmpOp}
theorem ef_op {c : D → D → Option D} {r : R2} (ho : OpR X (binaryOp op) r) (o : Op2 X.K c r) (ha : EV X B W b1 p1 a f1) (he : EV X B W b2 p2 eb f2) (hb : (b1 || p2) = true := by rfl) : EF X B W (p1 && p2) (.BinOp a op eb pos) (bin c f1 f2) :=
  ⟨(pe_op ho ha.h he.h).weak fun σ H Q h => tF2 o hb h⟩
theorem eg_op {c : D → D → Option C} {r : R2} (ho : OpR X (binaryOp op) r) (o : Op2G X.K c r) (ha : EV X B W b1 p1 a f1) (he : EV X B W b2 p2 eb f2) (hb : (b1 || p2) = true := by rfl) : EG X B W (p1 && p2) (.BinOp a op eb pos) (bin c f1 f2) :=
  ⟨(pe_op ho ha.h he.h).weak fun σ H Q h => tG2 o hb h⟩
theorem ef_cmp {c : D → D → Option D} {r : R2} (ho : OpR X (compareOp cop) r) (o : Op2 X.K c r) (hm : behindInMarks cop eb = false) (ha : EV X B W b1 p1 a f1) (he : EV X B W b2 p2 eb f2) (hb : (b1 || p2) = true := by rfl) : EF X B W (p1 && p2) (.Compare a [cop] [eb] pos) (bin c f1 f2) :=
  ⟨(pe_cmpR ho ha.h he.h hm).weak fun σ H Q h => tF2 o hb h⟩
/-- data that is a bool -/
def D.toB? : D → Option Bool
  | .bl t => some t
  | _ => none
def tst (m : M D) : M Bool := una D.toB? m
theorem tB_of {m : M D} {σ : L2.St} {H : Hp} {Q : Bool → Hp → Prop} (h : TB X B W p (tst m) σ H Q) : TF X B W p m σ H (fun x H1 => ∃ t, x = .bl t ∧ Q t H1) := by
  obtain ⟨w, h⟩ := h
  refine ⟨w, h.bnd fun d1 v1 w1 H1 st1 r1 h1 => ?_⟩
  obtain ⟨t, ht, R1, hq⟩ := h1.opt
  cases d1 with
  | bl t' =>
    cases ht
    have e := r1.1
    unfold Rep at e
    exact ⟨t, e, hq t w1 H1 rfl (.refl R1) ⟨rfl, r1.2⟩⟩
  | _ => cases ht
theorem et_cmp {c : D → D → Option D} {r : R2} (ho : OpR X (compareOp cop) r) (o : Op2 X.K c r) (hm : behindInMarks cop eb = false) (ha : EV X B W b1 p1 a f1) (he : EV X B W b2 p2 eb f2) (hb : (b1 || p2) = true := by rfl) : ET X B W (p1 && p2) (.Compare a [cop] [eb] pos) (tst (bin c f1 f2)) :=
  ⟨(pt_cmpR ho ha.h he.h hm).weak fun σ H Q h => tF2 o hb (tB_of h)⟩
/-- any expression of a bool, as a test -/
theorem et_val {m : M D} (h : EF X B W p e m) (he : ∀ whole, isTrue e X.env whole = (do let v ← whole; standAt e.pos; holding [v] (truthy v)) := by intro _; rfl) : ET X B W p e (tst m) :=
  ⟨(pt_val h.h he).weak fun σ H Q h => tB_of h⟩
theorem ef_neg (ha : EV X B W b1 p1 a f1) : EF X B W p1 (.UnaryOp .USub a pos) (una cNeg f1) := ⟨(pe_un un_neg ha.h).weak fun σ H Q h => tF1 o1_neg h⟩
theorem ef_isN {j : Nat} {pos' : Pos} (ha : EV X B W b1 p1 a f1) : EF X B W p1 (.Compare a [.Is] [.Constant .none j pos'] pos) (una cIsN f1) := ⟨(pe_cmp (pc_isN ha.h)).weak fun σ H Q h => tF1 o1_isN h⟩
theorem ef_notN {j : Nat} {pos' : Pos} (ha : EV X B W b1 p1 a f1) : EF X B W p1 (.Compare a [.IsNot] [.Constant .none j pos'] pos) (una cNotN f1) := ⟨(pe_cmp (pc_notN ha.h)).weak fun σ H Q h => tF1 o1_notN h⟩
theorem et_isN {j : Nat} {pos' : Pos} (ha : EV X B W b1 p1 a f1) : ET X B W p1 (.Compare a [.Is] [.Constant .none j pos'] pos) (tst (una cIsN f1)) := ⟨(pt_cmp (pc_isN ha.h)).weak fun σ H Q h => tF1 o1_isN (tB_of h)⟩
theorem et_notN {j : Nat} {pos' : Pos} (ha : EV X B W b1 p1 a f1) : ET X B W p1 (.Compare a [.IsNot] [.Constant .none j pos'] pos) (tst (una cNotN f1)) := ⟨(pt_cmp (pc_notN ha.h)).weak fun σ H Q h => tF1 o1_notN (tB_of h)⟩
/-! ### and, or, not, if -/
variable {t1 t2 : M Bool} {rest : List Expr}
def andT (m n : M Bool) : M Bool := bnd m fun t => if t = true then n else ret false
def orT (m n : M Bool) : M Bool := bnd m fun t => if t = true then ret true else n
def notT (m : M Bool) : M Bool := bnd m fun t => ret (!t)
def iteM {α : Type} (m : M Bool) (n1 n2 : M α) : M α := bnd m fun t => if t = true then n1 else n2
theorem RB.mono {w : Wd} {H : Hp} {t c : Bool} {w' : Wd} {H' : Hp} (h : RB p w H t c w' H') (i : p1 = true → p = true) : RB p1 w H t c w' H' := ⟨h.1, fun e => h.2 (i e)⟩
theorem ew_of (h : ET X B W p a t1) (op : BoolOp := .And) : ET X B W p a t1 := h
theorem ew_and1 (h : ET X B W p a t1) : EW X B W p (.BoolOp .And [a] pos) t1 := ⟨pw_and1 h.h⟩
theorem ew_or1 (h : ET X B W p a t1) : EW X B W p (.BoolOp .Or [a] pos) t1 := ⟨pw_or1 h.h⟩
theorem tB_and {σ : L2.St} {H : Hp} {Q : Bool → Hp → Prop} (h : TB X B W (p1 && p2) (andT t1 t2) σ H Q) : tAnd (TB X B W p1 t1) (TB X B W p2 t2) σ H Q := by
  obtain ⟨w, h⟩ := h
  refine ⟨w, h.bnd fun t v w1 H1 st1 r1 h1 => ?_⟩
  obtain ⟨e, pu⟩ := r1
  subst e
  cases t with
  | false =>
    obtain ⟨R1, hq⟩ := At.ret h1
    rw [if_neg Bool.false_ne_true]
    exact hq _ w1 H1 rfl (.refl R1) ⟨rfl, fun e => pu (Bool.and_eq_true _ _ ▸ e).1⟩
  | true =>
    rw [if_pos rfl]
    exact ⟨w1, At.imp h1 fun _ _ _ _ _ r => ⟨r.1, Pure.and pu r.2⟩⟩
theorem tB_or {σ : L2.St} {H : Hp} {Q : Bool → Hp → Prop} (h : TB X B W (p1 && p2) (orT t1 t2) σ H Q) : tOr (TB X B W p1 t1) (TB X B W p2 t2) σ H Q := by
  obtain ⟨w, h⟩ := h
  refine ⟨w, h.bnd fun t v w1 H1 st1 r1 h1 => ?_⟩
  obtain ⟨e, pu⟩ := r1
  subst e
  cases t with
  | true =>
    obtain ⟨R1, hq⟩ := At.ret h1
    rw [if_pos rfl]
    exact hq _ w1 H1 rfl (.refl R1) ⟨rfl, fun e => pu (Bool.and_eq_true _ _ ▸ e).1⟩
  | false =>
    rw [if_neg Bool.false_ne_true]
    exact ⟨w1, At.imp h1 fun _ _ _ _ _ r => ⟨r.1, Pure.and pu r.2⟩⟩
theorem ew_and (h : ET X B W p1 a t1) (h2 : EW X B W p2 (.BoolOp .And (eb :: rest) pos) t2) : EW X B W (p1 && p2) (.BoolOp .And (a :: eb :: rest) pos) (andT t1 t2) := ⟨(pw_and h.h h2.h).weak fun σ H Q h => tB_and h⟩
theorem ew_or (h : ET X B W p1 a t1) (h2 : EW X B W p2 (.BoolOp .Or (eb :: rest) pos) t2) : EW X B W (p1 && p2) (.BoolOp .Or (a :: eb :: rest) pos) (orT t1 t2) := ⟨(pw_or h.h h2.h).weak fun σ H Q h => tB_or h⟩
theorem et_w (h : EW X B W p a t1) : ET X B W p a t1 := ⟨h.h.pt⟩
theorem et_not (h : ET X B W p a t1) : ET X B W p (.UnaryOp .Not a pos) (notT t1) := ⟨(pt_not h.h).weak fun σ H Q ⟨w, h⟩ =>
  ⟨w, h.bnd fun t v w1 H1 st1 r1 h1 => by
    obtain ⟨e, pu⟩ := r1
    subst e
    obtain ⟨R1, hq⟩ := At.ret h1
    exact hq _ w1 H1 rfl (.refl R1) ⟨rfl, pu⟩⟩⟩
/-- as values: operands that are bools -/
def andV (m n : M D) : M D := bnd m fun d => match d with
  | .bl true => n
  | .bl false => ret (.bl false)
  | _ => opt none
def orV (m n : M D) : M D := bnd m fun d => match d with
  | .bl true => ret (.bl true)
  | .bl false => n
  | _ => opt none
def notV (m : M D) : M D := bnd m fun d => match d with
  | .bl t => ret (.bl (!t))
  | _ => opt none
theorem ef_one {bop : BoolOp} (h : EF X B W p a f) : EF X B W p (.BoolOp bop [a] pos) f := ⟨pe_one h.h⟩
theorem At.no {α β : Type} {R : α → β → Wd → Hp → Prop} {w : Wd} {σ : L2.St} {H : Hp} {Q : β → Hp → Prop} (h : At X B W R (Ev.opt none) w σ H Q) : False := by
  obtain ⟨_, e, _⟩ := h.opt
  cases e
theorem ef_and (h : EF X B W p1 a f1) (h2 : EF X B W p2 (.BoolOp .And (eb :: rest) pos) f2) : EF X B W (p1 && p2) (.BoolOp .And (a :: eb :: rest) pos) (andV f1 f2) := ⟨(pe_and h.h h2.h).weak fun σ H Q ⟨w, h⟩ =>
  ⟨w, h.bnd fun t v w1 H1 st1 r1 h1 => by
    obtain ⟨r, pu⟩ := r1
    cases t with
    | bl t =>
      unfold Rep at r
      subst r
      refine ⟨t, rfl, ?_⟩
      cases t with
      | false =>
        obtain ⟨R1, hq⟩ := At.ret h1
        rw [if_neg Bool.false_ne_true]
        exact hq _ w1 H1 rfl (.refl R1) ⟨by unfold Rep; rfl, fun e => pu (Bool.and_eq_true _ _ ▸ e).1⟩
      | true =>
        rw [if_pos rfl]
        exact ⟨w1, At.imp h1 fun _ _ _ _ _ r => ⟨r.1, Pure.and pu r.2⟩⟩
    | _ => exact h1.no.elim⟩⟩
theorem ef_or (h : EF X B W p1 a f1) (h2 : EF X B W p2 (.BoolOp .Or (eb :: rest) pos) f2) : EF X B W (p1 && p2) (.BoolOp .Or (a :: eb :: rest) pos) (orV f1 f2) := ⟨(pe_or h.h h2.h).weak fun σ H Q ⟨w, h⟩ =>
  ⟨w, h.bnd fun t v w1 H1 st1 r1 h1 => by
    obtain ⟨r, pu⟩ := r1
    cases t with
    | bl t =>
      unfold Rep at r
      subst r
      refine ⟨t, rfl, ?_⟩
      cases t with
      | true =>
        obtain ⟨R1, hq⟩ := At.ret h1
        rw [if_pos rfl]
        exact hq _ w1 H1 rfl (.refl R1) ⟨by unfold Rep; rfl, fun e => pu (Bool.and_eq_true _ _ ▸ e).1⟩
      | false =>
        rw [if_neg Bool.false_ne_true]
        exact ⟨w1, At.imp h1 fun _ _ _ _ _ r => ⟨r.1, Pure.and pu r.2⟩⟩
    | _ => exact h1.no.elim⟩⟩
theorem ef_not (h : EF X B W p1 a f1) : EF X B W p1 (.UnaryOp .Not a pos) (notV f1) := ⟨(pe_not h.h).weak fun σ H Q ⟨w, h⟩ =>
  ⟨w, h.bnd fun t v w1 H1 st1 r1 h1 => by
    obtain ⟨r, pu⟩ := r1
    cases t with
    | bl t =>
      unfold Rep at r
      subst r
      obtain ⟨R1, hq⟩ := At.ret h1
      exact ⟨t, rfl, hq _ w1 H1 rfl (.refl R1) ⟨by unfold Rep; rfl, pu⟩⟩
    | _ => exact h1.no.elim⟩⟩
theorem ef_if {c : Expr} (h : ET X B W p c t1) (h1 : EF X B W p1 a f1) (h2 : EF X B W p2 eb f2) : EF X B W (p && (p1 && p2)) (.IfExp c a eb pos) (iteM t1 f1 f2) := ⟨(pe_ifExp h.h h1.h h2.h).weak fun σ H Q ⟨w, h⟩ =>
  ⟨w, h.bnd fun t v w1 H1 st1 r1 h1 => by
    obtain ⟨e, pu⟩ := r1
    subst e
    cases t with
    | true =>
      rw [if_pos rfl]
      refine ⟨w1, At.imp h1 fun _ _ _ _ _ r => ⟨r.1, fun e => ?_⟩⟩
      simp only [Bool.and_eq_true] at e
      exact (pu e.1).trans (r.2 e.2.1)
    | false =>
      rw [if_neg Bool.false_ne_true]
      refine ⟨w1, At.imp h1 fun _ _ _ _ _ r => ⟨r.1, fun e => ?_⟩⟩
      simp only [Bool.and_eq_true] at e
      exact (pu e.1).trans (r.2 e.2.2)⟩⟩
end
/-- less is known -/
theorem EF.p0 (h : EF X B W p e f) : EF X B W false e f := ⟨h.h.weak fun σ H Q ⟨w, h⟩ => ⟨w, h.imp fun _ _ _ _ _ r => ⟨r.1, fun z => by cases z⟩⟩⟩
theorem ET.p0 {t : M Bool} (h : ET X B W p e t) : ET X B W false e t := ⟨h.h.weak fun σ H Q ⟨w, h⟩ => ⟨w, h.imp fun _ _ _ _ _ r => ⟨r.1, fun z => by cases z⟩⟩⟩
theorem EV.p0 (h : EV X B W b p e f) : EV X B W b false e f := ⟨h.h.weak fun σ H Q ⟨w, h⟩ => ⟨w, h.imp fun _ _ _ _ _ r => ⟨r.1, r.2.1, fun z => by cases z⟩⟩⟩
/-! ### argument lists, displays -/
def nilM : M (List D) := ret []
def consM (m : M D) (n : M (List D)) : M (List D) := bnd m fun d => bnd n fun ds => ret (d :: ds)
theorem RepL.cons {g : G} {H : Hp} {d : D} {ds : List D} {v : V} {vs : List V} (r : Rep X.K g H d v) (rs : RepL X.K g H ds vs) : RepL X.K g H (d :: ds) (v :: vs) := by
  unfold RepL
  exact ⟨v, vs, rfl, r, rs⟩
theorem efs_nil : EFs X B W true [] nilM := ⟨pa_nil.weak fun σ H Q ⟨w, h⟩ => by
  obtain ⟨R, q⟩ := h.ret
  exact q [] w H rfl (.refl R) ⟨by unfold RepL; rfl, fun _ => .refl⟩⟩
theorem efs_cons {es : List Expr} {fs : M (List D)} (h1 : EF X B W p1 e f) (h2 : EFs X B W p2 es fs) (hs : starEach (e :: es) X.env = (false, eval e X.env) :: starEach es X.env := by rfl) : EFs X B W (p1 && p2) (e :: es) (consM f fs) :=
  ⟨(pa_cons h1.h h2.h hs).weak fun σ H Q ⟨w, h⟩ => ⟨w, h.bnd fun d v w1 H1 st1 r1 h1 => ⟨w1, h1.bnd fun ds vs w2 H2 st2 r2 h2 => by
    obtain ⟨R, q⟩ := h2.ret
    exact q _ w2 H2 rfl (.refl R) ⟨.cons (Rep.ext st2.ext st1.rel.zf d r1.1) r2.1, Pure.and r1.2 r2.2⟩⟩⟩⟩
def tupD (ds : List D) : Option D := if ds.length ≤ sizeLine then some (.tup ds) else none
def lstC (ds : List D) : Option C := if ds.length ≤ sizeLine then some (.lst ds) else none
def tupM (m : M (List D)) : M D := bnd m fun ds => opt (tupD ds)
def lstM (m : M (List D)) : M C := bnd m fun ds => opt (lstC ds)
theorem ef_tup {es : List Expr} {fs : M (List D)} {x1 : Nat} (h : EFs X B W p es fs) : EF X B W p (.Tuple es x1 pos) (tupM fs) := ⟨(pe_tup h.h).weak fun σ H Q ⟨w, h⟩ => ⟨w, h.bnd fun ds vs w1 H1 st1 r1 h1 => by
  obtain ⟨d, e, R, q⟩ := h1.opt
  unfold tupD at e
  split at e
  · rename_i hl
    cases e
    refine ⟨by rw [RepL.len _ r1.1]; exact hl, MkF.tup (fun v g' H' n rep => q v { w1 with g := g' } H' rfl (.new R n) ⟨rep, fun e => (r1.2 e).trans (.new n)⟩) r1.1⟩
  · cases e⟩⟩
theorem eg_lst {es : List Expr} {fs : M (List D)} (h : EFs X B W p es fs) : EG X B W p (.List es pos) (lstM fs) := ⟨(pe_lst h.h).weak fun σ H Q ⟨w, h⟩ => ⟨w, h.bnd fun ds vs w1 H1 st1 r1 h1 => by
  obtain ⟨d, e, R, q⟩ := h1.opt
  unfold lstC at e
  split at e
  · rename_i hl
    cases e
    refine ⟨by rw [RepL.len _ r1.1]; exact hl, MkG.lst (fun v g' H' fr n rep hf => q v { w1 with g := g' } H' rfl (.new R n) ⟨fr, rep, fresh_ok (w := w1) R n hf, Sub.trans st1 fun a q => .inr (hf a q).1, fun e => ⟨(r1.2 e).trans (.new n), fun a q => ?_⟩⟩) R.zd r1.1⟩
    cases k : H a with
    | none => rfl
    | some u => exact absurd (hf a q).1 (st1.ext.dom a (by rw [k]; simp))
  · cases e⟩⟩
end
end Ev

namespace Ev
open PySem PySem.Spec PyProof.Rows L2

/-! ### texts: every sign is one -/
theorem strOk_iff {x : Str} : PyData.strOk x = true ↔ ∀ c ∈ x.cps.toList, c < 0x110000 := by
  unfold PyData.strOk
  rw [← Array.all_toList, List.all_eq_true]
  simp
theorem strOk_of_sub {x y : Str} (hx : PyData.strOk x = true) (h : ∀ c ∈ y.cps.toList, c ∈ x.cps.toList) : PyData.strOk y = true :=
  strOk_iff.mpr fun c q => strOk_iff.mp hx c (h c q)
theorem toList_app (x y : Str) : (x ++ y).cps.toList = x.cps.toList ++ y.cps.toList := by
  show (x.cps ++ y.cps).toList = _
  simp
theorem mem_joinStr {y : Str} : ∀ {ps : List Str} {p : Str}, p ∈ ps → ∀ c ∈ p.cps.toList, c ∈ (Str.join y ps).cps.toList
  | [x], p, h, c, hc => by
    have e : p = x := by simpa using h
    subst e; exact hc
  | x :: z :: rest, p, h, c, hc => by
    show c ∈ (x ++ y ++ Str.join y (z :: rest)).cps.toList
    rw [toList_app, toList_app, List.mem_append, List.mem_append]
    rcases List.mem_cons.mp h with e | h
    · subst e; exact .inl (.inl hc)
    · exact .inr (mem_joinStr h c hc)
theorem split_ok {x y : Str} (hx : PyData.strOk x = true) : ∀ p ∈ Txt.split x y, PyData.strOk p = true := fun p hp =>
  strOk_of_sub hx fun c hc => by
    have := mem_joinStr (y := y) hp c hc
    rwa [StrLaws.join_split] at this
theorem joinStr_ok {y : Str} (hy : PyData.strOk y = true) : ∀ {ps : List Str}, (∀ p ∈ ps, PyData.strOk p = true) → PyData.strOk (Str.join y ps) = true
  | [], _ => strOk_iff.mpr fun c q => by simp [Str.join, Str.empty] at q
  | [x], h => h x (by simp)
  | x :: z :: rest, h => by
    show PyData.strOk (x ++ y ++ Str.join y (z :: rest)) = true
    exact strOk_append (strOk_append (h x (by simp)) hy) (joinStr_ok hy fun p q => h p (by simp [q]))
theorem glued_from (y : Str) : ∀ (ps : List Str) (acc : Array Nat), ps.foldl (fun acc p => acc ++ y.cps ++ p.cps) acc = acc ++ (match ps with | [] => #[] | _ => y.cps ++ (Str.join y ps).cps)
  | [], acc => by simp
  | [p], acc => by simp [Str.join]
  | p :: q :: r, acc => by
    rw [List.foldl_cons, glued_from y (q :: r)]
    show _ = acc ++ (y.cps ++ (p ++ y ++ Str.join y (q :: r)).cps)
    have e : (p ++ y ++ Str.join y (q :: r)).cps = p.cps ++ y.cps ++ (Str.join y (q :: r)).cps := rfl
    rw [e]
    simp [Array.append_assoc]
theorem txtJoin_eq (y : Str) : ∀ ps : List Str, Txt.join y ps = Str.join y ps
  | [] => rfl
  | [p] => by
    show Builtin.Str.glued y [p] = _
    unfold Builtin.Str.glued
    rfl
  | p :: q :: r => by
    show Builtin.Str.glued y (p :: q :: r) = p ++ y ++ Str.join y (q :: r)
    unfold Builtin.Str.glued
    show (⟨(q :: r).foldl (fun acc p => acc ++ y.cps ++ p.cps) p.cps⟩ : Str) = _
    rw [glued_from]
    show (⟨p.cps ++ (y.cps ++ (Str.join y (q :: r)).cps)⟩ : Str) = ⟨p.cps ++ y.cps ++ (Str.join y (q :: r)).cps⟩
    rw [Array.append_assoc]
theorem join_ok {y : Str} (hy : PyData.strOk y = true) {ps : List Str} (h : ∀ p ∈ ps, PyData.strOk p = true) : PyData.strOk (Txt.join y ps) = true := by
  rw [txtJoin_eq]; exact joinStr_ok hy h
theorem slice_ok {z : Str} (h : PyData.strOk z = true) (lo hi : Option Int) : PyData.strOk (Txt.slice z lo hi) = true := by
  rw [← C8.cutS_slice]
  refine strOk_of_sub h fun c hc => ?_
  unfold cutS at hc
  exact List.mem_of_mem_drop (List.mem_of_mem_take (by simpa using hc))
theorem partition_ok {x y : Str} (hx : PyData.strOk x = true) (hy : PyData.strOk y = true) :
    PyData.strOk (Txt.partition x y).1 = true ∧ PyData.strOk (Txt.partition x y).2.1 = true ∧ PyData.strOk (Txt.partition x y).2.2 = true := by
  have sub : ∀ a b, PyData.strOk (Builtin.Str.strSub x a b) = true := fun a b => strOk_of_sub hx fun c hc => by
    rw [StrLaws.strSub_toList] at hc
    exact List.mem_of_mem_drop (List.mem_of_mem_take hc)
  have he : PyData.strOk Str.empty = true := strOk_iff.mpr fun c q => by simp [Str.empty] at q
  unfold Txt.partition
  split
  · exact ⟨sub _ _, hy, sub _ _⟩
  · exact ⟨hx, he, he⟩
theorem chr_ok {z : Str} (h : PyData.strOk z = true) {i : Int} {c : Nat} (e : atI z.cps.toList i = some c) : PyData.strOk ⟨#[c]⟩ = true := by
  refine strOk_of_sub h fun d hd => ?_
  have e2 : d = c := by simpa using hd
  subst e2
  unfold atI at e
  cases k : ixN z.cps.toList.length i with
  | none => rw [k] at e; cases e
  | some j =>
    rw [k] at e
    exact List.mem_of_getElem? e
/-! ### figures -/
theorem ofString_ascii (s : String) (h : ∀ c ∈ s.toList, c.toNat < 128) : True := trivial

/-! ### built-ins and methods, as plain functions -/
def cLen : D → Option D
  | .str x => if x.length ≤ sizeLine then some (.int x.length) else none
  | .lst xs => some (.int xs.length)
  | .tup xs => some (.int xs.length)
  | .dct kvs => some (.int kvs.length)
  | _ => none
def cList : D → Option C
  | .lst xs => some (.lst xs)
  | .tup xs => some (.lst xs)
  | _ => none
def cTup : D → Option D
  | .lst xs => some (.tup xs)
  | .tup xs => some (.tup xs)
  | _ => none
def cInt : D → Option D
  | .int i => some (.int i)
  | .bl t => some (.int (if t then 1 else 0))
  | .str x => if x.length ≤ 640 then (PySem.intText? x).map .int else none
  | _ => none
def cAbs : D → Option D
  | .int i => some (.int (if i < 0 then -i else i))
  | _ => none
def cMax : D → D → Option D
  | .int i, .int j => some (.int (if j > i then j else i))
  | _, _ => none
def cMin : D → D → Option D
  | .int i, .int j => some (.int (if j < i then j else i))
  | _, _ => none
def cSplit : D → D → Option C
  | .str a, .str b => if (b.length == 0) = false ∧ a.length + 2 ≤ sizeLine then some (.lst ((Txt.split a b).map D.str)) else none
  | _, _ => none
def cPart : D → D → Option D
  | .str a, .str b => if (b.length == 0) = false ∧ a.length ≤ sizeLine then some (.tup [.str (Txt.partition a b).1, .str (Txt.partition a b).2.1, .str (Txt.partition a b).2.2]) else none
  | _, _ => none
def cJoin : D → D → Option D
  | .str a, .lst xs => (allStr xs).bind fun ys => if (ys.map (·.length)).sum + ys.length * a.length ≤ 16777216 then some (.str (Txt.join a ys)) else none
  | _, _ => none
/-- xs[lo:hi] -/
def cutL {α : Type} (xs : List α) (lo hi : Option Int) : List α := (xs.drop (HT.sIx xs.length 0 lo)).take (HT.sIx xs.length xs.length hi - HT.sIx xs.length 0 lo)
def cSl (d : D) (lo hi : Option Int) : Option C := match d with
  | .lst xs => some (.lst (cutL xs lo hi))
  | .tup xs => some (.val (.tup (cutL xs lo hi)))
  | .str z => if z.length ≤ sizeLine then some (.val (.str (Txt.slice z lo hi))) else none
  | _ => none

section
variable {K : PySem.W.Frag}
theorem Bor.lst {g : G} {H : Hp} {xs : List D} {v : V} (b : Bor K g H (.lst xs) v) : ∃ a vs, v = .ref a ∧ SqL K H a vs ∧ RepL K g H xs vs := b
/-- a reading by one value -/
def rOne (r : List V → Hp → VK → Prop) : V → Hp → VK → Prop := fun x H Q => r [x] H Q
def rTwo (r : List V → Hp → VK → Prop) : R2 := fun x y H Q => r [x, y] H Q
def rLenA (K : PySem.W.Frag) : List V → Hp → VK → Prop := fun xs H Q => (∃ x n, xs = [x] ∧ LenV K x H n ∧ Q (.int n) H) ∨ ∃ p kvs, xs = [.ref p] ∧ Rd H p (.dK kvs) ∧ Q (.int ((kvs.length : Nat) : Int)) H
theorem RepK.len {g : G} {H : Hp} : ∀ {xs : List (D × D)} {vs : List (Key × V)}, RepK K g H xs vs → vs.length = xs.length
  | [], vs, r => by unfold RepK at r; subst r; rfl
  | (k, d) :: xs, vs, r => by
    unfold RepK at r
    obtain ⟨kk, v, ws, e, _, _, _, rs⟩ := r
    subst e
    simp [RepK.len rs]
theorem o1_len : Op1 K cLen (rOne (rLenA K)) := by
  intro g H d v d' Q b hc m
  cases d with
  | str x =>
    simp only [cLen] at hc
    split at hc
    · rename_i h
      cases hc
      exact .inl ⟨v, _, rfl, by rw [b.str.1]; exact ⟨h, rfl⟩, m.int⟩
    · cases hc
  | lst xs =>
    cases hc
    obtain ⟨a, vs, e, f, r⟩ := b.lst
    subst e
    exact .inl ⟨_, xs.length, rfl, .inl ⟨vs, f, (RepL.len _ r).symm⟩, m.int⟩
  | tup xs =>
    cases hc
    obtain ⟨a, vs, e, f, r⟩ := b.tup
    subst e
    exact .inl ⟨_, xs.length, rfl, .inr ⟨vs, f.1, (RepL.len _ r).symm⟩, m.int⟩
  | dct kvs =>
    cases hc
    obtain ⟨a, ks, e, f, r⟩ := b
    subst e
    exact .inr ⟨a, ks, rfl, f, by rw [RepK.len r]; exact m.int⟩
  | _ => cases hc
theorem o1_list : Op1G K cList (rOne fun xs H Q => ∃ p ys, xs = [.ref p] ∧ (SqL K H p ys ∨ SqT K H p ys) ∧ ∀ l, H l = none → Q (.ref l) (upd H l (.lst ys))) := by
  intro g H d v d' Q zd b hc m
  cases d with
  | lst xs =>
    cases hc
    obtain ⟨a, vs, e, f, r⟩ := b.lst
    subst e
    exact ⟨a, vs, rfl, .inl f, m.lst zd r⟩
  | tup xs =>
    cases hc
    obtain ⟨a, vs, e, f, r⟩ := b.tup
    subst e
    exact ⟨a, vs, rfl, .inr f.1, m.lst zd r⟩
  | _ => cases hc
theorem o1_tup : Op1 K cTup (rOne fun xs H Q => ∃ p ys, xs = [.ref p] ∧ ((SqL K H p ys ∧ ∀ l, H l = none → Q (.ref l) (upd H l (.tup ys))) ∨ (SqT K H p ys ∧ Q (.ref p) H))) := by
  intro g H d v d' Q b hc m
  cases d with
  | lst xs =>
    cases hc
    obtain ⟨a, vs, e, f, r⟩ := b.lst
    subst e
    exact ⟨a, vs, rfl, .inl ⟨f, m.tup r⟩⟩
  | tup xs =>
    cases hc
    obtain ⟨a, vs, e, f, r⟩ := b.tup
    subst e
    refine ⟨a, vs, rfl, .inr ⟨f.1, m.here ?_⟩⟩
    unfold Rep
    exact ⟨a, vs, rfl, f, r⟩
  | _ => cases hc
def rIntA : List V → Hp → VK → Prop := fun xs H Q => ((∃ i, xs = [.int i] ∧ Q (.int i) H) ∨ ∃ k, xs = [.bl k] ∧ Q (.int (if k then 1 else 0)) H) ∨ ∃ a n, xs = [.str a] ∧ PySem.intText? a = some n ∧ a.length ≤ 640 ∧ Q (.int n) H
theorem o1_int : Op1 K cInt (rOne rIntA) := by
  intro g H d v d' Q b hc m
  cases d with
  | int i => cases hc; exact .inl (.inl ⟨i, by rw [b.int], m.int⟩)
  | bl i => cases hc; exact .inl (.inr ⟨i, by rw [b.bl], m.int⟩)
  | str x =>
    simp only [cInt] at hc
    split at hc
    · rename_i h
      cases e : PySem.intText? x with
      | none => rw [e] at hc; cases hc
      | some n =>
        rw [e] at hc
        cases hc
        exact .inr ⟨x, n, by rw [b.str.1], e, h, m.int⟩
    · cases hc
  | _ => cases hc
theorem o1_abs : Op1 K cAbs (rOne fun xs H Q => ∃ i, xs = [.int i] ∧ Q (.int (if i < 0 then -i else i)) H) := by
  intro g H d v d' Q b hc m
  cases d with
  | int i => cases hc; exact ⟨i, by rw [b.int], m.int⟩
  | _ => cases hc
theorem o2_max : Op2 K cMax (rTwo fun xs H Q => ∃ i j, xs = [.int i, .int j] ∧ Q (.int (if j > i then j else i)) H) := by
  intro g H d1 v1 d2 v2 d Q b1 b2 hc m
  cases d1 with
  | int i => cases d2 with
    | int j => cases hc; exact ⟨i, j, by rw [b1.int, b2.int], m.int⟩
    | _ => cases hc
  | _ => cases hc
theorem o2_min : Op2 K cMin (rTwo fun xs H Q => ∃ i j, xs = [.int i, .int j] ∧ Q (.int (if j < i then j else i)) H) := by
  intro g H d1 v1 d2 v2 d Q b1 b2 hc m
  cases d1 with
  | int i => cases d2 with
    | int j => cases hc; exact ⟨i, j, by rw [b1.int, b2.int], m.int⟩
    | _ => cases hc
  | _ => cases hc
/-- a method's reading by receiver and one argument -/
def rMt (r : V → List V → Hp → VK → Prop) : R2 := fun x y H Q => r x [y] H Q
theorem o2_split : Op2G K cSplit (rMt fun x xs H Q => ∃ a b, x = .str a ∧ xs = [.str b] ∧ (b.length == 0) = false ∧ a.length + 2 ≤ sizeLine ∧ rNewStrs (Txt.split a b) H Q) := by
  intro g H d1 v1 d2 v2 d Q zd b1 b2 hc m
  cases d1 with
  | str i => cases d2 with
    | str j =>
      simp only [cSplit] at hc
      split at hc
      · rename_i h
        cases hc
        refine ⟨i, j, b1.str.1, by rw [b2.str.1], h.1, h.2, ?_⟩
        exact m.lst zd (RepL.ofStrs _ (split_ok b1.str.2))
      · cases hc
    | _ => cases hc
  | _ => cases hc
theorem o2_part : Op2 K cPart (rMt fun x xs H Q => ∃ a b, x = .str a ∧ xs = [.str b] ∧ (b.length == 0) = false ∧ a.length ≤ sizeLine ∧ ∀ p, H p = none → Q (.ref p) (upd H p (.tup [.str (Txt.partition a b).1, .str (Txt.partition a b).2.1, .str (Txt.partition a b).2.2]))) := by
  intro g H d1 v1 d2 v2 d Q b1 b2 hc m
  cases d1 with
  | str i => cases d2 with
    | str j =>
      simp only [cPart] at hc
      split at hc
      · rename_i h
        cases hc
        refine ⟨i, j, b1.str.1, by rw [b2.str.1], h.1, h.2, ?_⟩
        obtain ⟨q1, q2, q3⟩ := partition_ok b1.str.2 b2.str.2
        refine m.tup (RepL.ofStrs [_, _, _] ?_)
        intro z hz
        simp only [List.mem_cons, List.not_mem_nil, or_false] at hz
        rcases hz with e | e | e <;> subst e <;> assumption
      · cases hc
    | _ => cases hc
  | _ => cases hc
theorem o2_join : Op2 K cJoin (rMt fun x xs H Q => ∃ a p, ∃ ys : List Str, x = .str a ∧ xs = [.ref p] ∧ (SqL K H p (ys.map V.str) ∨ SqT K H p (ys.map V.str)) ∧
    (ys.map (·.length)).sum + ys.length * a.length ≤ 16777216 ∧ Q (.str (Txt.join a ys)) H) := by
  intro g H d1 v1 d2 v2 d Q b1 b2 hc m
  cases d1 with
  | str i => cases d2 with
    | lst xs =>
      simp only [cJoin] at hc
      cases e : allStr xs with
      | none => rw [e] at hc; cases hc
      | some ys =>
        rw [e] at hc
        simp only [Option.bind_some] at hc
        split at hc
        · rename_i h
          cases hc
          have ex := allStr_eq e
          subst ex
          obtain ⟨a, vs, e1, f, r⟩ := b2.lst
          subst e1
          obtain ⟨ev, oks⟩ := RepL.strs _ r
          subst ev
          exact ⟨i, a, ys, b1.str.1, rfl, .inl f, h, m.str (join_ok b1.str.2 oks)⟩
        · cases hc
    | _ => cases hc
  | _ => cases hc
theorem o2_ix : Op2 K cIx (rIx K) := by
  intro g H d1 v1 d2 v2 d Q b1 b2 hc m
  have at_ok : ∀ {xs : List D} {vs : List V} {i : Int} {d : D}, RepL K g H xs vs → atI xs i = some d → ∃ v, atI vs i = some v ∧ Rep K g H d v := fun {xs vs i d} r e => by
    unfold atI at e ⊢
    rw [RepL.len _ r]
    cases k : ixN xs.length i with
    | none => rw [k] at e; cases e
    | some j =>
      rw [k] at e
      exact RepL.get _ r e
  cases d2 with
  | int i =>
    cases d1 with
    | lst xs =>
      obtain ⟨a, vs, e1, f, r⟩ := b1.lst
      obtain ⟨v, h1, h2⟩ := at_ok r hc
      exact .inl ⟨a, vs, i, v, e1, b2.int, f, h1, m.here h2⟩
    | tup xs =>
      obtain ⟨a, vs, e1, f, r⟩ := b1.tup
      obtain ⟨v, h1, h2⟩ := at_ok r hc
      exact .inr (.inl ⟨a, vs, i, v, e1, b2.int, f.1, h1, m.here h2⟩)
    | str z =>
      simp only [cIx] at hc
      split at hc
      · rename_i h
        cases e : atI z.cps.toList i with
        | none => rw [e] at hc; cases hc
        | some c =>
          rw [e] at hc
          cases hc
          exact .inr (.inr ⟨z, i, c, b1.str.1, b2.int, h, e, m.str (chr_ok b1.str.2 e)⟩)
      · cases hc
    | _ => cases hc
  | _ => cases d1 <;> cases hc
end
section
variable {X : Cx} {B : Ent} {W : WX} {b b1 b2 p p1 p2 p3 : Bool} {k : Nat} {x a e eb : Expr} {pos pp : Pos} {f f1 f2 f3 : M D}
/-- a built-in of one, of two values -/
theorem ef_call1 {c : D → Option D} {r : List V → Hp → VK → Prop} {id : String} {n : Str} (hc : CallR X (.builtin id) r) (o : Op1 X.K c (rOne r)) (hg : Gl X n) (hm : X.mg n = none) (hv : bootBuiltins n = some (.builtin id)) (h : EV X B W b p a f)
    (hs : starEach [a] X.env = (false, eval a X.env) :: starEach [] X.env := by rfl) (hn : n ≠ "__name__" := by decide) (hdb : (n == ("__debug__" : Str)) = false := by decide) : EF X B W p (.Call (.Name n pp) [a] [] pos) (una c f) :=
  ⟨(pe_callB hc hg hm hv (pa_cons h.h pa_nil hs) hn hdb hs rfl).weak fun σ H Q q => tF1 o q⟩
theorem ef_callT1 {c : D → Option D} {r : List V → Hp → VK → Prop} {id : String} {n : Str} (hc : CallR X (.type id) r) (o : Op1 X.K c (rOne r)) (hg : Gl X n) (hm : X.mg n = none) (hv : bootBuiltins n = some (.type id)) (h : EV X B W b p a f)
    (hs : starEach [a] X.env = (false, eval a X.env) :: starEach [] X.env := by rfl) (hn : n ≠ "__name__" := by decide) (hdb : (n == ("__debug__" : Str)) = false := by decide) : EF X B W p (.Call (.Name n pp) [a] [] pos) (una c f) :=
  ⟨(pe_callTy hc hg hm hv (pa_cons h.h pa_nil hs) hn hdb hs rfl).weak fun σ H Q q => tF1 o q⟩
theorem eg_callT1 {c : D → Option C} {r : List V → Hp → VK → Prop} {id : String} {n : Str} (hc : CallR X (.type id) r) (o : Op1G X.K c (rOne r)) (hg : Gl X n) (hm : X.mg n = none) (hv : bootBuiltins n = some (.type id)) (h : EV X B W b p a f)
    (hs : starEach [a] X.env = (false, eval a X.env) :: starEach [] X.env := by rfl) (hn : n ≠ "__name__" := by decide) (hdb : (n == ("__debug__" : Str)) = false := by decide) : EG X B W p (.Call (.Name n pp) [a] [] pos) (una c f) :=
  ⟨(pe_callTy hc hg hm hv (pa_cons h.h pa_nil hs) hn hdb hs rfl).weak fun σ H Q q => tG1 o q⟩
theorem ef_call2 {c : D → D → Option D} {r : List V → Hp → VK → Prop} {id : String} {n : Str} (hc : CallR X (.builtin id) r) (o : Op2 X.K c (rTwo r)) (hg : Gl X n) (hm : X.mg n = none) (hv : bootBuiltins n = some (.builtin id)) (h : EV X B W b1 p1 a f1) (h2 : EV X B W b2 p2 eb f2) (hb : (b1 || p2) = true := by rfl)
    (hs : starEach [a, eb] X.env = (false, eval a X.env) :: starEach [eb] X.env := by rfl) (hs2 : starEach [eb] X.env = (false, eval eb X.env) :: starEach [] X.env := by rfl) (hn : n ≠ "__name__" := by decide) (hdb : (n == ("__debug__" : Str)) = false := by decide) : EF X B W (p1 && p2) (.Call (.Name n pp) [a, eb] [] pos) (bin c f1 f2) :=
  ⟨(pe_callB hc hg hm hv (pa_cons h.h (pa_cons h2.h pa_nil hs2) hs) hn hdb hs (by rw [hs2]; rfl)).weak fun σ H Q q => tF2 o hb q⟩
theorem ef_ix (hs : PlainIx eb) (h : EV X B W b1 p1 a f1) (h2 : EV X B W b2 p2 eb f2) (hb : (b1 || p2) = true := by rfl) : EF X B W (p1 && p2) (.Subscript a eb pos) (bin cIx f1 f2) :=
  ⟨(pe_ix ix_seq h.h h2.h hs).weak fun σ H Q q => tF2 o2_ix hb q⟩
/-- a method of a text -/
def D.isStr : D → Bool
  | .str _ => true
  | _ => false
def binS {α : Type} (c : D → D → Option α) (m1 m2 : M D) : M α := bnd m1 fun a => if a.isStr = true then bnd m2 fun b => opt (c a b) else opt none
theorem tF2m {c : D → D → Option D} {r : V → List V → Hp → VK → Prop} (o : Op2 X.K c (rMt r)) {m1 m2 : M D} (hb : (b1 || p2) = true) {σ : L2.St} {H : Hp} {Q : VK} (h : TF X B W (p1 && p2) (binS c m1 m2) σ H Q) :
    tBM X.K "str" r (TV X B W b1 p1 m1) (tCons (TV X B W b2 p2 m2) tNil) σ H Q := by
  obtain ⟨w, h⟩ := h
  refine ⟨w, h.bnd fun d1 v1 w1 H1 st1 r1 h1 => ?_⟩
  by_cases hs : d1.isStr = true
  · rw [if_pos hs] at h1
    refine ⟨?_, w1, h1.bnd fun d2 v2 w2 H2 st2 r2 h2 => ?_⟩
    · cases d1 with
      | str x => rw [Bor.str r1.1 |>.1]; rfl
      | _ => cases hs
    · obtain ⟨d, hd, R2, hq⟩ := h2.opt
      have q1 : Bor X.K w2.g H2 d1 v1 := by
        rcases (Bool.or_eq_true _ _).mp hb with e | e
        · exact r1.2.1 e _ _ st2.ext
        · exact r1.1.grow (r2.2.2 e).n.ext
      exact o w2.g H2 d1 v1 d2 v2 d Q q1 r2.1 hd fun v g' H' n rep => hq v { w2 with g := g' } H' rfl (.new R2 n) ⟨rep, fun e => (Pure.and r1.2.2 r2.2.2 e).trans (.new n)⟩
  · rw [if_neg hs] at h1
    exact h1.no.elim
theorem tG2m {c : D → D → Option C} {r : V → List V → Hp → VK → Prop} (o : Op2G X.K c (rMt r)) {m1 m2 : M D} (hb : (b1 || p2) = true) {σ : L2.St} {H : Hp} {Q : VK} (h : TG X B W (p1 && p2) (binS c m1 m2) σ H Q) :
    tBM X.K "str" r (TV X B W b1 p1 m1) (tCons (TV X B W b2 p2 m2) tNil) σ H Q := by
  obtain ⟨w, h⟩ := h
  refine ⟨w, h.bnd fun d1 v1 w1 H1 st1 r1 h1 => ?_⟩
  by_cases hs : d1.isStr = true
  · rw [if_pos hs] at h1
    refine ⟨?_, w1, h1.bnd fun d2 v2 w2 H2 st2 r2 h2 => ?_⟩
    · cases d1 with
      | str x => rw [Bor.str r1.1 |>.1]; rfl
      | _ => cases hs
    · obtain ⟨d, hd, R2, hq⟩ := h2.opt
      have q1 : Bor X.K w2.g H2 d1 v1 := by
        rcases (Bool.or_eq_true _ _).mp hb with e | e
        · exact r1.2.1 e _ _ st2.ext
        · exact r1.1.grow (r2.2.2 e).n.ext
      refine o w2.g H2 d1 v1 d2 v2 d Q R2.zd q1 r2.1 hd fun v g' H' fr n rep hf => hq v { w2 with g := g' } H' rfl (.new R2 n) ⟨fr, rep, fresh_ok (w := w2) R2 n hf, Sub.trans st1 (Sub.trans st2 fun a q => .inr (hf a q).1), fun e => ⟨(Pure.and r1.2.2 r2.2.2 e).trans (.new n), fun a q => ?_⟩⟩
      cases k : H a with
      | none => rfl
      | some u => exact absurd (hf a q).1 ((st1.trans st2).ext.dom a (by rw [k]; simp))
  · rw [if_neg hs] at h1
    exact h1.no.elim
section
variable {n : Str} {id : String} {apos : Pos} {r : V → List V → Hp → VK → Prop}
theorem ef_mt {c : D → D → Option D} (slot : Slot "str" n id) (hty : typeOf (.builtin id) = pure (.type "method_descriptor")) (hm : MtR X id r) (o : Op2 X.K c (rMt r)) (h : EV X B W b1 p1 a f1) (h2 : EV X B W b2 p2 eb f2) (hb : (b1 || p2) = true := by rfl)
    (hbase : attributeBase a n X.env (eval a X.env) = eval a X.env := by rfl)
    (hfew : ((backTo pos (starEach [eb] X.env)).all (fun x => !x.1) && (backToKw pos (keywordEach [] X.env)).all (fun x => x.1.isSome) && decide (([eb] : List Expr).length + ([] : List Keyword).length + (if ([] : List Keyword).isEmpty then 0 else 1) < 30)) = true := by rfl)
    (hline : (apos.endLine == pos.line) = true := by rfl) (hs : starEach [eb] X.env = (false, eval eb X.env) :: starEach [] X.env := by rfl) : EF X B W (p1 && p2) (.Call (.Attribute a n apos) [eb] [] pos) (binS c f1 f2) :=
  ⟨(pe_bm PySem.F.plainAttrs_str slot hty hm h.h (pa_cons h2.h pa_nil hs) hbase hfew hline hs rfl).weak fun σ H Q q => tF2m o hb q⟩
theorem eg_mt {c : D → D → Option C} (slot : Slot "str" n id) (hty : typeOf (.builtin id) = pure (.type "method_descriptor")) (hm : MtR X id r) (o : Op2G X.K c (rMt r)) (h : EV X B W b1 p1 a f1) (h2 : EV X B W b2 p2 eb f2) (hb : (b1 || p2) = true := by rfl)
    (hbase : attributeBase a n X.env (eval a X.env) = eval a X.env := by rfl)
    (hfew : ((backTo pos (starEach [eb] X.env)).all (fun x => !x.1) && (backToKw pos (keywordEach [] X.env)).all (fun x => x.1.isSome) && decide (([eb] : List Expr).length + ([] : List Keyword).length + (if ([] : List Keyword).isEmpty then 0 else 1) < 30)) = true := by rfl)
    (hline : (apos.endLine == pos.line) = true := by rfl) (hs : starEach [eb] X.env = (false, eval eb X.env) :: starEach [] X.env := by rfl) : EG X B W (p1 && p2) (.Call (.Attribute a n apos) [eb] [] pos) (binS c f1 f2) :=
  ⟨(pe_bm PySem.F.plainAttrs_str slot hty hm h.h (pa_cons h2.h pa_nil hs) hbase hfew hline hs rfl).weak fun σ H Q q => tG2m o hb q⟩
end
/-! ### slices -/
def RO (p : Bool) (w : Wd) (H : Hp) (i j : Option Int) (w' : Wd) (H' : Hp) : Prop := i = j ∧ (p = true → Pure w H w' H')
structure EO (X : Cx) (B : Ent) (W : WX) (p : Bool) (o : Option Expr) (f : M (Option Int)) : Prop where
  h : PO X o (TX X B W (RO p) f)
theorem _root_.L2.PO.weak {o : Option Expr} {t t' : L2.St → Hp → (Option Int → Hp → Prop) → Prop} (h : PO X o t) (i : ∀ σ H Q, t' σ H Q → t σ H Q) : PO X o t' := ⟨fun pins s σ H Q I q => h.run pins s σ H Q I (i σ H Q q)⟩
theorem eo_none : EO X B W true none (ret none) := ⟨po_none.weak fun σ H Q ⟨w, h⟩ => by
  obtain ⟨R, q⟩ := h.ret
  exact q _ w H rfl (.refl R) ⟨rfl, fun _ => .refl⟩⟩
def toI : D → Option (Option Int)
  | .int i => some (some i)
  | _ => none
theorem eo_some (h : EV X B W b p a f) : EO X B W p (some a) (una toI f) := ⟨(po_some h.h).weak fun σ H Q ⟨w, h⟩ => ⟨w, h.bnd fun d v w1 H1 st r h1 => by
  obtain ⟨o, e, R, q⟩ := h1.opt
  cases d with
  | int i =>
    cases e
    exact ⟨i, Bor.int r.1, q _ w1 H1 rfl (.refl R) ⟨rfl, r.2.2⟩⟩
  | _ => cases e⟩⟩
def slM (m : M D) (ml mh : M (Option Int)) : M C := bnd m fun d => bnd ml fun lo => bnd mh fun hi => opt (cSl d lo hi)
theorem MkG.val {K : PySem.W.Frag} {g : G} {H : Hp} {d : D} {Q : VK} (m : MkG K g H (.val d) Q) : MkF K g H d Q := fun v g' H' n r => m v g' H' [] n ⟨r, rfl⟩ (by simp)
theorem RepL.cut {K : PySem.W.Frag} {g : G} {H : Hp} {xs : List D} {vs : List V} (r : RepL K g H xs vs) (lo hi : Option Int) : RepL K g H (cutL xs lo hi) (cutV vs lo hi) := by
  unfold cutL cutV
  rw [RepL.len _ r]
  exact RepL.take _ (RepL.drop _ r)
def rSlAll (K : PySem.W.Frag) : V → Option Int → Option Int → Hp → VK → Prop := fun x lo hi H Q => (rSlL K x lo hi H Q ∨ rSlA K x lo hi H Q) ∨ C8.rSlX x lo hi H Q
theorem osl {K : PySem.W.Frag} {g : G} {H : Hp} {d : D} {v : V} {lo hi : Option Int} {c : C} {Q : VK} (zd : ∀ a, g.Z a → H a ≠ none) (b : Bor K g H d v) (hc : cSl d lo hi = some c) (m : MkG K g H c Q) : rSlAll K v lo hi H Q := by
  cases d with
  | lst xs =>
    cases hc
    obtain ⟨a, vs, e, f, r⟩ := b.lst
    exact .inl (.inl ⟨a, vs, e, f, m.lst zd (r.cut lo hi)⟩)
  | tup xs =>
    cases hc
    obtain ⟨a, vs, e, f, r⟩ := b.tup
    refine .inl (.inr ⟨a, vs, e, f.1, fun q => ?_, fun _ => m.val.tup (r.cut lo hi)⟩)
    have e2 : cutL xs lo hi = xs := by
      unfold cutL
      rw [← RepL.len _ r, q.1, q.2, List.drop_zero, Nat.sub_zero, RepL.len _ r]
      exact List.take_of_length_le (Nat.le_refl _)
    rw [e2] at m
    refine m.val.here ?_
    unfold Rep
    exact ⟨a, vs, rfl, f, r⟩
  | str z =>
    simp only [cSl] at hc
    split at hc
    · rename_i h
      cases hc
      exact .inr ⟨z, b.str.1, h, m.val.str (slice_ok b.str.2 lo hi)⟩
    · cases hc
  | _ => cases hc
theorem eg_slice {lo hi : Option Expr} {ml mh : M (Option Int)} {p2' : Pos} (h : EV X B W b1 p1 a f) (hl : EO X B W p2 lo ml) (hh : EO X B W p3 hi mh) (hb : (b1 || (p2 && p3)) = true := by rfl) : EG X B W (p1 && (p2 && p3)) (.Subscript a (.Slice lo hi none p2') pos) (slM f ml mh) :=
  ⟨(pe_slice ((SlR.or (SlR.or sl_list sl_tupA) C8.sl_txt)) h.h hl.h hh.h).weak fun σ H Q ⟨w, h⟩ => ⟨w, h.bnd fun d v w1 H1 st1 r1 h1 => ⟨w1, h1.bnd fun i i' w2 H2 st2 r2 h2 => ⟨w2, h2.bnd fun j j' w3 H3 st3 r3 h3 => by
    obtain ⟨e2, pu2⟩ := r2
    obtain ⟨e3, pu3⟩ := r3
    subst e2 e3
    obtain ⟨c, hc, R, q⟩ := h3.opt
    have q1 : Bor X.K w3.g H3 d v := by
      rcases (Bool.or_eq_true _ _).mp hb with e | e
      · exact r1.2.1 e _ _ (st2.trans st3).ext
      · exact r1.1.grow (Pure.and pu2 pu3 e).n.ext
    refine osl R.zd q1 hc fun v g' H' fr n rep hf => q v { w3 with g := g' } H' rfl (.new R n) ⟨fr, rep, fresh_ok (w := w3) R n hf, Sub.trans st1 (Sub.trans st2 (Sub.trans st3 fun a q => .inr (hf a q).1)), fun e => ⟨(Pure.and r1.2.2 (fun e => Pure.and pu2 pu3 e) e).trans (.new n), fun a q => ?_⟩⟩
    cases k : H a with
    | none => rfl
    | some u => exact absurd (hf a q).1 ((st1.trans (st2.trans st3)).ext.dom a (by rw [k]; simp))⟩⟩⟩⟩
end
end Ev

namespace Ev
open PySem PySem.Spec PyProof.Rows L2

/-! ### statements, the plain side -/
inductive Fl where
  | nx (s : FSt) | rt (d : D) (s : FSt) | bk (s : FSt) | ct (s : FSt) | exc (n : Str) (s : FSt) | stuck
abbrev S := FSt → Fl
def nxt : S := fun s => .nx s
def brk : S := fun s => .bk s
def cnt : S := fun s => .ct s
def seqS (a b : S) : S := fun s => match a s with
  | .nx s' => b s'
  | r => r
def bndS {α : Type} (m : M α) (k : α → S) : S := fun s => match m s with
  | .ok a s' => k a s'
  | .exc n s' => .exc n s'
  | .stuck => .stuck
def retS (m : M D) : S := bndS m fun d s => .rt d s
def retN : S := fun s => .rt .non s
def drpS {α : Type} (m : M α) : S := bndS m fun _ => nxt
def iteS (m : M Bool) (a b : S) : S := bndS m fun t => if t = true then a else b
def FSt.put (s : FSt) (i : Nat) (c : C) : FSt := { s with sl := s.sl.set i (some c) }
def setC (i : Nat) (m : M C) : S := bndS m fun c s => .nx (s.put i c)
def setF (i : Nat) (m : M D) : S := bndS m fun d s => .nx (s.put i (.val d))
/-- a loop over given items; g: what storing the item does -/
def forL (g : D → S) (body : S) : List D → S
  | [] => nxt
  | x :: xs => fun s => match seqS (g x) body s with
    | .nx s' => forL g body xs s'
    | .ct s' => forL g body xs s'
    | .bk s' => .nx s'
    | r => r
def whileL (c : M Bool) (body : S) : Nat → S
  | 0 => fun _ => .stuck
  | n + 1 => bndS c fun t => if t = true then (fun s => match body s with
    | .nx s' => whileL c body n s'
    | .ct s' => whileL c body n s'
    | .bk s' => .nx s'
    | r => r) else nxt

section
variable (X : Cx) (B : Ent) (W : WX)
def AtS (h : S) (w : Wd) (σ : L2.St) (H : Hp) (D : Ends) : Prop := RelW X B w σ H ∧ match h w.s with
  | .nx s' => ∀ σ' w' H', w'.s = s' → Step X B w H w' σ' H' → D.nx σ' H'
  | .rt d s' => ∀ v σ' w' H', w'.s = s' → Step X B w H w' σ' H' → Rep X.K w'.g H' d v → D.rt v H'
  | .bk s' => ∀ σ' w' H', w'.s = s' → Step X B w H w' σ' H' → D.bk σ' H'
  | .ct s' => ∀ σ' w' H', w'.s = s' → Step X B w H w' σ' H' → D.ct σ' H'
  | .exc n s' => ∀ Cl σ' w' H', w'.s = s' → X.mg n = some (.ref Cl) → Step X B w H w' σ' H' → W (.ref Cl) none σ' H'
  | .stuck => False
def TSt (h : S) : TS := fun D σ H => ∃ w, AtS X B W h w σ H D
structure ES (st : Stmt) (h : S) : Prop where
  h : PS X st (TSt X B W h)
structure ESs (sts : List Stmt) (h : S) : Prop where
  h : PSs X sts (TSt X B W h)
end
section
variable {X : Cx} {B : Ent} {W : WX} {w w1 : Wd} {σ σ1 : L2.St} {H H1 : Hp} {D D' : Ends} {h h1 h2 : S} {α β : Type}
/-- what an end wants, from a later world too -/
theorem AtS.later (st : Step X B w H w1 σ1 H1) {k : S} {s1 : FSt} (es : w1.s = s1) (hq : match k s1 with
  | .nx s' => ∀ σ' w' H', w'.s = s' → Step X B w H w' σ' H' → D.nx σ' H'
  | .rt d s' => ∀ v σ' w' H', w'.s = s' → Step X B w H w' σ' H' → Rep X.K w'.g H' d v → D.rt v H'
  | .bk s' => ∀ σ' w' H', w'.s = s' → Step X B w H w' σ' H' → D.bk σ' H'
  | .ct s' => ∀ σ' w' H', w'.s = s' → Step X B w H w' σ' H' → D.ct σ' H'
  | .exc n s' => ∀ Cl σ' w' H', w'.s = s' → X.mg n = some (.ref Cl) → Step X B w H w' σ' H' → W (.ref Cl) none σ' H'
  | .stuck => False) : AtS X B W k w1 σ1 H1 D := by
  refine ⟨st.rel, ?_⟩
  subst es
  cases e : k w1.s with
  | nx s' => rw [e] at hq; exact fun σ' w' H' q st' => hq σ' w' H' q (st.trans st')
  | rt d s' => rw [e] at hq; exact fun v σ' w' H' q st' r => hq v σ' w' H' q (st.trans st') r
  | bk s' => rw [e] at hq; exact fun σ' w' H' q st' => hq σ' w' H' q (st.trans st')
  | ct s' => rw [e] at hq; exact fun σ' w' H' q st' => hq σ' w' H' q (st.trans st')
  | exc n s' => rw [e] at hq; exact fun Cl σ' w' H' q m st' => hq Cl σ' w' H' q m (st.trans st')
  | stuck => rw [e] at hq; exact hq
theorem AtS.bnd {m : M α} {k : α → S} {R1 : α → β → Wd → Hp → Prop} {Q1 : β → Hp → Prop} (h : AtS X B W (bndS m k) w σ H D)
    (next : ∀ a b w1 H1, Step X B w H w1 σ H1 → R1 a b w1 H1 → AtS X B W (k a) w1 σ H1 D → Q1 b H1) : At X B W R1 m w σ H Q1 := by
  obtain ⟨R0, h⟩ := h
  refine ⟨R0, ?_⟩
  unfold bndS at h
  cases e : m w.s with
  | ok a s1 =>
    rw [e] at h
    exact fun b w1 H1 es st r => next a b w1 H1 st r (AtS.later st es h)
  | exc n s1 =>
    rw [e] at h
    exact fun Cl w' H' es hm st => h Cl σ w' H' es hm st
  | stuck =>
    rw [e] at h
    exact h
theorem AtS.seq (h : AtS X B W (seqS h1 h2) w σ H D) (next : ∀ σ1 w1 H1, Step X B w H w1 σ1 H1 → AtS X B W h2 w1 σ1 H1 D → D'.nx σ1 H1) (e1 : D'.rt = D.rt) (e2 : D'.bk = D.bk) (e3 : D'.ct = D.ct) : AtS X B W h1 w σ H D' := by
  obtain ⟨R0, h⟩ := h
  refine ⟨R0, ?_⟩
  unfold seqS at h
  cases e : h1 w.s with
  | nx s1 =>
    rw [e] at h
    exact fun σ' w' H' q st => next σ' w' H' st (AtS.later st q h)
  | rt d s' => rw [e] at h; rw [e1]; exact h
  | bk s' => rw [e] at h; rw [e2]; exact h
  | ct s' => rw [e] at h; rw [e3]; exact h
  | exc n s' => rw [e] at h; exact h
  | stuck => rw [e] at h; exact h
theorem AtS.nxt (h : AtS X B W Ev.nxt w σ H D) : RelW X B w σ H ∧ D.nx σ H := ⟨h.1, h.2 σ w H rfl (.refl h.1)⟩

/-! ### blocks -/
variable {st : Stmt} {rest : List Stmt} {pos : Pos} {p : Bool} {e : Expr} {f : M _root_.Ev.D}
theorem ess_nil : ESs X B W [] nxt := ⟨pss_nil.weak fun D σ H ⟨w, h⟩ => h.nxt.2⟩
theorem ess_cons (a : ES X B W st h1) (b : ESs X B W rest h2) : ESs X B W (st :: rest) (seqS h1 h2) := ⟨(pss_cons a.h b.h).weak fun D σ H ⟨w, h⟩ => ⟨w, h.seq (D' := { D with nx := TSt X B W h2 D }) (fun σ1 w1 H1 st q => ⟨w1, q⟩) rfl rfl rfl⟩⟩
theorem ess_one (a : ES X B W st h1) : ESs X B W [st] h1 := ⟨pss_one a.h⟩
theorem es_pass : ES X B W (.Pass pos) nxt := ⟨ps_pass.weak fun D σ H ⟨w, h⟩ => h.nxt.2⟩
theorem es_break : ES X B W (.Break pos) brk := ⟨ps_break.weak fun D σ H ⟨w, h⟩ => h.2 σ w H rfl (.refl h.1)⟩
theorem es_continue : ES X B W (.Continue pos) cnt := ⟨ps_continue.weak fun D σ H ⟨w, h⟩ => h.2 σ w H rfl (.refl h.1)⟩
theorem es_ret (he : EF X B W p e f) : ES X B W (.Return (some e) pos) (retS f) := ⟨(ps_ret he.h).weak fun D σ H ⟨w, h⟩ => ⟨w, h.bnd fun d v w1 H1 st r h1 => by
  exact h1.2 v σ w1 H1 rfl (.refl h1.1) r.1⟩⟩
theorem es_retN : ES X B W (.Return none pos) retN := ⟨ps_retN.weak fun D σ H ⟨w, h⟩ => h.2 .non σ w H rfl (.refl h.1) (by unfold Rep; rfl)⟩
theorem es_expr (he : EF X B W p e f) (hs : swapsWith e none pos.line X.env = pure false := by rfl) : ES X B W (.Expr e pos) (drpS f) := ⟨(ps_expr he.h hs).weak fun D σ H ⟨w, h⟩ => ⟨w, h.bnd fun d v w1 H1 st r h1 => h1.nxt.2⟩⟩
theorem es_doc {x : Str} {j : Nat} {pos' : Pos} : ES X B W (.Expr (.Constant (.str x) j pos) pos') nxt := ⟨ps_doc.weak fun D σ H ⟨w, h⟩ => h.nxt.2⟩
theorem es_if {c : Expr} {t : M Bool} {a b : List Stmt} (hc : ET X B W p c t) (ha : ESs X B W a h1) (hb : ESs X B W b h2) : ES X B W (.If c a b pos) (iteS t h1 h2) := ⟨(ps_if hc.h ha.h hb.h).weak fun D σ H ⟨w, h⟩ => ⟨w, h.bnd fun t v w1 H1 st r q => by
  obtain ⟨e, _⟩ := r
  subst e
  cases t with
  | true => rw [if_pos rfl] at q ⊢; exact ⟨w1, q⟩
  | false => rw [if_neg Bool.false_ne_true] at q ⊢; exact ⟨w1, q⟩⟩⟩

/-! ### stores to names -/
theorem RepC.nodup {K : PySem.W.Frag} {g : G} {c : C} {v : V} {fr : List Addr} (h : RepC K g H c v fr) : fr.Nodup := by
  cases c with
  | val d => rw [h.2]; simp
  | lst xs => obtain ⟨a, vs, _, _, _, e⟩ := h; rw [e]; simp
  | dct xs => obtain ⟨a, vs, _, _, _, e⟩ := h; rw [e]; simp
theorem RepS.set {K : PySem.W.Frag} {g : G} {c : C} {u : V} {fr : List Addr} (r : RepC K g H c u fr) : ∀ {cs : List (Option C)} {σ : L2.St} {f : List Addr} (i : Nat), RepS K g H cs σ f →
    ∃ f', RepS K g H (cs.set i (some c)) (σ.set i (some u)) f' ∧ (∀ a ∈ f', a ∈ fr ∨ a ∈ f) ∧ ∀ e : List Addr, (f ++ e).Nodup → (∀ a ∈ fr, a ∉ f ++ e) → (f' ++ e).Nodup
  | [], σ, f, i, h => by
    obtain ⟨e1, e2⟩ := h
    subst e1 e2
    exact ⟨[], by simp [RepS], by simp, fun e h _ => h⟩
  | x :: cs, σ, f, 0, h => by
    unfold RepS at h
    obtain ⟨v, ws, g1, g2, e1, e2, r1, rs⟩ := h
    subst e1 e2
    refine ⟨fr ++ g2, ?_, fun a q => ?_, fun e hn hd => ?_⟩
    · show RepS K g H (some c :: cs) (some u :: ws) _
      unfold RepS
      exact ⟨_, _, fr, g2, rfl, rfl, ⟨u, rfl, r⟩, rs⟩
    · rcases List.mem_append.mp q with q | q
      · exact .inl q
      · exact .inr (List.mem_append_right _ q)
    · rw [List.append_assoc] at hn ⊢
      rw [List.nodup_append] at hn ⊢
      refine ⟨r.nodup, hn.2.1, fun a ha b hb e => ?_⟩
      subst e
      refine hd a ha ?_
      rw [List.append_assoc]
      exact List.mem_append_right _ hb
  | x :: cs, σ, f, i + 1, h => by
    unfold RepS at h
    obtain ⟨v, ws, g1, g2, e1, e2, r1, rs⟩ := h
    subst e1 e2
    obtain ⟨f', q1, q2, q3⟩ := RepS.set r i rs
    refine ⟨g1 ++ f', ?_, fun a q => ?_, fun e hn hd => ?_⟩
    · show RepS K g H (x :: cs.set i (some c)) (v :: ws.set i (some u)) _
      unfold RepS
      exact ⟨_, _, g1, f', rfl, rfl, r1, q1⟩
    · rcases List.mem_append.mp q with q | q
      · exact .inr (List.mem_append_left _ q)
      · exact (q2 a q).imp id (List.mem_append_right _)
    · rw [List.append_assoc] at hn ⊢
      rw [List.nodup_append] at hn ⊢
      obtain ⟨n1, n2, n3⟩ := hn
      refine ⟨n1, q3 e n2 fun a ha z => hd a ha (by rw [List.append_assoc]; exact List.mem_append_right _ z), fun a ha b hb e' => ?_⟩
      subst e'
      rcases List.mem_append.mp hb with hb | hb
      · rcases q2 a hb with z | z
        · exact hd a z (by rw [List.append_assoc]; exact List.mem_append_left _ ha)
        · exact n3 a ha a (List.mem_append_left _ z) rfl
      · exact n3 a ha a (List.mem_append_right _ hb) rfl
/-- a cell into a slot -/
theorem Rel.put {c : C} {u : V} {fr : List Addr} (R : RelW X B w σ H) (r : RepC X.K w.g H c u fr) (hf : ∀ a ∈ fr, a ∉ w.f ∧ ¬ w.g.Z a ∧ (a ∈ B.F ∨ B.H a = none)) (i : Nat) :
    ∃ f1', RelW X B { w with s := w.s.put i c, f1 := f1' } (σ.set i (some u)) H ∧ ∀ a ∈ f1', a ∈ fr ∨ a ∈ w.f1 := by
  obtain ⟨f', q1, q2, q3⟩ := RepS.set r i R.sl
  refine ⟨f', ⟨q1, R.st, q3 _ R.nd fun a q => (hf a q).1, fun a q z => ?_, R.zd, R.ex, fun a q => ?_⟩, q2⟩
  · rcases List.mem_append.mp q with q | q
    · rcases q2 a q with q | q
      · exact (hf a q).2.1 z
      · exact R.nz a (List.mem_append_left _ q) z
    · exact R.nz a (List.mem_append_right _ q) z
  · rcases List.mem_append.mp q with q | q
    · rcases q2 a q with q | q
      · exact (hf a q).2.2
      · exact R.ow a (List.mem_append_left _ q)
    · exact R.ow a (List.mem_append_right _ q)
/-- .. as a step from w -/
theorem Step.put {c : C} {u : V} {fr : List Addr} (a : Step X B w H w1 σ1 H1) (r : RepC X.K w1.g H1 c u fr) (hf : ∀ a ∈ fr, a ∉ w1.f ∧ ¬ w1.g.Z a ∧ (a ∈ B.F ∨ B.H a = none)) (hs : Sub w.f H fr) (i : Nat) :
    ∃ f1', Step X B w H { w1 with s := w1.s.put i c, f1 := f1' } (σ1.set i (some u)) H1 := by
  obtain ⟨f1', R, q⟩ := Rel.put a.rel r hf i
  refine ⟨f1', R, a.ext, fun x z => ?_⟩
  rcases List.mem_append.mp z with z | z
  · rcases q x z with z | z
    · exact hs x z
    · exact a.sub x (List.mem_append_left _ z)
  · exact a.sub x (List.mem_append_right _ z)
theorem AtS.bnd2 {m : M α} {k : α → S} {R1 : α → β → Wd → Hp → Prop} {Q1 : β → Hp → Prop} (h : AtS X B W (bndS m k) w σ H D)
    (next : ∀ a b w1 H1 s1, w1.s = s1 → Step X B w H w1 σ H1 → R1 a b w1 H1 → (match k a s1 with
      | .nx s' => ∀ σ' w' H', w'.s = s' → Step X B w H w' σ' H' → D.nx σ' H'
      | .rt d s' => ∀ v σ' w' H', w'.s = s' → Step X B w H w' σ' H' → Rep X.K w'.g H' d v → D.rt v H'
      | .bk s' => ∀ σ' w' H', w'.s = s' → Step X B w H w' σ' H' → D.bk σ' H'
      | .ct s' => ∀ σ' w' H', w'.s = s' → Step X B w H w' σ' H' → D.ct σ' H'
      | .exc n s' => ∀ Cl σ' w' H', w'.s = s' → X.mg n = some (.ref Cl) → Step X B w H w' σ' H' → W (.ref Cl) none σ' H'
      | .stuck => False) → Q1 b H1) : At X B W R1 m w σ H Q1 := by
  obtain ⟨R0, h⟩ := h
  refine ⟨R0, ?_⟩
  unfold bndS at h
  cases e : m w.s with
  | ok a s1 =>
    rw [e] at h
    exact fun b w1 H1 es st r => next a b w1 H1 s1 es st r h
  | exc n s1 =>
    rw [e] at h
    exact fun Cl w' H' es hm st => h Cl σ w' H' es hm st
  | stuck =>
    rw [e] at h
    exact h
section
variable {i : Nat} {n : Str} {pos' : Pos} {fc : M C}
theorem es_setF (hN : X.N.Nodup) (he : EF X B W p e f) (hi : X.N[i]? = some n := by rfl) (hx : Loc X.env.scope n := by first | exact Or.inl rfl | exact Or.inr rfl) (hs : swapsWith e (some (.Name n pos')) pos.line X.env = pure false := by rfl)
    (hf : X.fn n = true ∨ X.env.scope.names.lookup n = some .local := by first | exact .inl rfl | exact .inr rfl) : ES X B W (.Assign [.Name n pos'] e pos) (setF i f) :=
  ⟨(ps_set hN hi hx he.h hs hf).weak fun D σ H ⟨w, h⟩ => ⟨w, h.bnd fun d v w1 H1 st r h1 => by
    obtain ⟨f1', st'⟩ := Step.put (Step.refl h1.1) (c := .val d) (u := v) (fr := []) ⟨r.1, rfl⟩ (by simp) (fun a q => by simp at q) i
    exact h1.2 _ _ _ rfl st'⟩⟩
theorem es_setC (hN : X.N.Nodup) (he : EG X B W p e fc) (hi : X.N[i]? = some n := by rfl) (hx : Loc X.env.scope n := by first | exact Or.inl rfl | exact Or.inr rfl) (hs : swapsWith e (some (.Name n pos')) pos.line X.env = pure false := by rfl)
    (hf : X.fn n = true ∨ X.env.scope.names.lookup n = some .local := by first | exact .inl rfl | exact .inr rfl) : ES X B W (.Assign [.Name n pos'] e pos) (setC i fc) :=
  ⟨(ps_set hN hi hx he.h hs hf).weak fun D σ H ⟨w, h⟩ => ⟨w, h.bnd2 fun c v w1 H1 s1 es st ⟨fr, r, hn, hsub, _⟩ h1 => by
    obtain ⟨f1', st'⟩ := Step.put st r hn hsub i
    exact h1 _ _ _ (by rw [es]) st'⟩⟩
end
end
end Ev

namespace Ev
open PySem PySem.Spec PyProof.Rows L2

def D.items : D → Option (List D)
  | .lst xs => some xs
  | .tup xs => some xs
  | _ => none
def tupItems : D → Option (List D)
  | .tup xs => some xs
  | _ => none
/-- storing to several targets -/
def gsS : List (D → S) → List D → S
  | [], [] => nxt
  | g :: gs, x :: xs => seqS (g x) (gsS gs xs)
  | _, _ => fun _ => .stuck
def gTupS (gs : List (D → S)) : D → S := fun d => match tupItems d with
  | some xs => gsS gs xs
  | none => fun _ => .stuck
def gNameS (i : Nat) : D → S := fun d s => .nx (s.put i (.val d))
def asgS (m : M D) (g : D → S) : S := bndS m g
def forS (m : M D) (g : D → S) (body : S) : S := bndS m fun d => match d.items with
  | some xs => forL g body xs
  | none => fun _ => .stuck
/-- over a range lo .. hi - 1 -/
def rngD (lo hi : Int) : List D := (List.range (hi - lo).toNat).map fun (k : Nat) => D.int (lo + k)
def rngC (d : D) : Option (Int × Int) := match d with
  | .int n => if -(2 ^ 62) ≤ n ∧ n < 2 ^ 62 then some (0, n) else none
  | _ => none
def rngC2 (d e : D) : Option (Int × Int) := match d, e with
  | .int i, .int n => if (-(2 ^ 62) ≤ i ∧ i < 2 ^ 62) ∧ -(2 ^ 62) ≤ n ∧ n < 2 ^ 62 then some (i, n) else none
  | _, _ => none
def forR (m : M (Int × Int)) (g : D → S) (body : S) : S := bndS m fun r => forL g body (rngD r.1 r.2)
def fuel : Nat := 10 ^ 9
def whileS (c : M Bool) (body : S) : S := whileL c body fuel

section
variable (X : Cx) (B : Ent) (W : WX)
abbrev TGt (g : D → S) : L2.TG := fun v σ H Q => ∃ d w, Rep X.K w.g H d v ∧ AtS X B W (g d) w σ H { nx := Q, rt := fun _ _ => False }
structure EPt (target : Expr) (g : D → S) : Prop where
  h : PG X target (TGt X B W g)
  nr : ∀ d s, (∃ s', g d s = .nx s') ∨ g d s = .stuck
structure EPts (targets : List Expr) (gs : List (D → S)) : Prop where
  h : PGs X targets (fun vs σ H Q => ∃ ds w, RepL X.K w.g H ds vs ∧ AtS X B W (gsS gs ds) w σ H { nx := Q, rt := fun _ _ => False })
  nr : ∀ g ∈ gs, ∀ d s, (∃ s', g d s = .nx s') ∨ g d s = .stuck
end
section
variable {X : Cx} {B : Ent} {W : WX} {w w1 : Wd} {σ σ1 : L2.St} {H H1 : Hp} {D D' : Ends} {h h1 h2 : S} {α β : Type} {p p1 p2 b1 b2 : Bool} {pos pp : Pos} {e a eb : Expr} {f f1 f2 : M Ev.D}
theorem gs_nr : ∀ {gs : List (Ev.D → S)}, (∀ g ∈ gs, ∀ d s, (∃ s', g d s = .nx s') ∨ g d s = .stuck) → ∀ ds s, (∃ s', gsS gs ds s = .nx s') ∨ gsS gs ds s = .stuck
  | [], _, [], s => .inl ⟨s, rfl⟩
  | [], _, _ :: _, s => .inr rfl
  | _ :: _, _, [], s => .inr rfl
  | g :: gs, h, x :: xs, s => by
    show (∃ s', seqS (g x) (gsS gs xs) s = .nx s') ∨ seqS (g x) (gsS gs xs) s = .stuck
    unfold seqS
    rcases h g (by simp) x s with ⟨s', q⟩ | q
    · rw [q]
      exact gs_nr (fun g' z => h g' (by simp [z])) xs s'
    · rw [q]; exact .inr rfl
theorem gs_len : ∀ {gs : List (Ev.D → S)}, (∀ g ∈ gs, ∀ d s, (∃ s', g d s = .nx s') ∨ g d s = .stuck) → ∀ ds s, gsS gs ds s ≠ .stuck → ds.length = gs.length
  | [], _, [], s, _ => rfl
  | [], _, _ :: _, s, h => absurd rfl h
  | _ :: _, _, [], s, h => absurd rfl h
  | g :: gs, h, x :: xs, s, hn => by
    have hn : seqS (g x) (gsS gs xs) s ≠ .stuck := hn
    unfold seqS at hn
    rcases h g (by simp) x s with ⟨s', q⟩ | q
    · rw [q] at hn
      rw [List.length_cons, List.length_cons, gs_len (fun g' z => h g' (by simp [z])) xs s' hn]
    · rw [q] at hn; exact absurd rfl hn
theorem ept_name {i : Nat} {n : Str} (hN : X.N.Nodup) (hi : X.N[i]? = some n := by rfl) (hx : Loc X.env.scope n := by first | exact Or.inl rfl | exact Or.inr rfl)
    (hf : X.fn n = true ∨ X.env.scope.names.lookup n = some .local := by first | exact .inl rfl | exact .inr rfl) : EPt X B W (.Name n pos) (gNameS i) where
  h := by
    refine ⟨fun pins s σ H v u Q I r ⟨d, w, rp, h⟩ => (pg_name hN hi hx hf).run pins s σ H v u Q I r ?_⟩
    obtain ⟨f1', st⟩ := Step.put (Step.refl h.1) (c := .val d) (u := v) (fr := []) ⟨rp, rfl⟩ (by simp) (fun a q => by simp at q) i
    exact h.2 _ _ _ rfl st
  nr := fun d s => .inl ⟨_, rfl⟩
theorem epts_nil : EPts X B W [] [] where
  h := ⟨fun pins s σ H vs us Q I r ⟨ds, w, rp, h⟩ => pgs_nil.run pins s σ H vs us Q I r (by
    cases ds with
    | nil =>
      unfold RepL at rp
      exact ⟨rp, h.nxt.2⟩
    | cons d ds => exact h.2.elim)⟩
  nr := by simp
theorem epts_cons {g : Ev.D → S} {gs : List (Ev.D → S)} {es : List Expr} (a : EPt X B W e g) (b : EPts X B W es gs) (hs : (assignEach (e :: es) X.env).map (·.2) = assign e X.env :: (assignEach es X.env).map (·.2) := by rfl) : EPts X B W (e :: es) (g :: gs) where
  h := ⟨fun pins s σ H vs us Q I r ⟨ds, w, rp, h⟩ => (pgs_cons a.h b.h hs).run pins s σ H vs us Q I r (by
    cases ds with
    | nil => exact h.2.elim
    | cons d ds =>
      unfold RepL at rp
      obtain ⟨v, ws, e1, r1, rs⟩ := rp
      subst e1
      refine ⟨v, ws, rfl, d, w, r1, ?_⟩
      have h : AtS X B W (seqS (g d) (gsS gs ds)) w σ H { nx := Q, rt := fun _ _ => False } := h
      exact h.seq (fun σ1 w1 H1 st q => ⟨ds, w1, RepL.ext st.ext h.1.zf ds rs, q⟩) rfl rfl rfl)⟩
  nr := fun g' z => by
    rcases List.mem_cons.mp z with z | z
    · rw [z]; exact a.nr
    · exact b.nr g' z
theorem ept_tup {es : List Expr} {k : Nat} {gs : List (Ev.D → S)} {n : Nat} (hc : X.calm = true) (b : EPts X B W es gs) (hn : (assignEach es X.env).length = n := by rfl) (hst : (assignEach es X.env).findIdx? (·.1) = none := by rfl)
    (hl : gs.length = n := by rfl) : EPt X B W (.Tuple es k pos) (gTupS gs) where
  h := ⟨fun pins s σ H v u Q I r ⟨d, w, rp, h⟩ => (pg_tup hc b.h hn hst).run pins s σ H v u Q I r (by
    cases d with
    | tup xs =>
      have h : AtS X B W (gsS gs xs) w σ H { nx := Q, rt := fun _ _ => False } := h
      unfold Rep at rp
      obtain ⟨a, vs, e1, ft, rl⟩ := rp
      refine ⟨a, vs, e1, ft.1, ?_, xs, w, rl, h⟩
      rw [RepL.len _ rl, ← hl]
      refine gs_len b.nr xs w.s fun z => ?_
      have q := h.2
      rw [z] at q
      exact q
    | _ => exact h.2.elim)⟩
  nr := fun d s => by
    unfold gTupS
    cases tupItems d with
    | none => exact .inr rfl
    | some xs => exact gs_nr b.nr xs s
theorem es_asg {g : Ev.D → S} {tg : Expr} (he : EF X B W p e f) (hg : EPt X B W tg g) (hs : swapsWithSole [tg] e pos.line X.env = pure false := by rfl) (hw : swappedStores [tg] e X.env = pure none := by rfl)
    (h1 : (assignEach [tg] X.env).map (·.2) = [assign tg X.env] := by rfl) : ES X B W (.Assign [tg] e pos) (asgS f g) :=
  ⟨(ps_asg he.h hg.h hs hw h1).weak fun D σ H ⟨w, h⟩ => ⟨w, h.bnd fun d v w1 H1 st r q => ⟨d, w1, r.1, q.1, by
    have q := q.2
    rcases hg.nr d w1.s with ⟨s', e⟩ | e
    · rw [e] at q ⊢; exact q
    · rw [e] at q; exact q.elim⟩⟩⟩

/-! ### for -/
/-- a list or a tuple, walked -/
def iSeq (K : PySem.W.Frag) (tl : TE) : TI := fun σ H R => tl σ H fun x H1 => ∃ a, x = .ref a ∧ (((∃ xs, SqL K H1 a xs) ∧ R (Itl K a) H1) ∨ ((∃ xs, SqT K H1 a xs) ∧ R (Itt K a) H1))
theorem pi_seq {tg l : Expr} {tl : TE} (hl : PE X l tl) : PI X tg l (iSeq X.K tl) := by
  refine ⟨fun pins s σ H R I h => thn (hl.run pins s σ H _ I h) fun v s1 ⟨x, H1, I1, r1, a, e, q⟩ => ?_⟩
  have one : PE X l (fun _ _ Q => True) → True := fun _ => trivial
  subst e
  cases r1
  rcases q with ⟨⟨xs, hq⟩, q⟩ | ⟨⟨xs, hq⟩, q⟩
  · obtain ⟨its, rv, pl, hz⟩ := I1.list hq
    refine wpAny_pyIter_list pl.isList ⟨s1.heap.objs.size, [s1.heap.objs.size], _, _, H1, rfl, I1.kept (t' := s1.toks) (fun b o e => Heap.get?_push_of_some _ e), turn_list a _, ⟨_, Heap.get?_push_size _ rfl, rfl, rfl⟩, fun b hb => ?_, q⟩
    rw [List.mem_singleton.mp hb]
    exact I1.fpOk (Nat.le_refl _) (I1.hok.fresh (Nat.le_refl _))
  · obtain ⟨its, rv, pl, hz⟩ := I1.tuple hq
    refine wpAny_pyIter_tuple (show s1.heap.IsTuple a its.toArray from pl) ⟨s1.heap.objs.size, [s1.heap.objs.size], _, _, H1, rfl, I1.kept (t' := s1.toks) (fun b o e => Heap.get?_push_of_some _ e), turn_tuple a _, ⟨_, Heap.get?_push_size _ rfl, rfl, rfl⟩, fun b hb => ?_, q⟩
    rw [List.mem_singleton.mp hb]
    exact I1.fpOk (Nat.le_refl _) (I1.hok.fresh (Nat.le_refl _))
/-- a loop's next turn -/
theorem AtS.forCons {g : Ev.D → S} {body : S} {x : Ev.D} {xs : List Ev.D} (hg : ∀ d s, (∃ s', g d s = .nx s') ∨ g d s = .stuck) (h : AtS X B W (forL g body (x :: xs)) w σ H D) :
    AtS X B W (g x) w σ H { nx := fun σ1 H1 => ∃ w1, Step X B w H w1 σ1 H1 ∧ AtS X B W body w1 σ1 H1 { D with nx := (fun σ2 H2 => ∃ w2, Step X B w H w2 σ2 H2 ∧ AtS X B W (forL g body xs) w2 σ2 H2 D), ct := (fun σ2 H2 => ∃ w2, Step X B w H w2 σ2 H2 ∧ AtS X B W (forL g body xs) w2 σ2 H2 D), bk := D.nx }, rt := fun _ _ => False } := by
  obtain ⟨R, q⟩ := h
  refine ⟨R, ?_⟩
  unfold forL seqS at q
  rcases hg x w.s with ⟨s1, e⟩ | e
  · rw [e] at q ⊢
    refine fun σ1 w1 H1 es st => ⟨w1, st, st.rel, ?_⟩
    subst es
    simp only at q
    cases eb : body w1.s with
    | nx s2 => rw [eb] at q; exact fun σ2 w2 H2 es2 st2 => ⟨w2, st.trans st2, AtS.later (st.trans st2) es2 q⟩
    | ct s2 => rw [eb] at q; exact fun σ2 w2 H2 es2 st2 => ⟨w2, st.trans st2, AtS.later (st.trans st2) es2 q⟩
    | bk s2 => rw [eb] at q; exact fun σ2 w2 H2 es2 st2 => q σ2 w2 H2 es2 (st.trans st2)
    | rt d s2 => rw [eb] at q; exact fun v σ2 w2 H2 es2 st2 r => q v σ2 w2 H2 es2 (st.trans st2) r
    | exc n s2 => rw [eb] at q; exact fun Cl σ2 w2 H2 es2 hm st2 => q Cl σ2 w2 H2 es2 hm (st.trans st2)
    | stuck => rw [eb] at q; exact q
  · rw [e] at q; exact q.elim
/-- what a for wants, over items that stand -/
theorem for_items {g : Ev.D → S} {body : S} {tg : L2.TG} {tb : TS} {J : It} {xs : List Ev.D} {vs : List V} (hg : ∀ d s, (∃ s', g d s = .nx s') ∨ g d s = .stuck) (hlen : vs.length = xs.length)
    (stop : ∀ σ1 w1 H1, Step X B w H w1 σ1 H1 → J.stop xs.length H1) (go : ∀ i σ1 w1 H1, Step X B w H w1 σ1 H1 → i < xs.length → J.go i H1)
    (yld : ∀ i σ1 w1 H1 v H2, Step X B w H w1 σ1 H1 → i < xs.length → J.yld i H1 v H2 → ∃ d g2, xs[i]? = some d ∧ New w1.g H1 g2 H2 ∧ Rep X.K g2 H2 d v)
    (ht : ∀ v σ H Q d w, Rep X.K w.g H d v → AtS X B W (g d) w σ H { nx := Q, rt := fun _ _ => False } → tg v σ H Q) (hb : ∀ D σ H w, AtS X B W body w σ H D → tb D σ H)
    (h : AtS X B W (forL g body xs) w σ H D) : ∃ W' : Nat → Nat → L2.St → Hp → Prop, (∃ m, W' 0 m σ H) ∧ ∀ i m σ H, W' i m σ H →
      (J.stop i H ∧ D.nx σ H) ∨ (J.go i H ∧ ∃ N : L2.St → Hp → Prop, (∀ σ' H', N σ' H' → ∃ m', m' < m ∧ W' (i + 1) m' σ' H') ∧ ∀ x H', J.yld i H x H' → tg x σ H' fun σ2 H2 => tb { D with nx := N, ct := N, bk := D.nx } σ2 H2) := by
  refine ⟨fun i m σ1 H1 => m = xs.length - i ∧ i ≤ xs.length ∧ ∃ w1, Step X B w H w1 σ1 H1 ∧ AtS X B W (forL g body (xs.drop i)) w1 σ1 H1 D, ⟨xs.length, by simp, Nat.zero_le _, w, .refl h.1, by simpa using h⟩, ?_⟩
  rintro i m σ1 H1 ⟨rfl, hi, w1, st, h1⟩
  by_cases hlt : i < xs.length
  · refine .inr ⟨go i σ1 w1 H1 st hlt, fun σ2 H2 => ∃ w2, Step X B w H w2 σ2 H2 ∧ AtS X B W (forL g body (xs.drop (i + 1))) w2 σ2 H2 D, fun σ2 H2 ⟨w2, st2, q⟩ => ⟨xs.length - (i + 1), by omega, rfl, hlt, w2, st2, q⟩, fun v H2 hy => ?_⟩
    obtain ⟨d, g2, hd, n, rp⟩ := yld i σ1 w1 H1 v H2 st hlt hy
    have ed : xs.drop i = d :: xs.drop (i + 1) := by
      rw [List.drop_eq_getElem_cons hlt]
      rw [List.getElem?_eq_getElem hlt] at hd
      rw [Option.some.inj hd]
    rw [ed] at h1
    have st1 : Step X B w1 H1 { w1 with g := g2 } σ1 H2 := .new h1.1 n
    have h2 : AtS X B W (forL g body (d :: xs.drop (i + 1))) { w1 with g := g2 } σ1 H2 D := AtS.later st1 rfl h1.2
    have h3 := AtS.forCons hg h2
    refine ht v σ1 H2 _ d { w1 with g := g2 } rp ⟨h3.1, ?_⟩
    have q3 := h3.2
    rcases hg d w1.s with ⟨s', e⟩ | e
    · rw [e] at q3 ⊢
      refine fun σ3 w3 H3 es3 st3 => ?_
      obtain ⟨w4, st4, q4⟩ := q3 σ3 w3 H3 es3 st3
      refine hb _ σ3 H3 w4 ⟨q4.1, ?_⟩
      have q5 := q4.2
      cases eb : body w4.s with
      | nx s' =>
        rw [eb] at q5
        exact fun σ' w' H' es st' => let ⟨w2, s2, a2⟩ := q5 σ' w' H' es st'; ⟨w2, (st.trans st1).trans s2, a2⟩
      | ct s' =>
        rw [eb] at q5
        exact fun σ' w' H' es st' => let ⟨w2, s2, a2⟩ := q5 σ' w' H' es st'; ⟨w2, (st.trans st1).trans s2, a2⟩
      | bk s' => rw [eb] at q5; exact q5
      | rt d s' => rw [eb] at q5; exact q5
      | exc n s' => rw [eb] at q5; exact q5
      | stuck => rw [eb] at q5; exact q5
    · rw [e] at q3; exact q3.elim
  · have ei : i = xs.length := by omega
    subst ei
    rw [List.drop_length] at h1
    exact .inl ⟨stop σ1 w1 H1 st, h1.nxt.2⟩
theorem es_for {g : Ev.D → S} {body : List Stmt} {iter tg : Expr} (hp : PassesOwn (model X.prog X.w) X.A X.env X.xe) (hc : X.calm = true) (hi : EF X B W p iter f) (hg : EPt X B W tg g) (hb : ESs X B W body h)
    (hs : ∀ x, foldedSetIterable iter X.env x = pure x := by intro _; rfl) : ES X B W (.For tg iter body [] pos) (forS f g h) := ⟨(ps_for hp hc (pi_seq hi.h) hg.h hb.h hs).weak fun D σ H ⟨w, q⟩ => ⟨w, q.bnd fun d v w1 H1 st r q1 => by
  cases d with
  | lst xs =>
    have q1 : AtS X B W (forL g h xs) w1 σ H1 D := q1
    have rp := r.1
    unfold Rep at rp
    obtain ⟨a, vs, e1, fl, rl⟩ := rp
    refine ⟨a, e1, .inl ⟨⟨vs, fl.1⟩, for_items (J := Itl X.K a) (tg := TGt X B W g) (tb := TSt X B W h) hg.nr (RepL.len _ rl) (fun σ2 w2 H2 s2 => ?_) (fun i σ2 w2 H2 s2 hlt => ?_) (fun i σ2 w2 H2 v' H3 s2 hlt hy => ?_) (fun v σ H Q d w rp h => ⟨d, w, rp, h⟩) (fun D σ H w h => ⟨w, h⟩) q1⟩⟩
    · exact ⟨vs, (fl.ext s2.ext q1.1.zf).1, by rw [RepL.len _ rl]; exact Nat.le_refl _⟩
    · have : i < vs.length := by rw [RepL.len _ rl]; exact hlt
      exact ⟨vs, vs[i], (fl.ext s2.ext q1.1.zf).1, List.getElem?_eq_getElem this⟩
    · obtain ⟨e2, hv⟩ := hy
      subst e2
      obtain ⟨u, hu, ru⟩ := RepL.get xs (RepL.ext s2.ext q1.1.zf xs rl) (List.getElem?_eq_getElem hlt)
      rw [hv vs (fl.ext s2.ext q1.1.zf).1] at hu
      cases hu
      exact ⟨_, w2.g, List.getElem?_eq_getElem hlt, .refl _ _, ru⟩
  | tup xs =>
    have q1 : AtS X B W (forL g h xs) w1 σ H1 D := q1
    have rp := r.1
    unfold Rep at rp
    obtain ⟨a, vs, e1, fl, rl⟩ := rp
    refine ⟨a, e1, .inr ⟨⟨vs, fl.1⟩, for_items (J := Itt X.K a) (tg := TGt X B W g) (tb := TSt X B W h) hg.nr (RepL.len _ rl) (fun σ2 w2 H2 s2 => ?_) (fun i σ2 w2 H2 s2 hlt => ?_) (fun i σ2 w2 H2 v' H3 s2 hlt hy => ?_) (fun v σ H Q d w rp h => ⟨d, w, rp, h⟩) (fun D σ H w h => ⟨w, h⟩) q1⟩⟩
    · exact ⟨vs, (fl.ext s2.ext q1.1.zf).1, by rw [RepL.len _ rl]; exact Nat.le_refl _⟩
    · have : i < vs.length := by rw [RepL.len _ rl]; exact hlt
      exact ⟨vs, vs[i], (fl.ext s2.ext q1.1.zf).1, List.getElem?_eq_getElem this⟩
    · obtain ⟨e2, hv⟩ := hy
      subst e2
      obtain ⟨u, hu, ru⟩ := RepL.get xs (RepL.ext s2.ext q1.1.zf xs rl) (List.getElem?_eq_getElem hlt)
      rw [hv vs (fl.ext s2.ext q1.1.zf).1] at hu
      cases hu
      exact ⟨_, w2.g, List.getElem?_eq_getElem hlt, .refl _ _, ru⟩
  | _ => exact q1.2.elim⟩⟩
end
end Ev

namespace Ev
open PySem PySem.Spec PyProof.Rows L2

/-- the slots at a def's entry -/
def startC (n : Nat) (ds : List D) : List (Option C) := ds.map (fun d => some (.val d)) ++ List.replicate (n - ds.length) none
/-- a def by its body: n slots, np parameters -/
def runF (h : S) (n np : Nat) : Fn := fun ds st => if ds.length = np then
  match h ⟨startC n ds, st⟩ with
  | .nx s' => .ok .non s'.st
  | .rt d s' => .ok d s'.st
  | .exc c s' => .exc c s'.st
  | _ => .stuck
  else .stuck
/-- a call; dd: what is left out -/
def callM (F : Fn) (dd : List D) (m : M (List D)) : M D := bnd m fun ds => fun s => match F (ds ++ dd) s.st with
  | .ok d st => .ok d { s with st := st }
  | .exc c st => .exc c { s with st := st }
  | .stuck => .stuck
/-- the shared objects as they stand -/
structure StoreAt (K : PySem.W.Frag) (mg : Str → Option Value) (g : G) (H : Hp) (st : List SO) (f : List Addr) : Prop where
  st : RepOs K mg g H st g.ι f
  nd : f.Nodup
  nz : ∀ a ∈ f, ¬ g.Z a
  zd : ∀ a, g.Z a → H a ≠ none
/-- the promise of a def that is worth F -/
def spF (K : PySem.W.Frag) (mg : Str → Option Value) (F : Fn) (np : Nat) : Sp := fun vs H Q E => vs.length = np ∧ ∃ g ds st f, RepL K g H ds vs ∧ StoreAt K mg g H st f ∧ match F ds st with
  | .ok d st' => ∀ v g' H' f', StoreAt K mg g' H' st' f' → Ext f g H g' H' → Sub f H f' → Rep K g' H' d v → Q v H'
  | .exc c st' => ∀ Cl g' H' f', mg c = some (.ref Cl) → StoreAt K mg g' H' st' f' → Ext f g H g' H' → Sub f H f' → E (.ref Cl) none H'
  | .stuck => False

section
variable {X : Cx} {B : Ent} {W : WX} {w w1 : Wd} {σ σ1 : L2.St} {H H1 : Hp} {D D' : Ends} {h h1 h2 : S} {α β : Type} {p p1 p2 b b1 b2 : Bool} {pos pp : Pos} {e a eb : Expr} {f f1 f2 : M Ev.D}
theorem Rel.storeAt (R : RelW X B w σ H) : StoreAt X.K X.mg w.g H w.s.st w.f2 :=
  ⟨R.st, (List.nodup_append.mp R.nd).2.1, fun a q => R.nz a (List.mem_append_right _ q), R.zd⟩
/-- behind a callee -/
theorem Step.called (R : RelW X B w σ H) {g' : G} {H' : Hp} {st' : List SO} {f' : List Addr} (sa : StoreAt X.K X.mg g' H' st' f') (e : Ext w.f2 w.g H g' H') (sub : Sub w.f2 H f') :
    Step X B w H { g := g', s := { w.s with st := st' }, f1 := w.f1, f2 := f' } σ H' := by
  have nd := List.nodup_append.mp R.nd
  have dj : ∀ a ∈ w.f1, a ∉ w.f2 := fun a q z => nd.2.2 a q a z rfl
  have zf2 : ∀ a, w.g.Z a → a ∉ w.f2 := fun a z q => R.nz a (List.mem_append_right _ q) z
  refine ⟨⟨R.sl.ext e zf2 _ dj, sa.st, ?_, fun a q z => ?_, sa.zd, R.ex.trans e fun a q => ?_, fun a q => ?_⟩, e.mono fun a q => List.mem_append_right _ q, fun a q => ?_⟩
  · refine List.nodup_append.mpr ⟨nd.1, sa.nd, fun a qa b qb eq => ?_⟩
    subst eq
    rcases sub a qb with z | z
    · exact dj a qa z
    · exact R.dom a (List.mem_append_left _ qa) z
  · rcases List.mem_append.mp q with q | q
    · rcases e.zn a z with k | k | k
      · exact R.nz a (List.mem_append_left _ q) k
      · exact dj a q k
      · exact R.dom a (List.mem_append_left _ q) k
    · exact sa.nz a q z
  · exact R.ow a (List.mem_append_right _ q)
  · rcases List.mem_append.mp q with q | q
    · exact R.ow a (List.mem_append_left _ q)
    · rcases sub a q with z | z
      · exact R.ow a (List.mem_append_right _ z)
      · right
        cases k : B.H a with
        | none => rfl
        | some o => exact absurd z (R.ex.dom a (by rw [k]; simp))
  · rcases List.mem_append.mp q with q | q
    · exact .inl (List.mem_append_left _ q)
    · exact (sub a q).imp (List.mem_append_right _) id
theorem At.called {R1 : Ev.D → V → Wd → Hp → Prop} {Q : VK} {F : Fn} {np : Nat} {ds : List Ev.D} {vs : List V} (hnp : ∀ ds st, F ds st ≠ .stuck → ds.length = np)
    (h : At X B W R1 (fun s => match F ds s.st with | .ok d st => .ok d { s with st := st } | .exc c st => .exc c { s with st := st } | .stuck => .stuck) w σ H Q) (r : RepL X.K w.g H ds vs)
    (hR : ∀ d v w' H', Rep X.K w'.g H' d v → R1 d v w' H') : spF X.K X.mg F np vs H Q (WE W σ) := by
  obtain ⟨R, q⟩ := h
  refine ⟨?_, w.g, ds, w.s.st, w.f2, r, R.storeAt, ?_⟩
  · rw [RepL.len _ r]
    refine hnp ds w.s.st fun z => ?_
    simp only [z] at q
  · cases e : F ds w.s.st with
    | ok d st =>
      simp only [e] at q
      exact fun v g' H' f' sa ex sub rp => q v _ H' rfl (Step.called R sa ex sub) (hR _ _ _ _ rp)
    | exc c st =>
      simp only [e] at q
      exact fun Cl g' H' f' hm sa ex sub => q Cl _ H' rfl hm (Step.called R sa ex sub)
    | stuck =>
      simp only [e] at q
variable {k kc : Nat} {fa : Addr} {fd : FuncData} {ps : List Str} {F : Fn} {n : Str} {es : List Expr} {fs : M (List Ev.D)} {dd : List Ev.D} {dvs : List V} {dus : List Value}
/-- what a promise says of the number of arguments -/
def Ary (F : Fn) (np : Nat) : Prop := ∀ ds st, F ds st ≠ .stuck → ds.length = np
theorem runF_ary {h : S} {n np : Nat} : Ary (runF h n np) np := fun ds st hn => by
  unfold runF at hn
  split at hn
  · assumption
  · exact absurd rfl hn
theorem ef_callD (Fk : FnOk X.prog X.w X.K X.mg X.base (L2.CX X.prog X.w) kc fa fd ps (spF X.K X.mg F ps.length)) (ar : Ary F ps.length) (bd : Bd X W k) (hm : X.mg n = some (.ref fa)) (hk : PySem.W.keepIn X.K (.ref fa) = true) (hb : Binds X.K fd ps dus) (hd : Vals dvs dus)
    (hdd : ∀ g H, RepL X.K g H dd dvs) (ha : EFs X B W p (e :: es) fs) (hle : kc ≤ k := by decide) (hg : Gl X n := by rfl) (hdb : (n == ("__debug__" : Str)) = false := by decide) (he : starEach (e :: es) X.env = (false, eval e X.env) :: starEach es X.env := by rfl)
    (hpl : (backTo pos (starEach es X.env)).any (·.1) = false := by rfl) : EF X B W false (.Call (.Name n pp) (e :: es) [] pos) (callM F dd fs) :=
  ⟨(pe_callSD Fk (bd.room.mono hle) hg hm hk hb hd (fun σ => passAt bd.tk σ) ha.h hdb he hpl).weak fun σ H Q ⟨w, h⟩ => ⟨w, h.bnd fun ds vs w1 H1 st r h1 =>
    At.called ar h1 (RepL.append r.1 (hdd _ _)) fun d v w' H' rp => ⟨rp, fun z => absurd z (by decide)⟩⟩⟩
theorem ef_call (Fk : FnOk X.prog X.w X.K X.mg X.base (L2.CX X.prog X.w) kc fa fd ps (spF X.K X.mg F ps.length)) (ar : Ary F ps.length) (bd : Bd X W k) (hm : X.mg n = some (.ref fa)) (hk : PySem.W.keepIn X.K (.ref fa) = true) (hb : Binds X.K fd ps [])
    (ha : EFs X B W p (e :: es) fs) (hle : kc ≤ k := by decide) (hg : Gl X n := by rfl) (hdb : (n == ("__debug__" : Str)) = false := by decide) (he : starEach (e :: es) X.env = (false, eval e X.env) :: starEach es X.env := by rfl)
    (hpl : (backTo pos (starEach es X.env)).any (·.1) = false := by rfl) : EF X B W false (.Call (.Name n pp) (e :: es) [] pos) (callM F [] fs) :=
  ef_callD Fk ar bd hm hk hb .nil (fun _ _ => by unfold RepL; rfl) ha hle hg hdb he hpl
/-! ### while, for over a range -/
theorem es_while {c : Expr} {t : M Bool} {body : List Stmt} (hp : PassesOwn (model X.prog X.w) X.A X.env X.xe) (hc : ET X B W p c t) (hb : ESs X B W body h) : ES X B W (.While c body [] pos) (whileS t h) := ⟨(ps_while hp hc.h hb.h).weak fun D σ H ⟨w, q⟩ => by
  refine ⟨fun m σ H => ∃ w, AtS X B W (whileL t h m) w σ H D, ⟨fuel, w, q⟩, fun m σ H ⟨w, q⟩ => ?_⟩
  cases m with
  | zero => exact q.2.elim
  | succ m =>
    refine ⟨w, q.bnd fun b v w1 H1 st r q1 => ?_⟩
    obtain ⟨e, _⟩ := r
    subst e
    cases b with
    | false =>
      rw [if_neg Bool.false_ne_true] at q1 ⊢
      exact q1.nxt.2
    | true =>
      rw [if_pos rfl] at q1 ⊢
      refine ⟨fun σ H => ∃ w, AtS X B W (whileL t h m) w σ H D, fun σ' H' q => ⟨m, Nat.lt_succ_self m, q⟩, w1, q1.1, ?_⟩
      have q2 := q1.2
      cases eb : h w1.s with
      | nx s' => simp only [eb] at q2; exact fun σ' w' H' es st' => ⟨w', AtS.later st' es q2⟩
      | ct s' => simp only [eb] at q2; exact fun σ' w' H' es st' => ⟨w', AtS.later st' es q2⟩
      | bk s' => simp only [eb] at q2; exact q2
      | rt d s' => simp only [eb] at q2; exact q2
      | exc c s' => simp only [eb] at q2; exact q2
      | stuck => simp only [eb] at q2⟩
theorem for_rng {g : Ev.D → S} {body : S} {lo hi : Int} (hg : ∀ d s, (∃ s', g d s = .nx s') ∨ g d s = .stuck) (q : AtS X B W (forL g body (rngD lo hi)) w σ H D) :
    ∃ W' : Nat → Nat → L2.St → Hp → Prop, (∃ m, W' 0 m σ H) ∧ ∀ i m σ H, W' i m σ H →
      ((Itr lo (hi - lo).toNat).stop i H ∧ D.nx σ H) ∨ ((Itr lo (hi - lo).toNat).go i H ∧ ∃ N : L2.St → Hp → Prop, (∀ σ' H', N σ' H' → ∃ m', m' < m ∧ W' (i + 1) m' σ' H') ∧ ∀ x H', (Itr lo (hi - lo).toNat).yld i H x H' → TGt X B W g x σ H' fun σ2 H2 => TSt X B W body { D with nx := N, ct := N, bk := D.nx } σ2 H2) := by
  have hl : (rngD lo hi).length = (hi - lo).toNat := by simp [rngD]
  refine for_items (J := Itr lo (hi - lo).toNat) (tg := TGt X B W g) (tb := TSt X B W body) (vs := (List.range (hi - lo).toNat).map fun (k : Nat) => V.int (lo + k)) hg (by simp [rngD]) (fun σ2 w2 H2 s2 => ?_) (fun i σ2 w2 H2 s2 hlt => ?_) (fun i σ2 w2 H2 v' H3 s2 hlt hy => ?_) (fun v σ H Q d w rp h => ⟨d, w, rp, h⟩) (fun D σ H w h => ⟨w, h⟩) q
  · show (hi - lo).toNat ≤ _
    omega
  · show i < (hi - lo).toNat
    omega
  · obtain ⟨e1, e2⟩ := hy
    subst e1 e2
    refine ⟨.int (lo + i), w2.g, ?_, .refl _ _, by unfold Rep; rfl⟩
    have : i < (hi - lo).toNat := by omega
    simp [rngD, this]
theorem bndS_una {c : Ev.D → Option α} {m : M Ev.D} {k : α → S} : bndS (una c m) k = bndS m fun d => match c d with
  | some a => k a
  | none => fun _ => .stuck := by
  funext s
  unfold bndS una bnd
  cases m s with
  | ok d s' =>
    show (match opt (c d) s' with | .ok a s' => k a s' | .exc n s' => .exc n s' | .stuck => .stuck) = (match c d with | some a => k a | none => fun _ => .stuck) s'
    cases c d <;> rfl
  | exc n s' => rfl
  | stuck => rfl
theorem bndS_bin {c : Ev.D → Ev.D → Option α} {m m2 : M Ev.D} {k : α → S} : bndS (bin c m m2) k = bndS m fun d => bndS m2 fun d2 => match c d d2 with
  | some a => k a
  | none => fun _ => .stuck := by
  funext s
  unfold bndS bin bnd
  cases m s with
  | ok d s' =>
    simp only
    cases m2 s' with
    | ok d2 s2 =>
      show (match opt (c d d2) s2 with | .ok a s' => k a s' | .exc n s' => .exc n s' | .stuck => .stuck) = (match c d d2 with | some a => k a | none => fun _ => .stuck) s2
      cases c d d2 <;> rfl
    | exc n s2 => rfl
    | stuck => rfl
  | exc n s' => rfl
  | stuck => rfl
theorem es_forR {g : Ev.D → S} {body : List Stmt} {tg : Expr} (hp : PassesOwn (model X.prog X.w) X.A X.env X.xe) (hc : X.calm = true) (hm : X.mg "range" = none) (hi : EV X B W b p a f) (hgt : EPt X B W tg g) (hb : ESs X B W body h) (hg : Gl X "range" := by rfl)
    (hs : starEach [a] X.env = [(false, eval a X.env)] := by rfl) (hs' : ∀ x, foldedSetIterable (.Call (.Name "range" pp) [a] [] pos) X.env x = pure x := by intro _; rfl) {pos' : Pos} :
    ES X B W (.For tg (.Call (.Name "range" pp) [a] [] pos) body [] pos') (forR (una rngC f) g h) := ⟨(ps_for hp hc (pi_range1 hg hm (pa_cons hi.h pa_nil hs) hs) hgt.h hb.h hs').weak fun D σ H ⟨w, q⟩ => ⟨w, by
  unfold forR at q
  rw [bndS_una] at q
  refine q.bnd fun d v w1 H1 st r q1 => ?_
  cases d with
  | int n =>
    have e := Bor.int r.1
    subst e
    by_cases hn : -(2 ^ 62) ≤ n ∧ n < 2 ^ 62
    · have er : rngC (.int n) = some (0, n) := if_pos hn
      rw [er] at q1
      have q1 : AtS X B W (forL g h (rngD 0 n)) w1 σ H1 D := q1
      refine ⟨n, rfl, hn.1, hn.2, ?_⟩
      have z := for_rng hgt.nr q1
      rw [Int.sub_zero] at z
      exact z
    · have er : rngC (.int n) = none := if_neg hn
      rw [er] at q1
      exact q1.2.elim
  | _ => exact q1.2.elim⟩⟩
theorem es_forR2 {g : Ev.D → S} {body : List Stmt} {tg : Expr} (hp : PassesOwn (model X.prog X.w) X.A X.env X.xe) (hc : X.calm = true) (hm : X.mg "range" = none) (hi : EV X B W b1 p1 a f1) (hi2 : EV X B W b2 p2 eb f2) (hgt : EPt X B W tg g) (hb : ESs X B W body h) (hbb : (b1 || p2) = true := by rfl) (hg : Gl X "range" := by rfl)
    (hs : starEach [a, eb] X.env = [(false, eval a X.env), (false, eval eb X.env)] := by rfl) (hs2 : starEach [eb] X.env = [(false, eval eb X.env)] := by rfl) (hs' : ∀ x, foldedSetIterable (.Call (.Name "range" pp) [a, eb] [] pos) X.env x = pure x := by intro _; rfl) {pos' : Pos} :
    ES X B W (.For tg (.Call (.Name "range" pp) [a, eb] [] pos) body [] pos') (forR (bin rngC2 f1 f2) g h) := ⟨(ps_for hp hc (pi_range2 hg hm (pa_cons hi.h (pa_cons hi2.h pa_nil hs2) (by rw [hs, hs2])) hs hs2) hgt.h hb.h hs').weak fun D σ H ⟨w, q⟩ => ⟨w, by
  unfold forR at q
  rw [bndS_bin] at q
  refine q.bnd fun d v w1 H1 st r q1 => ⟨w1, q1.bnd fun d2 v2 w2 H2 st2 r2 q2 => ?_⟩
  cases d with
  | int i =>
    have e := Bor.int r.1
    subst e
    cases d2 with
    | int n =>
      have e := Bor.int r2.1
      subst e
      by_cases hn : (-(2 ^ 62) ≤ i ∧ i < 2 ^ 62) ∧ -(2 ^ 62) ≤ n ∧ n < 2 ^ 62
      · have er : rngC2 (.int i) (.int n) = some (i, n) := if_pos hn
        rw [er] at q2
        exact ⟨i, n, rfl, ⟨hn.1.1, hn.1.2, hn.2.1, hn.2.2⟩, for_rng hgt.nr q2⟩
      · have er : rngC2 (.int i) (.int n) = none := if_neg hn
        rw [er] at q2
        exact q2.2.elim
    | _ => exact q2.2.elim
  | _ => exact q2.2.elim⟩⟩
end
/-! ### a def by its body -/
theorem RepS.start {K : PySem.W.Frag} {g : G} {H : Hp} (n : Nat) : ∀ {ds : List D} {vs : List V}, RepL K g H ds vs → RepS K g H (ds.map (fun d => some (.val d)) ++ List.replicate n none) (vs.map some ++ List.replicate n none) []
  | [], vs, r => by
    unfold RepL at r
    subst r
    simp only [List.map_nil, List.nil_append]
    induction n with
    | zero => simp [RepS]
    | succ n ih =>
      rw [List.replicate_succ, List.replicate_succ]
      unfold RepS
      exact ⟨none, _, [], [], rfl, rfl, rfl, ih⟩
  | d :: ds, vs, r => by
    unfold RepL at r
    obtain ⟨v, ws, e, r, rs⟩ := r
    subst e
    simp only [List.map_cons, List.cons_append]
    unfold RepS
    exact ⟨some v, _, [], [], rfl, rfl, ⟨v, rfl, r, rfl⟩, RepS.start n rs⟩
section
variable {P : Program} {w : World} {K : PySem.W.Frag} {mg : Str → Option Value} {base : Heap}
theorem fn_ok {x qual : Str} {st : Stmt} {f : Addr} {fd : FuncData} {N ps : List Str} {k : Nat} {h : S} (F : Fun K x qual st f fd) (sc : FnScope N ps (defScope st))
    (hb : ∀ (cdv : Value) (A : Around) (outer : List Env) (s : Shared) (H : Hp) (E : XK) (B : Ent), Bd (cxOf (L2.CX P w) P w K mg base N qual (defScope st) f cdv A outer s H E) (fun cls d _ H => E cls d H) k →
      ESs (cxOf (L2.CX P w) P w K mg base N qual (defScope st) f cdv A outer s H E) B (fun cls d _ H => E cls d H) (defBody st) h) : FnOk P w K mg base (L2.CX P w) (k + 1) f fd ps (spF K mg (runF h N.length ps.length) ps.length) := by
  refine F.okX sc (fun vs H Q E h => h.1) fun cdv A outer s H vs Q E hr ⟨hl, g, ds, S0, f2, r, sa, q⟩ => ?_
  have bd : Bd (cxOf (L2.CX P w) P w K mg base N qual (defScope st) f cdv A outer s H E) (fun cls d _ H => E cls d H) k := ⟨rfl, sc.nd, takes_of rfl rfl rfl rfl, hr⟩
  refine ⟨_, (hb cdv A outer s H E ⟨g, H, f2⟩ bd).h, ⟨g, ⟨startC N.length ds, S0⟩, [], f2⟩, ?_, ?_⟩
  · refine ⟨?_, sa.st, sa.nd, fun a q => sa.nz a (by simpa using q), sa.zd, .refl _ _ _, fun a q => .inl (by simpa using q)⟩
    show RepS K g H (startC N.length ds) (L2.start N vs) []
    unfold startC L2.start
    rw [RepL.len _ r]
    exact RepS.start _ r
  · have hd : ds.length = ps.length := by rw [← RepL.len _ r]; exact hl
    unfold runF at q
    rw [if_pos hd] at q
    show match h ⟨startC N.length ds, S0⟩ with | .nx s' => _ | .rt d s' => _ | .bk s' => _ | .ct s' => _ | .exc n s' => _ | .stuck => _
    cases e : h ⟨startC N.length ds, S0⟩ with
    | nx s' =>
      simp only [e] at q
      exact fun σ' w' H' es st => q .non w'.g H' w'.f2 (es ▸ st.rel.storeAt) st.rel.ex (fun a z => st.sub a (List.mem_append_right _ z)) (by unfold Rep; rfl)
    | rt d s' =>
      simp only [e] at q
      exact fun v σ' w' H' es st rp => q v w'.g H' w'.f2 (es ▸ st.rel.storeAt) st.rel.ex (fun a z => st.sub a (List.mem_append_right _ z)) rp
    | exc c s' =>
      simp only [e] at q
      exact fun Cl σ' w' H' es hm st => q Cl w'.g H' w'.f2 hm (es ▸ st.rel.storeAt) st.rel.ex (fun a z => st.sub a (List.mem_append_right _ z))
    | bk s' => simp only [e] at q
    | ct s' => simp only [e] at q
    | stuck => simp only [e] at q
end
end Ev

namespace Ev
open PySem PySem.Spec PyProof.Rows L2

/-! ### places: lists that may be changed where they stand -/
/-- the shared object that a slot names -/
def slotN (j : Nat) (s : FSt) : Option Nat := match s.sl.getD j none with
  | some (.val (.obj n)) => some n
  | _ => none
def SO.vals : List C → Option (List D)
  | [] => some []
  | .val d :: cs => (SO.vals cs).map (d :: ·)
  | _ :: _ => none
inductive Plc where
  | slot (i : Nat)
  | root (j : Nat)
  | ix (j : Nat) (k : Nat)
  | key (j : Nat) (k : Str)
  | fld (j : Nat) (cls : List Str) (f : Str)
def C.list? : C → Option (List D)
  | .lst xs => some xs
  | _ => none
/-- the shared object that slot j names -/
def objAt (j : Nat) (s : FSt) : Option SO := (slotN j s).bind fun n => s.st[n]?
def setObj (j : Nat) (s : FSt) (o : SO) : FSt := match slotN j s with
  | some n => { s with st := s.st.set n o }
  | none => s
def lookC {α : Type} [DecidableEq α] (k : α) : List (α × C) → Option C
  | [] => none
  | (a, c) :: r => if a = k then some c else lookC k r
def putC {α : Type} [DecidableEq α] (k : α) (c : C) : List (α × C) → List (α × C)
  | [] => []
  | (a, b) :: r => if a = k then (a, c) :: r else (a, b) :: putC k c r
def rdL : Plc → FSt → Option (List D)
  | .slot i, s => match s.sl.getD i none with
    | some (.lst xs) => some xs
    | _ => none
  | .root j, s => match objAt j s with
    | some (.lst cs) => SO.vals cs
    | _ => none
  | .ix j k, s => match objAt j s with
    | some (.lst cs) => cs[k]?.bind C.list?
    | _ => none
  | .key j k, s => none
  | .fld j cls f, s => match objAt j s with
    | some (.ins c fs) => if c ∈ cls then (lookC f fs).bind C.list? else none
    | _ => none
def wrL : Plc → FSt → List D → FSt
  | .slot i, s, xs => s.put i (.lst xs)
  | .root j, s, xs => setObj j s (.lst (xs.map C.val))
  | .ix j k, s, xs => match objAt j s with
    | some (.lst cs) => setObj j s (.lst (cs.set k (.lst xs)))
    | _ => s
  | .key j k, s, xs => s
  | .fld j _ f, s, xs => match objAt j s with
    | some (.ins c fs) => setObj j s (.ins c (putC f (.lst xs) fs))
    | _ => s
/-- the place's address -/
def AtP (P : Plc) (w : Wd) (σ : L2.St) (H : Hp) (a : Addr) : Prop := match P with
  | .slot i => σ[i]? = some (some (.ref a))
  | .root j => ∃ n, slotN j w.s = some n ∧ w.g.ι[n]? = some a
  | .ix j k => ∃ n b vs, slotN j w.s = some n ∧ w.g.ι[n]? = some b ∧ H b = some (.lst vs) ∧ vs[k]? = some (.ref a)
  | .key j k => False
  | .fld j _ f => ∃ n b Cl dx gs, slotN j w.s = some n ∧ w.g.ι[n]? = some b ∧ H b = some (.ins Cl dx gs) ∧ gs.lookup f = some (.ref a)

section
variable {K : PySem.W.Frag} {mg : Str → Option Value} {g g' : G} {H H' : Hp}
theorem RepOs.upd {o o' : SO} : ∀ {os : List SO} {as f : List Addr} {n : Nat}, RepOs K mg g H os as f → os[n]? = some o →
    ∃ a l m r, as[n]? = some a ∧ f = l ++ (m ++ r) ∧ RepO K mg g H o a m ∧ ∀ (F : List Addr) (o' : SO) (m' : List Addr) (g' : G) (H' : Hp), Ext F g H g' H' → (∀ x, g.Z x → x ∉ F) → (∀ x ∈ l, x ∉ F) → (∀ x ∈ r, x ∉ F) → RepO K mg g' H' o' a m' → RepOs K mg g' H' (os.set n o') as (l ++ (m' ++ r))
  | [], as, f, n, h, e => by simp at e
  | x :: os, as, f, 0, h, e => by
    unfold RepOs at h
    obtain ⟨a, bs, g1, g2, e1, e2, r1, rs⟩ := h
    simp at e
    subst e e1 e2
    refine ⟨a, [], g1, g2, rfl, rfl, r1, fun F o' m' g' H' ex hz _ hr ro => ?_⟩
    show RepOs K mg g' H' (o' :: os) (a :: bs) (m' ++ g2)
    unfold RepOs
    exact ⟨a, bs, m', g2, rfl, rfl, ro, rs.ext ex hz _ hr⟩
  | x :: os, as, f, n + 1, h, e => by
    unfold RepOs at h
    obtain ⟨a, bs, g1, g2, e1, e2, r1, rs⟩ := h
    subst e1 e2
    obtain ⟨b, l, m, r, q1, q2, q3, q4⟩ := RepOs.upd (o' := o') (n := n) rs (by simpa using e)
    subst q2
    refine ⟨b, g1 ++ l, m, r, by simpa using q1, by simp [List.append_assoc], q3, fun F o' m' g' H' ex hz hl hr ro => ?_⟩
    show RepOs K mg g' H' (x :: os.set n o') (a :: bs) (g1 ++ l ++ (m' ++ r))
    unfold RepOs
    exact ⟨a, bs, g1, l ++ (m' ++ r), rfl, by rw [List.append_assoc], r1.ext ex hz fun y q => hl y (List.mem_append_left _ q), q4 F o' m' g' H' ex hz (fun y q => hl y (List.mem_append_right _ q)) hr ro⟩
theorem RepCs.upd {c : C} : ∀ {cs : List C} {vs : List V} {f : List Addr} {n : Nat}, RepCs K g H cs vs f → cs[n]? = some c →
    ∃ v l m r, vs[n]? = some v ∧ f = l ++ (m ++ r) ∧ RepC K g H c v m ∧ ∀ (F : List Addr) (c' : C) (v' : V) (m' : List Addr) (g' : G) (H' : Hp), Ext F g H g' H' → (∀ x, g.Z x → x ∉ F) → (∀ x ∈ l, x ∉ F) → (∀ x ∈ r, x ∉ F) → RepC K g' H' c' v' m' → RepCs K g' H' (cs.set n c') (vs.set n v') (l ++ (m' ++ r))
  | [], vs, f, n, h, e => by simp at e
  | x :: cs, vs, f, 0, h, e => by
    unfold RepCs at h
    obtain ⟨a, bs, g1, g2, e1, e2, r1, rs⟩ := h
    simp at e
    subst e e1 e2
    refine ⟨a, [], g1, g2, rfl, rfl, r1, fun F c' v' m' g' H' ex hz _ hr ro => ?_⟩
    show RepCs K g' H' (c' :: cs) (v' :: bs) (m' ++ g2)
    unfold RepCs
    exact ⟨v', bs, m', g2, rfl, rfl, ro, rs.ext ex hz _ hr⟩
  | x :: cs, vs, f, n + 1, h, e => by
    unfold RepCs at h
    obtain ⟨a, bs, g1, g2, e1, e2, r1, rs⟩ := h
    subst e1 e2
    obtain ⟨b, l, m, r, q1, q2, q3, q4⟩ := RepCs.upd (n := n) rs (by simpa using e)
    subst q2
    refine ⟨b, g1 ++ l, m, r, by simpa using q1, by simp [List.append_assoc], q3, fun F c' v' m' g' H' ex hz hl hr ro => ?_⟩
    show RepCs K g' H' (x :: cs.set n c') (a :: bs.set n v') (g1 ++ l ++ (m' ++ r))
    unfold RepCs
    exact ⟨a, _, g1, l ++ (m' ++ r), rfl, by rw [List.append_assoc], r1.ext ex hz fun y q => hl y (List.mem_append_left _ q), q4 F c' v' m' g' H' ex hz (fun y q => hl y (List.mem_append_right _ q)) hr ro⟩
theorem RepCs.vals : ∀ {cs : List C} {ds : List D} {vs : List V} {f : List Addr}, RepCs K g H cs vs f → SO.vals cs = some ds → RepL K g H ds vs ∧ f = []
  | [], ds, vs, f, h, e => by
    cases e
    obtain ⟨e1, e2⟩ := h
    subst e1 e2
    exact ⟨by unfold RepL; rfl, rfl⟩
  | .val d :: cs, ds, vs, f, h, e => by
    unfold RepCs at h
    obtain ⟨a, bs, g1, g2, e1, e2, r1, rs⟩ := h
    simp only [SO.vals] at e
    cases k : SO.vals cs with
    | none => rw [k] at e; cases e
    | some ds' =>
      rw [k] at e
      cases e
      obtain ⟨q1, q2⟩ := RepCs.vals rs k
      obtain ⟨r1, r2⟩ := r1
      subst e1 e2 q2 r2
      refine ⟨?_, rfl⟩
      unfold RepL
      exact ⟨a, bs, rfl, r1, q1⟩
  | .lst _ :: _, _, _, _, _, e => by cases e
  | .dct _ :: _, _, _, _, _, e => by cases e
theorem RepCs.ofVals : ∀ {ds : List D} {vs : List V}, RepL K g H ds vs → RepCs K g H (ds.map C.val) vs []
  | [], vs, h => by
    unfold RepL at h
    subst h
    exact ⟨rfl, rfl⟩
  | d :: ds, vs, h => by
    unfold RepL at h
    obtain ⟨v, ws, e, r, rs⟩ := h
    subst e
    show RepCs K g H (.val d :: ds.map C.val) (v :: ws) []
    unfold RepCs
    exact ⟨v, ws, [], [], rfl, rfl, ⟨r, rfl⟩, RepCs.ofVals rs⟩
end

section
variable {X : Cx} {B : Ent} {W : WX} {w w1 w2 : Wd} {σ : L2.St} {H H1 H2 : Hp}
/-- one owned object written -/
theorem Ext.wr {g : G} {H : Hp} {a : Addr} {o : HO} (h : H a ≠ none) : Ext [a] g H g (upd H a o) where
  keep := fun b u q n => by rw [upd_ne (by simpa using n)]; exact q
  z := fun _ h => h
  zn := fun _ h => .inl h
  dom := fun b q => by
    by_cases e : b = a
    · rw [e, upd_same]; simp
    · rw [upd_ne e]; exact q
  io := ⟨[], by simp⟩
theorem slotN_eq {j n : Nat} {s : FSt} (h : slotN j s = some n) : s.sl.getD j none = some (.val (.obj n)) := by
  unfold slotN at h
  split at h
  · rename_i m e
    cases h
    exact e
  · cases h
theorem setObj_eq {j n : Nat} {s : FSt} {o : SO} (h : slotN j s = some n) : setObj j s o = { s with st := s.st.set n o } := by
  unfold setObj
  rw [h]
/-- a shared object is changed where it stands; what it owns stays the same -/
theorem Rel.root {j : Nat} {o : SO} (R : RelW X B w σ H) (h : objAt j w.s = some o) :
    ∃ n a m, slotN j w.s = some n ∧ w.g.ι[n]? = some a ∧ RepO X.K X.mg w.g H o a m ∧ (∀ x ∈ m, x ∈ w.f) ∧ (∀ x ∈ m, x ∈ w.f2) ∧ m.Nodup ∧
      ∀ (b : Addr) (u : HO) (o' : SO), b ∈ m → RepO X.K X.mg w.g (upd H b u) o' a m → RelW X B { w with s := setObj j w.s o' } σ (upd H b u) := by
  unfold objAt at h
  cases e : slotN j w.s with
  | none => rw [e] at h; cases h
  | some n =>
    rw [e] at h
    have h : w.s.st[n]? = some o := h
    obtain ⟨a, l, m, r, q1, q2, q3, q4⟩ := RepOs.upd (o' := o) R.st h
    have hm : ∀ x ∈ m, x ∈ w.f2 := fun x q => by rw [q2]; exact List.mem_append_right _ (List.mem_append_left _ q)
    have nd2 := (List.nodup_append.mp R.nd).2.1
    rw [q2] at nd2
    have ndm : m.Nodup := (List.nodup_append.mp (List.nodup_append.mp nd2).2.1).1
    refine ⟨n, a, m, rfl, q1, q3, fun x q => List.mem_append_right _ (hm x q), hm, ndm, fun b u o' hb ro => ?_⟩
    have hd : H b ≠ none := R.dom b (List.mem_append_right _ (hm b hb))
    have ex : Ext [b] w.g H w.g (upd H b u) := .wr hd
    have zf : ∀ x, w.g.Z x → x ∉ [b] := fun x z q => by
      rw [List.mem_singleton.mp q] at z
      exact R.nz b (List.mem_append_right _ (hm b hb)) z
    rw [setObj_eq e]
    refine ⟨R.sl.ext ex zf _ fun x q z => ?_, ?_, R.nd, R.nz, fun x z => ex.dom x (R.zd x z), R.ex.trans ex fun x q => ?_, R.ow⟩
    · rw [List.mem_singleton.mp z] at q
      exact (List.nodup_append.mp R.nd).2.2 b q b (hm b hb) rfl
    · rw [q2]
      refine q4 [b] o' m w.g _ ex zf (fun x q z => ?_) (fun x q z => ?_) ro
      · rw [List.mem_singleton.mp z] at q
        exact (List.nodup_append.mp nd2).2.2 b q b (List.mem_append_left _ hb) rfl
      · rw [List.mem_singleton.mp z] at q
        exact (List.nodup_append.mp (List.nodup_append.mp nd2).2.1).2.2 b hb b q rfl
    · rw [List.mem_singleton.mp q]
      exact R.ow b (List.mem_append_right _ (hm b hb))
theorem RepS.upd {K : PySem.W.Frag} {g : G} {H : Hp} {c : C} : ∀ {cs : List (Option C)} {σ : L2.St} {f : List Addr} {i : Nat}, RepS K g H cs σ f → cs.getD i none = some c →
    ∃ v l m r, σ[i]? = some (some v) ∧ f = l ++ (m ++ r) ∧ RepC K g H c v m ∧ ∀ (F : List Addr) (c' : C) (g' : G) (H' : Hp), Ext F g H g' H' → (∀ x, g.Z x → x ∉ F) → (∀ x ∈ l, x ∉ F) → (∀ x ∈ r, x ∉ F) → RepC K g' H' c' v m → RepS K g' H' (cs.set i (some c')) σ f
  | [], σ, f, i, h, e => by simp at e
  | x :: cs, σ, f, 0, h, e => by
    unfold RepS at h
    obtain ⟨a, bs, g1, g2, e1, e2, r1, rs⟩ := h
    simp at e
    subst e e1 e2
    obtain ⟨u, eu, r1⟩ := r1
    subst eu
    refine ⟨u, [], g1, g2, rfl, rfl, r1, fun F c' g' H' ex hz _ hr ro => ?_⟩
    show RepS K g' H' (some c' :: cs) (some u :: bs) (g1 ++ g2)
    unfold RepS
    exact ⟨some u, bs, g1, g2, rfl, rfl, ⟨u, rfl, ro⟩, rs.ext ex hz _ hr⟩
  | x :: cs, σ, f, i + 1, h, e => by
    unfold RepS at h
    obtain ⟨a, bs, g1, g2, e1, e2, r1, rs⟩ := h
    subst e1 e2
    obtain ⟨b, l, m, r, q1, q2, q3, q4⟩ := RepS.upd (i := i) rs (by simpa using e)
    subst q2
    refine ⟨b, g1 ++ l, m, r, by simpa using q1, by simp [List.append_assoc], q3, fun F c' g' H' ex hz hl hr ro => ?_⟩
    show RepS K g' H' (x :: cs.set i (some c')) (a :: bs) (g1 ++ (l ++ (m ++ r)))
    unfold RepS
    refine ⟨a, bs, g1, _, rfl, rfl, ?_, q4 F c' g' H' ex hz (fun y q => hl y (List.mem_append_right _ q)) hr ro⟩
    cases x with
    | none => exact r1
    | some x =>
      obtain ⟨u, eu, r1⟩ := r1
      exact ⟨u, eu, r1.ext ex hz fun y q => hl y (List.mem_append_left _ q)⟩
/-- a slot's own object is changed where it stands -/
theorem Rel.slot {i : Nat} {c : C} (R : RelW X B w σ H) (h : w.s.sl.getD i none = some c) :
    ∃ v m, σ[i]? = some (some v) ∧ RepC X.K w.g H c v m ∧ (∀ x ∈ m, x ∈ w.f) ∧
      ∀ (b : Addr) (u : HO) (c' : C), b ∈ m → RepC X.K w.g (upd H b u) c' v m → RelW X B { w with s := w.s.put i c' } σ (upd H b u) := by
  obtain ⟨v, l, m, r, q1, q2, q3, q4⟩ := RepS.upd R.sl h
  have hm : ∀ x ∈ m, x ∈ w.f1 := fun x q => by rw [q2]; exact List.mem_append_right _ (List.mem_append_left _ q)
  have nd1 := (List.nodup_append.mp R.nd).1
  rw [q2] at nd1
  refine ⟨v, m, q1, q3, fun x q => List.mem_append_left _ (hm x q), fun b u c' hb rc => ?_⟩
  have hd : H b ≠ none := R.dom b (List.mem_append_left _ (hm b hb))
  have ex : Ext [b] w.g H w.g (upd H b u) := .wr hd
  have zf : ∀ x, w.g.Z x → x ∉ [b] := fun x z q => by
    rw [List.mem_singleton.mp q] at z
    exact R.nz b (List.mem_append_left _ (hm b hb)) z
  refine ⟨?_, R.st.ext ex zf _ fun x q z => ?_, R.nd, R.nz, fun x z => ex.dom x (R.zd x z), R.ex.trans ex fun x q => ?_, R.ow⟩
  · refine q4 [b] c' w.g _ ex zf (fun x q z => ?_) (fun x q z => ?_) rc
    · rw [List.mem_singleton.mp z] at q
      exact (List.nodup_append.mp nd1).2.2 b q b (List.mem_append_left _ hb) rfl
    · rw [List.mem_singleton.mp z] at q
      exact (List.nodup_append.mp (List.nodup_append.mp nd1).2.1).2.2 b hb b q rfl
  · rw [List.mem_singleton.mp z] at q
    exact (List.nodup_append.mp R.nd).2.2 b (hm b hb) b q rfl
  · rw [List.mem_singleton.mp q]
    exact R.ow b (List.mem_append_left _ (hm b hb))
end
end Ev

namespace Ev
open PySem PySem.Spec PyProof.Rows L2
section
variable {X : Cx} {B : Ent} {W : WX} {w w1 w2 : Wd} {σ : L2.St} {H H1 H2 : Hp} {xs : List D}
theorem RepL.wr {K : PySem.W.Frag} {g : G} {H : Hp} {a : Addr} {u : HO} {xs : List D} {vs : List V} (r : RepL K g H xs vs) (hd : H a ≠ none) (nz : ¬ g.Z a) : RepL K g (upd H a u) xs vs :=
  RepL.ext (Ext.wr hd) (fun x z q => by rw [List.mem_singleton.mp q] at z; exact nz z) xs r
theorem Rep.wr {K : PySem.W.Frag} {g : G} {H : Hp} {a : Addr} {u : HO} {d : D} {v : V} (r : Rep K g H d v) (hd : H a ≠ none) (nz : ¬ g.Z a) : Rep K g (upd H a u) d v :=
  Rep.ext (Ext.wr hd) (fun x z q => by rw [List.mem_singleton.mp q] at z; exact nz z) d r
theorem lookup_zip {α : Type} {f : Str} : ∀ {fs : List (Str × C)} {gs : List (Str × V)} {c : C}, gs.map (·.1) = fs.map (·.1) → lookC f fs = some c → ∃ k, fs[k]? = some (f, c) ∧ (fs.map (·.2))[k]? = some c ∧ (∃ v, gs[k]? = some (f, v) ∧ gs.lookup f = some v) ∧
    (∀ c', (putC f c' fs).map (·.2) = (fs.map (·.2)).set k c' ∧ (putC f c' fs).map (·.1) = fs.map (·.1)) ∧ ∀ v', (putF f v' gs).map (·.2) = (gs.map (·.2)).set k v' ∧ (putF f v' gs).map (·.1) = gs.map (·.1)
  | [], gs, c, e, h => by cases h
  | (a, b) :: r, [], c, e, h => by simp at e
  | (a, b) :: r, (a', v) :: gs, c, e, h => by
    simp only [List.map_cons, List.cons.injEq] at e
    obtain ⟨e1, e2⟩ := e
    have e1 : a' = a := e1
    subst e1
    unfold lookC at h
    by_cases k : a' = f
    · subst k
      rw [if_pos rfl] at h
      cases h
      refine ⟨0, rfl, rfl, ⟨v, rfl, by simp [List.lookup]⟩, fun c' => ?_, fun v' => ?_⟩
      · unfold putC; rw [if_pos rfl]; exact ⟨rfl, rfl⟩
      · unfold putF; rw [if_pos rfl]; exact ⟨rfl, rfl⟩
    · rw [if_neg k] at h
      obtain ⟨n, q1, q2, ⟨v2, q3, q4⟩, q5, q6⟩ := lookup_zip (α := α) e2 h
      refine ⟨n + 1, by simpa using q1, by simpa using q2, ⟨v2, by simpa using q3, ?_⟩, fun c' => ?_, fun v' => ?_⟩
      · have : (f == a') = false := beq_eq_false_iff_ne.mpr fun z => k z.symm
        simp only [List.lookup, this]
        exact q4
      · unfold putC
        rw [if_neg k]
        simp only [List.map_cons, List.set_cons_succ]
        rw [(q5 c').1, (q5 c').2]
        exact ⟨rfl, rfl⟩
      · unfold putF
        rw [if_neg k]
        simp only [List.map_cons, List.set_cons_succ]
        rw [(q6 v').1, (q6 v').2]
        exact ⟨rfl, rfl⟩
theorem AtP.inj {P : Plc} {a b : Addr} (h : AtP P w σ H a) (h' : AtP P w σ H b) : a = b := by
  cases P with
  | slot i =>
    have h : σ[i]? = some (some (.ref a)) := h
    have h' : σ[i]? = some (some (.ref b)) := h'
    rw [h] at h'; cases h'; rfl
  | root j =>
    obtain ⟨n, e1, e2⟩ := h
    obtain ⟨m, d1, d2⟩ := h'
    rw [e1] at d1; cases d1
    rw [e2] at d2; cases d2; rfl
  | ix j k =>
    obtain ⟨n, c, vs, e1, e2, e3, e4⟩ := h
    obtain ⟨m, c', vs', d1, d2, d3, d4⟩ := h'
    rw [e1] at d1; cases d1
    rw [e2] at d2; cases d2
    rw [e3] at d3; cases d3
    rw [e4] at d4; cases d4; rfl
  | key j k => exact h.elim
  | fld j cl f =>
    obtain ⟨n, c, Cl, dx, gs, e1, e2, e3, e4⟩ := h
    obtain ⟨m, c', Cl', dx', gs', d1, d2, d3, d4⟩ := h'
    rw [e1] at d1; cases d1
    rw [e2] at d2; cases d2
    rw [e3] at d3; cases d3
    rw [e4] at d4; cases d4; rfl
theorem list?_eq {c : C} {xs : List D} (h : c.list? = some xs) : c = .lst xs := by
  cases c with
  | lst ys => cases h; rfl
  | _ => cases h
/-- a place, found and rewritten -/
theorem Plc.ok (P : Plc) (R : RelW X B w σ H) (h : rdL P w.s = some xs) : ∃ a vs, AtP P w σ H a ∧ H a = some (.lst vs) ∧ RepL X.K w.g H xs vs ∧ ¬ w.g.Z a ∧ a ∈ w.f ∧
    ∀ vs' xs', RepL X.K w.g H xs' vs' → RelW X B { w with s := wrL P w.s xs' } σ (upd H a (.lst vs')) := by
  cases P with
  | slot i =>
    simp only [rdL] at h
    split at h
    · rename_i ys e
      cases h
      obtain ⟨v, m, q1, ⟨a, vs, e1, e2, r, e3⟩, q3, q4⟩ := Rel.slot R e
      subst e1 e3
      have am : a ∈ w.f := q3 a (by simp)
      refine ⟨a, vs, q1, e2, r, R.nz a am, am, fun vs' xs' r' => q4 a _ (.lst xs') (by simp) ⟨a, vs', rfl, upd_same, r'.wr (by rw [e2]; simp) (R.nz a am), rfl⟩⟩
    · cases h
  | root j =>
    simp only [rdL] at h
    cases e : objAt j w.s with
    | none => rw [e] at h; cases h
    | some o =>
      rw [e] at h
      cases o with
      | lst cs =>
        have h : SO.vals cs = some xs := h
        obtain ⟨n, a, m, q1, q2, ⟨vs, f1, e2, rc, em⟩, q4, q4', q5, q6⟩ := Rel.root R e
        obtain ⟨rl, ef⟩ := RepCs.vals rc h
        subst ef em
        have am : a ∈ w.f := q4 a (by simp)
        refine ⟨a, vs, ⟨n, q1, q2⟩, e2, rl, R.nz a am, am, fun vs' xs' r' => q6 a _ (.lst (xs'.map C.val)) (by simp) ⟨vs', [], upd_same, RepCs.ofVals (r'.wr (by rw [e2]; simp) (R.nz a am)), rfl⟩⟩
      | _ => cases h
  | ix j k =>
    simp only [rdL] at h
    cases e : objAt j w.s with
    | none => rw [e] at h; cases h
    | some o =>
      rw [e] at h
      cases o with
      | lst cs =>
        simp only at h
        cases ec : cs[k]? with
        | none => rw [ec] at h; cases h
        | some c =>
          rw [ec] at h
          have hc := list?_eq h
          subst hc
          obtain ⟨n, b, m, q1, q2, ⟨vs, f1, e2, rc, em⟩, q4, q4', q5, q6⟩ := Rel.root R e
          obtain ⟨v, l, mm, r, p1, p2, ⟨a, us, e3, e4, rl, e5⟩, p4⟩ := RepCs.upd rc ec
          subst e3 e5 em p2
          have am : a ∈ b :: (l ++ ([a] ++ r)) := by simp
          have nd : (b :: (l ++ ([a] ++ r))).Nodup := q5
          have ab : b ≠ a := fun z => by
            rw [List.nodup_cons] at nd
            exact nd.1 (by rw [z]; simp)
          have nd2 := (List.nodup_cons.mp nd).2
          have hd : H a ≠ none := by rw [e4]; simp
          refine ⟨a, us, ⟨n, b, vs, q1, q2, e2, p1⟩, e4, rl, R.nz a (q4 a am), q4 a am, fun vs' xs' r' => ?_⟩
          have ew : wrL (.ix j k) w.s xs' = setObj j w.s (.lst (cs.set k (.lst xs'))) := by simp only [wrL, e]
          rw [ew]
          refine q6 a _ _ am ⟨vs, l ++ ([a] ++ r), by rw [upd_ne ab]; exact e2, ?_, rfl⟩
          have z := p4 [a] (.lst xs') (.ref a) [a] w.g (upd H a (.lst vs')) (.wr hd) (fun x z q => by rw [List.mem_singleton.mp q] at z; exact R.nz a (q4 a am) z) (fun x q z => by
            rw [List.mem_singleton.mp z] at q
            exact (List.nodup_append.mp nd2).2.2 a q a (by simp) rfl) (fun x q z => by
            rw [List.mem_singleton.mp z] at q
            exact (List.nodup_append.mp (List.nodup_append.mp nd2).2.1).2.2 a (by simp) a q rfl) ⟨a, vs', rfl, upd_same, r'.wr hd (R.nz a (q4 a am)), rfl⟩
          have es : vs.set k (.ref a) = vs := by
            obtain ⟨hk, ek⟩ := List.getElem?_eq_some_iff.mp p1
            rw [← ek]; exact List.set_getElem_self hk
          rw [es] at z
          exact z
      | _ => cases h
  | key j k => cases h
  | fld j cl f =>
    simp only [rdL] at h
    cases e : objAt j w.s with
    | none => rw [e] at h; cases h
    | some o =>
      rw [e] at h
      cases o with
      | ins cls fs =>
        simp only at h
        by_cases hcl : cls ∈ cl
        case neg => rw [if_neg hcl] at h; cases h
        rw [if_pos hcl] at h
        cases ec : lookC f fs with
        | none => rw [ec] at h; cases h
        | some c =>
          rw [ec] at h
          have hc := list?_eq h
          subst hc
          obtain ⟨n, b, m, q1, q2, ⟨Cl, dx, gs, f1, e2, ecl, ek, rc, em⟩, q4, q4', q5, q6⟩ := Rel.root R e
          obtain ⟨k, k1, k2, ⟨v, k3, k4⟩, k5, k6⟩ := lookup_zip (α := Unit) ek ec
          obtain ⟨v2, l, mm, r, p1, p2, ⟨a, us, e3, e4, rl, e5⟩, p4⟩ := RepCs.upd rc k2
          have ev : v = v2 := by
            rw [List.getElem?_map, k3] at p1
            exact Option.some.inj p1
          subst ev e3 e5 em p2
          have am : a ∈ b :: (l ++ ([a] ++ r)) := by simp
          have nd : (b :: (l ++ ([a] ++ r))).Nodup := q5
          have ab : b ≠ a := fun z => by
            rw [List.nodup_cons] at nd
            exact nd.1 (by rw [z]; simp)
          have nd2 := (List.nodup_cons.mp nd).2
          have hd : H a ≠ none := by rw [e4]; simp
          refine ⟨a, us, ⟨n, b, Cl, dx, gs, q1, q2, e2, k4⟩, e4, rl, R.nz a (q4 a am), q4 a am, fun vs' xs' r' => ?_⟩
          have ew : wrL (.fld j cl f) w.s xs' = setObj j w.s (.ins cls (putC f (.lst xs') fs)) := by simp only [wrL, e]
          rw [ew]
          refine q6 a _ _ am ⟨Cl, dx, gs, l ++ ([a] ++ r), by rw [upd_ne ab]; exact e2, ecl, by rw [ek, (k5 _).2], ?_, rfl⟩
          have z := p4 [a] (.lst xs') (.ref a) [a] w.g (upd H a (.lst vs')) (.wr hd) (fun x z q => by rw [List.mem_singleton.mp q] at z; exact R.nz a (q4 a am) z) (fun x q z => by
            rw [List.mem_singleton.mp z] at q
            exact (List.nodup_append.mp nd2).2.2 a q a (by simp) rfl) (fun x q z => by
            rw [List.mem_singleton.mp z] at q
            exact (List.nodup_append.mp (List.nodup_append.mp nd2).2.1).2.2 a (by simp) a q rfl) ⟨a, vs', rfl, upd_same, r'.wr hd (R.nz a (q4 a am)), rfl⟩
          have es : (gs.map (·.2)).set k (.ref a) = gs.map (·.2) := by
            obtain ⟨hk, ek⟩ := List.getElem?_eq_some_iff.mp p1
            rw [← ek]; exact List.set_getElem_self hk
          rw [es] at z
          rw [(k5 _).1]
          exact z
      | _ => cases h
/-! ### methods that change a list -/
def Plc.nm : Plc → FSt → Option Nat
  | .slot _, _ => none
  | .root j, s => slotN j s
  | .ix j _, s => slotN j s
  | .key j _, s => slotN j s
  | .fld j _ _, s => slotN j s
def Plc.deep : Plc → Bool
  | .slot _ => false
  | .root _ => false
  | _ => true
theorem AtP.later {P : Plc} {a : Addr} (st : Step X B w H w2 σ H2) (hn : P.nm w2.s = P.nm w.s) (hp : P.deep = true → Pure w H w2 H2) (h : AtP P w σ H a) : AtP P w2 σ H2 a := by
  obtain ⟨t, ht⟩ := st.ext.io
  have io : ∀ {n : Nat} {b : Addr}, w.g.ι[n]? = some b → w2.g.ι[n]? = some b := fun {n b} e => by
    rw [ht, List.getElem?_append_left (List.getElem?_eq_some_iff.mp e).1]
    exact e
  cases P with
  | slot i => exact h
  | root j =>
    obtain ⟨n, e1, e2⟩ := h
    exact ⟨n, hn.trans e1, io e2⟩
  | ix j k =>
    obtain ⟨n, c, vs, e1, e2, e3, e4⟩ := h
    exact ⟨n, c, vs, hn.trans e1, io e2, (hp rfl).n.ext.keep _ _ e3 (by simp), e4⟩
  | key j k => exact h
  | fld j cl f =>
    obtain ⟨n, c, Cl, dx, gs, e1, e2, e3, e4⟩ := h
    exact ⟨n, c, Cl, dx, gs, hn.trans e1, io e2, (hp rfl).n.ext.keep _ _ e3 (by simp), e4⟩
structure EPl (X : Cx) (B : Ent) (e : Expr) (P : Plc) : Prop where
  h : PE X e (fun σ H Q => ∃ w, RelW X B w σ H ∧ (∃ xs, rdL P w.s = some xs) ∧ ∀ a, AtP P w σ H a → Q (.ref a) H)
def mutK (P : Plc) (mu : List D → List D → Option (List D × D)) (n0 : Option Nat) (as : List D) : M D := fun s2 => if P.nm s2 = n0 then
  match rdL P s2 with
  | none => .stuck
  | some xs => match mu xs as with
    | none => .stuck
    | some (xs', d) => .ok d (wrL P s2 xs')
  else .stuck
def mutM (P : Plc) (mu : List D → List D → Option (List D × D)) (fs : M (List D)) : M D := fun s => bnd (get (rdL P)) (fun _ => bnd fs fun as => mutK P mu (P.nm s) as) s
/-- a method's reading that changes a list -/
def LMut (r : V → List V → Hp → VK → Prop) (mu : List D → List D → Option (List D × D)) : Prop := ∀ K g H a xs vs as avs xs' d Q, H a = some (.lst vs) → RepL K g H xs vs → RepL K g H as avs → mu xs as = some (xs', d) →
  (∀ vs' v, RepL K g H xs' vs' → Rep K g H d v → Q v (upd H a (.lst vs'))) → r (.ref a) avs H Q
theorem At.mutd {P : Plc} {mu : List D → List D → Option (List D × D)} {n0 : Option Nat} {as : List D} {avs : List V} {r : V → List V → Hp → VK → Prop} {a : Addr} {Q : VK} (lm : LMut r mu) {R1 : D → V → Wd → Hp → Prop} (hR : ∀ d v w' H', Rep X.K w'.g H' d v → R1 d v w' H')
    (h : At X B W R1 (mutK P mu n0 as) w σ H Q) (ra : RepL X.K w.g H as avs) (ha : P.nm w.s = n0 → AtP P w σ H a) : r (.ref a) avs H Q := by
  obtain ⟨R, q⟩ := h
  unfold mutK at q
  by_cases hn : P.nm w.s = n0
  · rw [if_pos hn] at q
    cases e : rdL P w.s with
    | none => rw [e] at q; exact q.elim
    | some xs =>
      rw [e] at q
      simp only at q
      cases em : mu xs as with
      | none => rw [em] at q; exact q.elim
      | some p =>
        obtain ⟨xs', d⟩ := p
        rw [em] at q
        obtain ⟨a', vs, h1, h2, h3, h4, h5, h6⟩ := Plc.ok P R e
        have ea := AtP.inj (ha hn) h1
        subst ea
        have hd : H a ≠ none := by rw [h2]; simp
        refine lm X.K w.g H a xs vs as avs xs' d Q h2 h3 ra em fun vs' v r' rd => ?_
        exact q v { w with s := wrL P w.s xs' } _ rfl ⟨h6 vs' xs' r', (Ext.wr hd).mono (fun x z => by rw [List.mem_singleton.mp z]; exact h5), .refl _ _⟩ (hR _ _ _ _ (rd.wr hd h4))
  · rw [if_neg hn] at q
    exact q.elim
section
variable {P : Plc} {mu : List D → List D → Option (List D × D)} {r : V → List V → Hp → VK → Prop} {o e : Expr} {es : List Expr} {name : Str} {id : String} {apos cpos : Pos} {p : Bool} {fs : M (List D)}
theorem ex_mut (slot : Slot "list" name id) (hty : typeOf (.builtin id) = pure (.type "method_descriptor")) (hm : MtR X id r) (lm : LMut r mu) (ho : EPl X B o P) (ha : EFs X B W p (e :: es) fs) (hd : (!P.deep || p) = true := by rfl)
    (hbase : attributeBase o name X.env (eval o X.env) = eval o X.env := by rfl)
    (hfew : ((backTo cpos (starEach (e :: es) X.env)).all (fun y => !y.1) && (backToKw cpos (keywordEach [] X.env)).all (fun y => y.1.isSome) && decide ((e :: es).length + ([] : List Keyword).length + (if ([] : List Keyword).isEmpty then 0 else 1) < 30)) = true := by rfl)
    (hline : (apos.endLine == cpos.line) = true := by rfl) (hs : starEach (e :: es) X.env = (false, eval e X.env) :: starEach es X.env := by rfl) (hplain : (backTo cpos (starEach es X.env)).any (·.1) = false := by rfl) :
    EF X B W false (.Call (.Attribute o name apos) (e :: es) [] cpos) (mutM P mu fs) :=
  ⟨(pe_bm PySem.F.plainAttrs_list slot hty hm ho.h ha.h hbase hfew hline hs hplain).weak fun σ H Q ⟨w, h⟩ => by
    have h : At X B W (RF X false w H) (bnd (get (rdL P)) fun _ => bnd fs fun as => mutK P mu (P.nm w.s) as) w σ H Q := h
    have hh := h
    obtain ⟨R, q⟩ := hh
    have hx : ∃ xs, rdL P w.s = some xs := by
      cases e : rdL P w.s with
      | some xs => exact ⟨xs, rfl⟩
      | none =>
        unfold bnd get opt at q
        simp only [e] at q
    refine ⟨w, R, hx, fun a ha' => ⟨?_, ?_⟩⟩
    · obtain ⟨xs, e⟩ := hx
      obtain ⟨a', vs, h1, h2, _⟩ := Plc.ok P R e
      rw [AtP.inj ha' h1]
      exact .inl ⟨rfl, vs, .inl (.inl h2)⟩
    · have h2 : At X B W (RF X false w H) (bnd fs fun as => mutK P mu (P.nm w.s) as) w σ H Q := by
        obtain ⟨xs, e⟩ := hx
        refine ⟨R, ?_⟩
        have e2 : bnd (get (rdL P)) (fun _ => bnd fs fun as => mutK P mu (P.nm w.s) as) w.s = bnd fs (fun as => mutK P mu (P.nm w.s) as) w.s := by
          simp only [bnd, get, opt, e]
        rw [← e2]
        exact q
      refine ⟨w, h2.bnd fun as avs w2 H2 st2 r2 h3 => At.mutd lm (fun d v w' H' rp => ⟨rp, fun z => absurd z (by decide)⟩) h3 r2.1 fun hn => AtP.later st2 hn (fun z => r2.2 ?_) ha'⟩
      rw [z] at hd
      simpa using hd⟩
theorem ex_mut0 (slot : Slot "list" name id) (hty : typeOf (.builtin id) = pure (.type "method_descriptor")) (hm : MtR X id r) (lm : LMut r mu) (ho : EPl X B o P)
    (hbase : attributeBase o name X.env (eval o X.env) = eval o X.env := by rfl) (hline : (apos.endLine == cpos.line) = true := by rfl) : EF X B W false (.Call (.Attribute o name apos) [] [] cpos) (mutM P mu nilM) :=
  ⟨(pe_bm0 PySem.F.plainAttrs_list slot hty hm ho.h hbase hline).weak fun σ H Q ⟨w, h⟩ => by
    have h : At X B W (RF X false w H) (bnd (get (rdL P)) fun _ => bnd nilM fun as => mutK P mu (P.nm w.s) as) w σ H Q := h
    have hh := h
    obtain ⟨R, q⟩ := hh
    have hx : ∃ xs, rdL P w.s = some xs := by
      cases e : rdL P w.s with
      | some xs => exact ⟨xs, rfl⟩
      | none =>
        unfold bnd get opt at q
        simp only [e] at q
    refine ⟨w, R, hx, fun a ha' => ⟨?_, ?_⟩⟩
    · obtain ⟨xs, e⟩ := hx
      obtain ⟨a', vs, h1, h2, _⟩ := Plc.ok P R e
      rw [AtP.inj ha' h1]
      exact .inl ⟨rfl, vs, .inl (.inl h2)⟩
    · obtain ⟨xs, e⟩ := hx
      have h2 : At X B W (RF X false w H) (mutK P mu (P.nm w.s) []) w σ H Q := by
        refine ⟨R, ?_⟩
        have e2 : bnd (get (rdL P)) (fun _ => bnd nilM fun as => mutK P mu (P.nm w.s) as) w.s = mutK P mu (P.nm w.s) [] w.s := by
          simp only [bnd, get, opt, e, nilM, ret]
        rw [← e2]
        exact q
      exact At.mutd lm (fun d v w' H' rp => ⟨rp, fun z => absurd z (by decide)⟩) h2 (by unfold RepL; rfl) fun _ => ha'⟩
end
/-! ### the mutations -/
def mAppend (xs as : List D) : Option (List D × D) := match as with
  | [d] => if xs.length < sizeLine then some (xs ++ [d], .non) else none
  | _ => none
def mPop (xs as : List D) : Option (List D × D) := match as with
  | [] => (xs[xs.length - 1]?).map fun y => (xs.dropLast, y)
  | _ => none
def mPopAt (xs as : List D) : Option (List D × D) := match as with
  | [.int i] => if -(2 ^ 63) ≤ i ∧ i < 2 ^ 63 then (seqIndex? i xs.length).bind fun k => (xs[k]?).map fun y => (xs.eraseIdx k, y) else none
  | _ => none
def mInsert (xs as : List D) : Option (List D × D) := match as with
  | [.int i, d] => if xs.length < sizeLine ∧ 0 ≤ i ∧ i < 2 ^ 63 then some (xs.take i.toNat ++ [d] ++ xs.drop i.toNat, .non) else none
  | _ => none
def mClear (xs as : List D) : Option (List D × D) := match as with
  | [] => some ([], .non)
  | _ => none
def mReverse (xs as : List D) : Option (List D × D) := match as with
  | [] => some (xs.reverse, .non)
  | _ => none
theorem repL_one {K : PySem.W.Frag} {g : G} {H : Hp} {d : D} {avs : List V} (r : RepL K g H [d] avs) : ∃ v, avs = [v] ∧ Rep K g H d v := by
  unfold RepL at r
  obtain ⟨v, ws, e, r, rs⟩ := r
  unfold RepL at rs
  subst rs
  exact ⟨v, e, r⟩
theorem repL_two {K : PySem.W.Frag} {g : G} {H : Hp} {c d : D} {avs : List V} (r : RepL K g H [c, d] avs) : ∃ u v, avs = [u, v] ∧ Rep K g H c u ∧ Rep K g H d v := by
  unfold RepL at r
  obtain ⟨v, ws, e, r, rs⟩ := r
  obtain ⟨v2, e2, r2⟩ := repL_one rs
  subst e2
  exact ⟨v, v2, e, r, r2⟩
theorem RepL.dropLast {K : PySem.W.Frag} {g : G} {H : Hp} {xs : List D} {vs : List V} (r : RepL K g H xs vs) : RepL K g H xs.dropLast vs.dropLast := by
  rw [List.dropLast_eq_take, List.dropLast_eq_take, RepL.len _ r]
  exact RepL.take _ r
theorem RepL.erase {K : PySem.W.Frag} {g : G} {H : Hp} {xs : List D} {vs : List V} (r : RepL K g H xs vs) (k : Nat) : RepL K g H (xs.eraseIdx k) (vs.eraseIdx k) := by
  rw [List.eraseIdx_eq_take_drop_succ, List.eraseIdx_eq_take_drop_succ]
  exact RepL.append (RepL.take _ r) (RepL.drop _ r)
theorem RepL.reverse {K : PySem.W.Frag} {g : G} {H : Hp} : ∀ {xs : List D} {vs : List V}, RepL K g H xs vs → RepL K g H xs.reverse vs.reverse
  | [], vs, r => by unfold RepL at r; subst r; simp [RepL]
  | x :: xs, vs, r => by
    unfold RepL at r
    obtain ⟨v, ws, e, r, rs⟩ := r
    subst e
    rw [List.reverse_cons, List.reverse_cons]
    exact RepL.append (RepL.reverse rs) (RepL.one r)
theorem lm_append : LMut rAppend mAppend := by
  intro K g H a xs vs as avs xs' d Q h r ra hm q
  unfold mAppend at hm
  split at hm
  · rename_i d'
    split at hm
    · rename_i hl
      cases hm
      obtain ⟨v, e, rv⟩ := repL_one ra
      subst e
      exact ⟨a, vs, v, rfl, rfl, h, by rw [RepL.len _ r]; exact hl, q _ _ (RepL.append r (RepL.one rv)) (by unfold Rep; rfl)⟩
    · cases hm
  · cases hm
theorem lm_pop : LMut rPop mPop := by
  intro K g H a xs vs as avs xs' d Q h r ra hm q
  unfold mPop at hm
  split at hm
  · cases e : xs[xs.length - 1]? with
    | none => rw [e] at hm; cases hm
    | some y =>
      rw [e] at hm
      cases hm
      obtain ⟨v, e1, rv⟩ := RepL.get _ r e
      unfold RepL at ra
      exact ⟨a, vs, v, rfl, ra, h, by rw [RepL.len _ r]; exact e1, q _ _ r.dropLast rv⟩
  · cases hm
theorem lm_popAt : LMut rPopAt mPopAt := by
  intro K g H a xs vs as avs xs' d Q h r ra hm q
  unfold mPopAt at hm
  split at hm
  · rename_i i
    split at hm
    · rename_i hb
      cases e : seqIndex? i xs.length with
      | none => rw [e] at hm; cases hm
      | some k =>
        rw [e] at hm
        simp only [Option.bind_some] at hm
        cases e2 : xs[k]? with
        | none => rw [e2] at hm; cases hm
        | some y =>
          rw [e2] at hm
          cases hm
          obtain ⟨v, e1, rv⟩ := RepL.get _ r e2
          obtain ⟨u, eu, ru⟩ := repL_one ra
          unfold Rep at ru
          subst ru eu
          exact ⟨a, vs, i, k, v, rfl, rfl, h, hb.1, hb.2, by rw [RepL.len _ r]; exact e, e1, q _ _ (r.erase k) rv⟩
    · cases hm
  · cases hm
theorem lm_clear : LMut rClear mClear := by
  intro K g H a xs vs as avs xs' d Q h r ra hm q
  unfold mClear at hm
  split at hm
  · cases hm
    unfold RepL at ra
    exact ⟨a, vs, rfl, ra, h, q [] _ (by unfold RepL; rfl) (by unfold Rep; rfl)⟩
  · cases hm
theorem lm_reverse : LMut rReverse mReverse := by
  intro K g H a xs vs as avs xs' d Q h r ra hm q
  unfold mReverse at hm
  split at hm
  · cases hm
    unfold RepL at ra
    exact ⟨a, vs, rfl, ra, h, q _ _ r.reverse (by unfold Rep; rfl)⟩
  · cases hm
theorem lm_insert : LMut (fun x vs H Q => ∃ (l : Addr) (xs : List V) (i : Int) (y : V), x = .ref l ∧ vs = [.int i, y] ∧ H l = some (.lst xs) ∧ xs.length < sizeLine ∧ 0 ≤ i ∧ i < 2 ^ 63 ∧ Q .non (upd H l (.lst (xs.take i.toNat ++ [y] ++ xs.drop i.toNat)))) mInsert := by
  intro K g H a xs vs as avs xs' d Q h r ra hm q
  unfold mInsert at hm
  split at hm
  · rename_i i d'
    split at hm
    · rename_i hb
      cases hm
      obtain ⟨u, v, e, ru, rv⟩ := repL_two ra
      unfold Rep at ru
      subst ru e
      exact ⟨a, vs, i, v, rfl, rfl, h, by rw [RepL.len _ r]; exact hb.1, hb.2.1, hb.2.2, q _ _ (RepL.append (RepL.append (RepL.take _ r) (RepL.one rv)) (RepL.drop _ r)) (by unfold Rep; rfl)⟩
    · cases hm
  · cases hm
/-! ### places as expressions -/
theorem epl_slot {i : Nat} {n : Str} {pos : Pos} (hN : X.N[i]? = some n := by rfl) (hv : Vis X.env.scope n := by first | exact Or.inl rfl | exact Or.inr (Or.inl rfl) | exact Or.inr (Or.inr rfl)) (hd : (n == ("__debug__" : Str)) = false := by decide)
    (hcd : (n == ("__classdict__" : Str)) = false := by decide) : EPl X B (.Name n pos) (.slot i) := ⟨(pe_var hN hv hd hcd).weak fun σ H Q ⟨w, R, ⟨xs, e⟩, q⟩ => by
  obtain ⟨a, vs, h1, _⟩ := Plc.ok (.slot i) R e
  exact ⟨.ref a, h1, q a h1⟩⟩
theorem epl_root {i : Nat} {n : Str} {pos : Pos} (hN : X.N[i]? = some n := by rfl) (hv : Vis X.env.scope n := by first | exact Or.inl rfl | exact Or.inr (Or.inl rfl) | exact Or.inr (Or.inr rfl)) (hd : (n == ("__debug__" : Str)) = false := by decide)
    (hcd : (n == ("__classdict__" : Str)) = false := by decide) : EPl X B (.Name n pos) (.root i) := ⟨(pe_var hN hv hd hcd).weak fun σ H Q ⟨w, R, ⟨xs, e⟩, q⟩ => by
  obtain ⟨a, vs, ⟨m, h1, h2⟩, _⟩ := Plc.ok (.root i) R e
  have e1 := slotN_eq h1
  obtain ⟨v, fr, e2, rc, _⟩ := R.sl.get e1
  have rp := rc.1
  unfold Rep at rp
  obtain ⟨b, b1, b2⟩ := rp
  rw [h2] at b1
  cases b1
  subst b2
  exact ⟨.ref a, e2, q a ⟨m, h1, h2⟩⟩⟩
end
end Ev

namespace Ev
open PySem PySem.Spec PyProof.Rows L2
/-! ### what stands in a shared object -/
def C.val? : C → Option D
  | .val d => some d
  | _ => none
def childL (s : FSt) (n : Nat) (i : D) : Option C := match i with
  | .int k => match s.st[n]? with
    | some (.lst cs) => atI cs k
    | _ => none
  | _ => none
def ixF (d i : D) (s : FSt) : Option D := match d with
  | .obj n => (childL s n i).bind C.val?
  | _ => cIx d i
def ixV (d i : D) (s : FSt) : Option D := match d with
  | .obj n => (childL s n i).map C.toD
  | _ => cIx d i
def getB {α : Type} (c : D → D → FSt → Option α) (m1 m2 : M D) : M α := bnd m1 fun a => bnd m2 fun b => get (c a b)
def fldC (s : FSt) (d : D) (cls : List Str) (f : Str) : Option C := match d with
  | .obj n => match s.st[n]? with
    | some (.ins c fs) => if c ∈ cls then lookC f fs else none
    | _ => none
  | _ => none
def fldF (cls : List Str) (f : Str) (m : M D) : M D := bnd m fun d => get fun s => (fldC s d cls f).bind C.val?
def fldV (cls : List Str) (f : Str) (m : M D) : M D := bnd m fun d => get fun s => (fldC s d cls f).map C.toD
/-- the classes of these names: their attribute f is plain -/
def Flds (K : PySem.W.Frag) (mg : Str → Option Value) (cls : List Str) (f : Str) : Prop := ∀ c ∈ cls, ∀ C, mg c = some (.ref C) → Cls K C ∧ NoAttr K C f
section
variable {K : PySem.W.Frag} {mg : Str → Option Value} {g : G} {H : Hp}
theorem RepOs.get {o : SO} : ∀ {os : List SO} {as f : List Addr} {n : Nat}, RepOs K mg g H os as f → os[n]? = some o → ∃ a m, as[n]? = some a ∧ RepO K mg g H o a m ∧ ∀ x ∈ m, x ∈ f
  | [], as, f, n, h, e => by simp at e
  | x :: os, as, f, 0, h, e => by
    unfold RepOs at h
    obtain ⟨a, bs, g1, g2, e1, e2, r1, rs⟩ := h
    simp at e
    subst e e1 e2
    exact ⟨a, g1, rfl, r1, fun x q => List.mem_append_left _ q⟩
  | x :: os, as, f, n + 1, h, e => by
    unfold RepOs at h
    obtain ⟨a, bs, g1, g2, e1, e2, r1, rs⟩ := h
    subst e1 e2
    obtain ⟨b, m, q1, q2, q3⟩ := RepOs.get (n := n) rs (by simpa using e)
    exact ⟨b, m, by simpa using q1, q2, fun x q => List.mem_append_right _ (q3 x q)⟩
theorem RepCs.len : ∀ {cs : List C} {vs : List V} {f : List Addr}, RepCs K g H cs vs f → vs.length = cs.length
  | [], vs, f, h => by
    obtain ⟨e, _⟩ := h
    subst e; rfl
  | c :: cs, vs, f, h => by
    unfold RepCs at h
    obtain ⟨a, bs, g1, g2, e1, e2, r1, rs⟩ := h
    subst e1
    simp [RepCs.len rs]
theorem RepCs.get {c : C} : ∀ {cs : List C} {vs : List V} {f : List Addr} {n : Nat}, RepCs K g H cs vs f → cs[n]? = some c → ∃ v m, vs[n]? = some v ∧ RepC K g H c v m ∧ ∀ x ∈ m, x ∈ f := fun {cs vs f n} h e => by
  obtain ⟨v, l, m, r, q1, q2, q3, _⟩ := RepCs.upd h e
  exact ⟨v, m, q1, q3, fun x q => by rw [q2]; exact List.mem_append_right _ (List.mem_append_left _ q)⟩
theorem Bor.obj {n : Nat} {v : V} (r : Bor K g H (.obj n) v) : ∃ a, g.ι[n]? = some a ∧ v = .ref a := by
  have r : Rep K g H (.obj n) v := r
  unfold Rep at r
  exact r
theorem RepCs.atI {c : C} {cs : List C} {vs : List V} {f : List Addr} {i : Int} (h : RepCs K g H cs vs f) (e : atI cs i = some c) : ∃ v m, L2.atI vs i = some v ∧ RepC K g H c v m ∧ ∀ x ∈ m, x ∈ f := by
  unfold L2.atI at e ⊢
  rw [RepCs.len h]
  cases k : ixN cs.length i with
  | none => rw [k] at e; cases e
  | some j =>
    rw [k] at e
    exact RepCs.get h e
end
section
variable {X : Cx} {B : Ent} {W : WX} {w w1 w2 : Wd} {σ : L2.St} {H H1 H2 : Hp} {p p1 p2 b b1 b2 : Bool} {a e eb : Expr} {pos : Pos} {f f1 f2 : M D}
/-- the child of a shared list -/
theorem childL_ok {n : Nat} {i : D} {c : C} {v u : V} (R : RelW X B w σ H) (h : childL w.s n i = some c) (bv : Bor X.K w.g H (.obj n) v) (bu : Bor X.K w.g H i u) {Q : VK}
    (q : ∀ z m, RepC X.K w.g H c z m → Q z H) : rIx X.K v u H Q := by
  cases i with
  | int k =>
    simp only [childL] at h
    cases e : w.s.st[n]? with
    | none => rw [e] at h; cases h
    | some o =>
      rw [e] at h
      cases o with
      | lst cs =>
        simp only at h
        obtain ⟨a, m, q1, ⟨vs, g1, q2, rc, _⟩, _⟩ := RepOs.get R.st e
        obtain ⟨a', e1, e2⟩ := bv.obj
        rw [q1] at e1
        cases e1
        obtain ⟨z, mz, z1, z2, _⟩ := rc.atI h
        exact .inl ⟨a, vs, k, z, e2, bu.int, .inl (.inl q2), z1, q z mz z2⟩
      | _ => cases h
  | _ => cases h
theorem ef_ixA (hs : PlainIx eb) (h : EV X B W b1 p1 a f1) (h2 : EV X B W b2 p2 eb f2) (hb : (b1 || p2) = true := by rfl) : EF X B W (p1 && p2) (.Subscript a eb pos) (getB ixF f1 f2) :=
  ⟨(pe_ix ix_seq h.h h2.h hs).weak fun σ H Q ⟨w, h⟩ => ⟨w, h.bnd fun d1 v1 w1 H1 st1 r1 h1 => ⟨w1, h1.bnd fun d2 v2 w2 H2 st2 r2 h2 => by
    obtain ⟨d, hd, R2, hq⟩ := h2.get
    have q1 : Bor X.K w2.g H2 d1 v1 := by
      rcases (Bool.or_eq_true _ _).mp hb with e | e
      · exact r1.2.1 e _ _ st2.ext
      · exact r1.1.grow (r2.2.2 e).n.ext
    have key : ∀ c, cIx d1 d2 = some c → d = c → rIx X.K v1 v2 H2 Q := fun c hc e => by
      subst e
      exact o2_ix w2.g H2 d1 v1 d2 v2 _ Q q1 r2.1 hc fun v g' H' n rep => hq v { w2 with g := g' } H' rfl (.new R2 n) ⟨rep, fun e => (Pure.and r1.2.2 r2.2.2 e).trans (.new n)⟩
    cases d1 with
    | obj n =>
      have hd : (childL w2.s n d2).bind C.val? = some d := hd
      cases ec : childL w2.s n d2 with
      | none => rw [ec] at hd; cases hd
      | some c =>
        rw [ec] at hd
        cases c with
        | val d' =>
          cases hd
          exact childL_ok R2 ec q1 r2.1 fun z m rc => hq z w2 H2 rfl (.refl R2) ⟨rc.1, fun e => Pure.and r1.2.2 r2.2.2 e⟩
        | _ => cases hd
    | _ => exact key d hd rfl⟩⟩⟩
theorem ev_ixA (hs : PlainIx eb) (h : EV X B W b1 p1 a f1) (h2 : EV X B W b2 p2 eb f2) (hb : (b1 || p2) = true := by rfl) : EV X B W false (p1 && p2) (.Subscript a eb pos) (getB ixV f1 f2) :=
  ⟨(pe_ix ix_seq h.h h2.h hs).weak fun σ H Q ⟨w, h⟩ => ⟨w, h.bnd fun d1 v1 w1 H1 st1 r1 h1 => ⟨w1, h1.bnd fun d2 v2 w2 H2 st2 r2 h2 => by
    obtain ⟨d, hd, R2, hq⟩ := h2.get
    have q1 : Bor X.K w2.g H2 d1 v1 := by
      rcases (Bool.or_eq_true _ _).mp hb with e | e
      · exact r1.2.1 e _ _ st2.ext
      · exact r1.1.grow (r2.2.2 e).n.ext
    have key : ∀ c, cIx d1 d2 = some c → d = c → rIx X.K v1 v2 H2 Q := fun c hc e => by
      subst e
      exact o2_ix w2.g H2 d1 v1 d2 v2 _ Q q1 r2.1 hc fun v g' H' n rep => hq v { w2 with g := g' } H' rfl (.new R2 n) ⟨rep.bor, (fun z => absurd z (by decide)), fun e => (Pure.and r1.2.2 r2.2.2 e).trans (.new n)⟩
    cases d1 with
    | obj n =>
      have hd : (childL w2.s n d2).map C.toD = some d := hd
      cases ec : childL w2.s n d2 with
      | none => rw [ec] at hd; cases hd
      | some c =>
        rw [ec] at hd
        cases hd
        exact childL_ok R2 ec q1 r2.1 fun z m rc => hq z w2 H2 rfl (.refl R2) ⟨rc.bor, (fun z => absurd z (by decide)), fun e => Pure.and r1.2.2 r2.2.2 e⟩
    | _ => exact key d hd rfl⟩⟩⟩
/-! ### attributes -/
theorem fldC_ok {cls : List Str} {fl : Str} {d : D} {c : C} {v : V} (R : RelW X B w σ H) (hf : Flds X.K X.mg cls fl) (h : fldC w.s d cls fl = some c) (bv : Bor X.K w.g H d v) :
    ∃ a Cl dx gs z m, v = .ref a ∧ H a = some (.ins Cl dx gs) ∧ Cls X.K Cl ∧ NoAttr X.K Cl fl ∧ gs.lookup fl = some z ∧ RepC X.K w.g H c z m := by
  cases d with
  | obj n =>
    simp only [fldC] at h
    cases e : w.s.st[n]? with
    | none => rw [e] at h; cases h
    | some o =>
      rw [e] at h
      cases o with
      | ins cl fs =>
        simp only at h
        split at h
        · rename_i hc
          obtain ⟨a, m, q1, ⟨Cl, dx, gs, g1, q2, ecl, ek, rc, _⟩, _⟩ := RepOs.get R.st e
          obtain ⟨a', e1, e2⟩ := bv.obj
          rw [q1] at e1
          cases e1
          obtain ⟨k, k1, k2, ⟨z, k3, k4⟩, _⟩ := lookup_zip (α := Unit) ek h
          obtain ⟨z2, mz, z1, z3, _⟩ := RepCs.get rc k2
          have ez : z = z2 := by
            rw [List.getElem?_map, k3] at z1
            exact Option.some.inj z1
          subst ez
          obtain ⟨hc1, hc2⟩ := hf cl hc Cl ecl
          exact ⟨a, Cl, dx, gs, z, mz, e2, q2, hc1, hc2, k4, z3⟩
        · cases h
      | _ => cases h
  | _ => cases h
theorem ef_fld {cls : List Str} {fl : Str} (hf : Flds X.K X.mg cls fl) (h : EF X B W p a f) (hb : attributeBase a fl X.env (eval a X.env) = eval a X.env := by rfl) : EF X B W p (.Attribute a fl pos) (fldF cls fl f) :=
  ⟨(pe_fld h.h hb).weak fun σ H Q ⟨w, h⟩ => ⟨w, h.bnd fun d v w1 H1 st r h1 => by
    obtain ⟨d', hd, R, q⟩ := h1.get
    cases ec : fldC w1.s d cls fl with
    | none => rw [ec] at hd; cases hd
    | some c =>
      rw [ec] at hd
      obtain ⟨a, Cl, dx, gs, z, m, e1, e2, e3, e4, e5, e6⟩ := fldC_ok R hf ec r.1.bor
      cases c with
      | val d2 =>
        cases hd
        exact ⟨a, Cl, dx, gs, z, e1, e2, e3, e4, e5, q z w1 H1 rfl (.refl R) ⟨e6.1, r.2⟩⟩
      | _ => cases hd⟩⟩
theorem ev_fld {cls : List Str} {fl : Str} (hf : Flds X.K X.mg cls fl) (h : EF X B W p a f) (hb : attributeBase a fl X.env (eval a X.env) = eval a X.env := by rfl) : EV X B W false p (.Attribute a fl pos) (fldV cls fl f) :=
  ⟨(pe_fld h.h hb).weak fun σ H Q ⟨w, h⟩ => ⟨w, h.bnd fun d v w1 H1 st r h1 => by
    obtain ⟨d', hd, R, q⟩ := h1.get
    cases ec : fldC w1.s d cls fl with
    | none => rw [ec] at hd; cases hd
    | some c =>
      rw [ec] at hd
      cases hd
      obtain ⟨a, Cl, dx, gs, z, m, e1, e2, e3, e4, e5, e6⟩ := fldC_ok R hf ec r.1.bor
      exact ⟨a, Cl, dx, gs, z, e1, e2, e3, e4, e5, q z w1 H1 rfl (.refl R) ⟨e6.bor, (fun z => absurd z (by decide)), r.2⟩⟩⟩⟩
/-! ### places within a shared object -/
theorem epl_ix {j k : Nat} {i : Int} (hi : i = k := by rfl) {jj : Nat} {pos2 : Pos} {n : Str} (hs : PlainIx (.Constant (.int i) jj pos2) := by exact fun _ _ => rfl) (hN : X.N[j]? = some n := by rfl) (hv : Vis X.env.scope n := by first | exact Or.inl rfl | exact Or.inr (Or.inl rfl) | exact Or.inr (Or.inr rfl)) (hd : (n == ("__debug__" : Str)) = false := by decide)
    (hcd : (n == ("__classdict__" : Str)) = false := by decide) {pos1 : Pos} : EPl X B (.Subscript (.Name n pos1) (.Constant (.int i) jj pos2) pos) (.ix j k) := ⟨(pe_ix ix_list (pe_var hN hv hd hcd) pe_int hs).weak fun σ H Q ⟨w, R, ⟨xs, e⟩, q⟩ => by
  obtain ⟨a, vs, h, _⟩ := Plc.ok (.ix j k) R e
  obtain ⟨m, b, us, h1, h2, h3, h4⟩ := id h
  have e1 := slotN_eq h1
  obtain ⟨v, fr, e2, rc, _⟩ := R.sl.get e1
  have rp := rc.1
  unfold Rep at rp
  obtain ⟨b', b1, b2⟩ := rp
  rw [h2] at b1
  cases b1
  subst b2 hi
  refine ⟨.ref b, e2, b, us, k, .ref a, rfl, rfl, .inl (.inl h3), ?_, q a h⟩
  unfold L2.atI ixN
  rw [if_pos (Int.natCast_nonneg k), if_pos (Int.ofNat_lt.mpr (List.getElem?_eq_some_iff.mp h4).1)]
  exact h4⟩
theorem epl_fld {j : Nat} {cls : List Str} {fl : Str} (hf : Flds X.K X.mg cls fl) {n : Str} (hN : X.N[j]? = some n := by rfl) (hv : Vis X.env.scope n := by first | exact Or.inl rfl | exact Or.inr (Or.inl rfl) | exact Or.inr (Or.inr rfl)) (hd : (n == ("__debug__" : Str)) = false := by decide)
    (hcd : (n == ("__classdict__" : Str)) = false := by decide) {pos1 : Pos} (hb : attributeBase (.Name n pos1) fl X.env (eval (.Name n pos1) X.env) = eval (.Name n pos1) X.env := by rfl) : EPl X B (.Attribute (.Name n pos1) fl pos) (.fld j cls fl) := ⟨(pe_fld (pe_var hN hv hd hcd) hb).weak fun σ H Q ⟨w, R, ⟨xs, e⟩, q⟩ => by
  obtain ⟨a, vs, h, _⟩ := Plc.ok (.fld j cls fl) R e
  obtain ⟨m, b, Cl, dx, gs, h1, h2, h3, h4⟩ := id h
  have e1 := slotN_eq h1
  obtain ⟨v, fr, e2, rc, _⟩ := R.sl.get e1
  have rp := rc.1
  unfold Rep at rp
  obtain ⟨b', b1, b2⟩ := rp
  rw [h2] at b1
  cases b1
  subst b2
  simp only [rdL] at e
  cases eo : objAt j w.s with
  | none => rw [eo] at e; cases e
  | some o =>
    rw [eo] at e
    cases o with
    | ins cl fs =>
      simp only at e
      split at e
      · rename_i hcl
        obtain ⟨n', a', m', q1, q2, ⟨Cl', dx', gs', g1, q3, ecl, _⟩, _⟩ := Rel.root R eo
        rw [h1] at q1
        cases q1
        rw [h2] at q2
        cases q2
        rw [h3] at q3
        cases q3
        obtain ⟨hc1, hc2⟩ := hf cl hcl Cl ecl
        exact ⟨.ref b, e2, b, Cl, dx, gs, .ref a, rfl, h3, hc1, hc2, h4, q a h⟩
      · cases e
    | _ => cases e⟩
/-! ### stores -/
/-- an item of a list, changed where it stands -/
def setIx (P : Plc) (m mi : M D) : S := bndS m fun d => bndS (get (rdL P)) fun _ => bndS mi fun i => fun s => match rdL P s, i with
  | some xs, .int k => match ixN xs.length k with
    | some j => .nx (wrL P s (xs.set j d))
    | none => .stuck
  | _, _ => .stuck
/-- a cell of a shared list -/
def setRt (j : Nat) (m mi : M D) : S := bndS m fun d => bndS (get (objAt j)) fun _ => bndS mi fun i => fun s => match objAt j s, i with
  | some (.lst cs), .int k => match ixN cs.length k with
    | some l => match cs[l]? with
      | some (.val _) => .nx (setObj j s (.lst (cs.set l (.val d))))
      | _ => .stuck
    | none => .stuck
  | _, _ => .stuck
variable {tg o : Expr} {spos tpos : Pos}
theorem es_setRt {j : Nat} {n : Str} {tp1 : Pos} (he : EF X B W p a f) (hi : EV X B W b2 true eb f2) (hN : X.N[j]? = some n := by rfl) (hv : Vis X.env.scope n := by first | exact Or.inl rfl | exact Or.inr (Or.inl rfl) | exact Or.inr (Or.inr rfl)) (hd : (n == ("__debug__" : Str)) = false := by decide) (hcd : (n == ("__classdict__" : Str)) = false := by decide)
    (hs : swapsWithSole [.Subscript (.Name n tp1) eb tpos] a spos.line X.env = pure false := by rfl) (hw : swappedStores [.Subscript (.Name n tp1) eb tpos] a X.env = pure none := by rfl)
    (h1 : (assignEach [.Subscript (.Name n tp1) eb tpos] X.env).map (·.2) = [assign (.Subscript (.Name n tp1) eb tpos) X.env] := by rfl)
    (ha : ∀ v, assign (.Subscript (.Name n tp1) eb tpos) X.env v = (do
      let ov ← holding [v] (eval (.Name n tp1) X.env)
      let iv ← holding [v, ov] (eval eb X.env)
      standAt tpos
      holding [v, ov, iv] (setItem ov iv v)
      release [v, ov, iv] []) := by intro _; rfl) :
    ES X B W (.Assign [.Subscript (.Name n tp1) eb tpos] a spos) (setRt j f f2) :=
  ⟨(ps_asg he.h (pg_sub (pe_var hN hv hd hcd) hi.h set_list ha) hs hw h1).weak fun D σ H ⟨w, h⟩ => ⟨w, h.bnd fun d v w1 H1 st1 r1 h1 => by
    have q1 := h1.2
    cases eo : objAt j w1.s with
    | none =>
      unfold bndS get opt at q1
      simp only [eo] at q1
    | some o0 =>
      have h2 : AtS X B W (bndS f2 fun i => fun s => match objAt j s, i with
        | some (.lst cs), .int k => match ixN cs.length k with
          | some l => match cs[l]? with
            | some (.val _) => .nx (setObj j s (.lst (cs.set l (.val d))))
            | _ => .stuck
          | none => .stuck
        | _, _ => .stuck) w1 σ H1 D := by
        refine ⟨h1.1, ?_⟩
        have e2 : ∀ k : SO → S, bndS (get (objAt j)) k w1.s = k o0 w1.s := fun k => by simp only [bndS, get, opt, eo]
        rw [e2] at q1
        exact q1
      obtain ⟨n0, a0, m0, z1, z2, _⟩ := Rel.root h1.1 eo
      obtain ⟨v0, fr, e2, rc, _⟩ := h1.1.sl.get (slotN_eq z1)
      have rp := rc.1
      unfold Rep at rp
      obtain ⟨b', b1, b2⟩ := rp
      rw [z2] at b1
      cases b1
      subst b2
      refine ⟨.ref a0, e2, w1, h2.bnd fun i u w2 H2 st2 r2 h3 => ?_⟩
      have pu := r2.2.2 rfl
      obtain ⟨R2, q3⟩ := h3
      rw [pu.s] at q3
      dsimp only at q3
      rw [eo] at q3
      cases o0 with
      | lst cs =>
        cases i with
        | int k =>
          simp only at q3
          cases el : ixN cs.length k with
          | none => rw [el] at q3; exact q3.elim
          | some l =>
            rw [el] at q3
            simp only at q3
            cases ec : cs[l]? with
            | none => rw [ec] at q3; exact q3.elim
            | some c =>
              rw [ec] at q3
              cases c with
              | val d0 =>
                simp only at q3
                have eo2 : objAt j w2.s = some (.lst cs) := by rw [pu.s]; exact eo
                obtain ⟨n, a2, m, y1, y2, ⟨vs, g1, y3, yc, ym⟩, y4, y4', y5, y6⟩ := Rel.root R2 eo2
                have en : n = n0 := by
                  rw [pu.s, z1] at y1
                  exact (Option.some.inj y1).symm
                subst en
                have ea : a2 = a0 := by
                  rw [pu.n.io, z2] at y2
                  exact (Option.some.inj y2).symm
                subst ea
                have hd : H2 a2 ≠ none := by rw [y3]; simp
                have am : a2 ∈ m := by rw [ym]; simp
                have nz : ¬ w2.g.Z a2 := R2.nz a2 (y4 a2 am)
                obtain ⟨vo, l1, mm, r1', p1, p2, ⟨_, p3⟩, p4⟩ := RepCs.upd yc ec
                subst p3
                refine ⟨a2, vs, k, l, rfl, r2.1.int, y3, by rw [RepCs.len yc]; exact el, ?_⟩
                have rd : Rep X.K w2.g H2 d v := Rep.ext st2.ext h1.1.zf d r1.1
                have nd := y5
                rw [ym, p2] at nd
                have hnl : ∀ x ∈ l1, x ∉ [a2] := fun x q z => by
                  rw [List.mem_singleton.mp z] at q
                  exact (List.nodup_cons.mp nd).1 (List.mem_append_left _ q)
                have hnr : ∀ x ∈ r1', x ∉ [a2] := fun x q z => by
                  rw [List.mem_singleton.mp z] at q
                  exact (List.nodup_cons.mp nd).1 (List.mem_append_right _ (by simpa using q))
                have R3 := y6 a2 (.lst (vs.set l v)) (.lst (cs.set l (.val d))) am ⟨vs.set l v, l1 ++ ([] ++ r1'), upd_same, p4 [a2] (.val d) v [] w2.g _ (.wr hd) (fun x z q => by rw [List.mem_singleton.mp q] at z; exact nz z) hnl hnr ⟨rd.wr hd nz, rfl⟩, by rw [ym, p2]⟩
                exact q3 σ { w2 with s := setObj j w2.s (.lst (cs.set l (.val d))) } _ (by rw [pu.s]) ⟨R3, (Ext.wr hd).mono (fun x z => by rw [List.mem_singleton.mp z]; exact y4 a2 am), .refl _ _⟩
              | _ => exact q3.elim
        | _ => exact q3.elim
      | _ => cases i <;> exact q3.elim⟩⟩
/-- an item of a list that one holds alone -/
theorem es_setIx {P : Plc} (he : EF X B W p a f) (ho : EPl X B o P) (hi : EV X B W b2 true eb f2)
    (hs : swapsWithSole [.Subscript o eb tpos] a spos.line X.env = pure false := by rfl) (hw : swappedStores [.Subscript o eb tpos] a X.env = pure none := by rfl)
    (h1 : (assignEach [.Subscript o eb tpos] X.env).map (·.2) = [assign (.Subscript o eb tpos) X.env] := by rfl)
    (ha : ∀ v, assign (.Subscript o eb tpos) X.env v = (do
      let ov ← holding [v] (eval o X.env)
      let iv ← holding [v, ov] (eval eb X.env)
      standAt tpos
      holding [v, ov, iv] (setItem ov iv v)
      release [v, ov, iv] []) := by intro _; rfl) :
    ES X B W (.Assign [.Subscript o eb tpos] a spos) (setIx P f f2) :=
  ⟨(ps_asg he.h (pg_sub ho.h hi.h set_list ha) hs hw h1).weak fun D σ H ⟨w, h⟩ => ⟨w, h.bnd fun d v w1 H1 st1 r1 h1 => by
    have q1 := h1.2
    cases eo : rdL P w1.s with
    | none =>
      unfold bndS get opt at q1
      simp only [eo] at q1
    | some xs0 =>
      have h2 : AtS X B W (bndS f2 fun i => fun s => match rdL P s, i with
        | some xs, .int k => match ixN xs.length k with
          | some j => .nx (wrL P s (xs.set j d))
          | none => .stuck
        | _, _ => .stuck) w1 σ H1 D := by
        refine ⟨h1.1, ?_⟩
        have e2 : ∀ k : List _root_.Ev.D → S, bndS (get (rdL P)) k w1.s = k xs0 w1.s := fun k => by simp only [bndS, get, opt, eo]
        rw [e2] at q1
        exact q1
      refine ⟨w1, h1.1, ⟨xs0, eo⟩, fun a0 ha0 => ⟨w1, h2.bnd fun i u w2 H2 st2 r2 h3 => ?_⟩⟩
      have pu := r2.2.2 rfl
      obtain ⟨R2, q3⟩ := h3
      rw [pu.s] at q3
      dsimp only at q3
      rw [eo] at q3
      cases i with
      | int k =>
        simp only at q3
        cases el : ixN xs0.length k with
        | none => rw [el] at q3; exact q3.elim
        | some l =>
          rw [el] at q3
          simp only at q3
          have eo2 : rdL P w2.s = some xs0 := by rw [pu.s]; exact eo
          obtain ⟨a2, vs, y1, y2, y3, y4, y5, y6⟩ := Plc.ok P R2 eo2
          have ea := AtP.inj (AtP.later st2 (by rw [pu.s]) (fun _ => pu) ha0) y1
          subst ea
          have hd : H2 a0 ≠ none := by rw [y2]; simp
          have rd : Rep X.K w2.g H2 d v := Rep.ext st2.ext h1.1.zf d r1.1
          refine ⟨a0, vs, k, l, rfl, r2.1.int, y2, by rw [RepL.len _ y3]; exact el, ?_⟩
          exact q3 σ { w2 with s := wrL P w2.s (xs0.set l d) } _ (by rw [pu.s]) ⟨y6 _ _ (RepL.set l y3 rd), (Ext.wr hd).mono (fun x z => by rw [List.mem_singleton.mp z]; exact y5), .refl _ _⟩
      | _ => exact q3.elim⟩⟩
end
end Ev

namespace Ev
open PySem PySem.Spec PyProof.Rows L2
/-! ### what is walked -/
section
variable (X : Cx) (B : Ent) (W : WX)
/-- J yields the items xs, from the world w on -/
structure Wk (J : It) (xs : List D) (w : Wd) (H : Hp) : Prop where
  stop : ∀ σ2 w2 H2, Step X B w H w2 σ2 H2 → J.stop xs.length H2
  go : ∀ i σ2 w2 H2, Step X B w H w2 σ2 H2 → i < xs.length → J.go i H2
  yld : ∀ i σ2 w2 H2 v H3, Step X B w H w2 σ2 H2 → i < xs.length → J.yld i H2 v H3 → ∃ d g2, xs[i]? = some d ∧ New w2.g H2 g2 H3 ∧ Rep X.K g2 H3 d v
structure EIt (tg iter : Expr) (m : M (List D)) : Prop where
  h : PI X tg iter (fun σ H R => ∃ w, At X B W (fun xs (J : It) w' H' => Wk X B J xs w' H') m w σ H R)
end
def itemsM (m : M D) : M (List D) := una D.items m
def rngM (m : M (Int × Int)) : M (List D) := bnd m fun r => ret (rngD r.1 r.2)
def forI (m : M (List D)) (g : D → S) (body : S) : S := bndS m (forL g body)
section
variable {X : Cx} {B : Ent} {W : WX} {w w1 w2 : Wd} {σ : L2.St} {H H1 H2 : Hp} {p p1 p2 b b1 b2 : Bool} {a e eb : Expr} {pos pp : Pos} {f f1 f2 : M D} {h : S} {α β : Type}
theorem _root_.L2.PI.weak {tg l : Expr} {t t' : TI} (h : PI X tg l t) (i : ∀ σ H R, t' σ H R → t σ H R) : PI X tg l t' := ⟨fun pins s σ H R I q => h.run pins s σ H R I (i σ H R q)⟩
theorem it_seq {tg : Expr} (hi : EF X B W p e f) : EIt X B W tg e (itemsM f) := ⟨(pi_seq hi.h).weak fun σ H R ⟨w, q⟩ => ⟨w, q.bnd fun d v w1 H1 st r q1 => by
  obtain ⟨xs, hx, R1, q2⟩ := q1.opt
  cases d with
  | lst ys =>
    cases hx
    have rp := r.1
    unfold Rep at rp
    obtain ⟨a, vs, e1, fl, rl⟩ := rp
    refine ⟨a, e1, .inl ⟨⟨vs, fl.1⟩, q2 _ w1 H1 rfl (.refl R1) ⟨fun σ2 w2 H2 s2 => ?_, fun i σ2 w2 H2 s2 hlt => ?_, fun i σ2 w2 H2 v' H3 s2 hlt hy => ?_⟩⟩⟩
    · exact ⟨vs, (fl.ext s2.ext R1.zf).1, by rw [RepL.len _ rl]; exact Nat.le_refl _⟩
    · have : i < vs.length := by rw [RepL.len _ rl]; exact hlt
      exact ⟨vs, vs[i], (fl.ext s2.ext R1.zf).1, List.getElem?_eq_getElem this⟩
    · obtain ⟨e2, hv⟩ := hy
      subst e2
      obtain ⟨u, hu, ru⟩ := RepL.get xs (RepL.ext s2.ext R1.zf xs rl) (List.getElem?_eq_getElem hlt)
      rw [hv vs (fl.ext s2.ext R1.zf).1] at hu
      cases hu
      exact ⟨_, w2.g, List.getElem?_eq_getElem hlt, .refl _ _, ru⟩
  | tup ys =>
    cases hx
    have rp := r.1
    unfold Rep at rp
    obtain ⟨a, vs, e1, fl, rl⟩ := rp
    refine ⟨a, e1, .inr ⟨⟨vs, fl.1⟩, q2 _ w1 H1 rfl (.refl R1) ⟨fun σ2 w2 H2 s2 => ?_, fun i σ2 w2 H2 s2 hlt => ?_, fun i σ2 w2 H2 v' H3 s2 hlt hy => ?_⟩⟩⟩
    · exact ⟨vs, (fl.ext s2.ext R1.zf).1, by rw [RepL.len _ rl]; exact Nat.le_refl _⟩
    · have : i < vs.length := by rw [RepL.len _ rl]; exact hlt
      exact ⟨vs, vs[i], (fl.ext s2.ext R1.zf).1, List.getElem?_eq_getElem this⟩
    · obtain ⟨e2, hv⟩ := hy
      subst e2
      obtain ⟨u, hu, ru⟩ := RepL.get xs (RepL.ext s2.ext R1.zf xs rl) (List.getElem?_eq_getElem hlt)
      rw [hv vs (fl.ext s2.ext R1.zf).1] at hu
      cases hu
      exact ⟨_, w2.g, List.getElem?_eq_getElem hlt, .refl _ _, ru⟩
  | _ => cases hx⟩⟩
theorem rng_wk (R : RelW X B w σ H) (lo hi : Int) : Wk X B (Itr lo (hi - lo).toNat) (rngD lo hi) w H where
  stop := fun _ _ _ _ => by
    show (hi - lo).toNat ≤ _
    simp [rngD]
  go := fun i _ _ _ _ hlt => by
    show i < (hi - lo).toNat
    simpa [rngD] using hlt
  yld := fun i σ2 w2 H2 v H3 s2 hlt hy => by
    obtain ⟨e1, e2⟩ := hy
    subst e1 e2
    refine ⟨.int (lo + i), w2.g, ?_, .refl _ _, by unfold Rep; rfl⟩
    have : i < (hi - lo).toNat := by simpa [rngD] using hlt
    simp [rngD, this]
theorem it_rng {tg : Expr} (hm : X.mg "range" = none) (hi : EV X B W b p a f) (hg : Gl X "range" := by rfl) (hs : starEach [a] X.env = [(false, eval a X.env)] := by rfl) : EIt X B W tg (.Call (.Name "range" pp) [a] [] pos) (rngM (una rngC f)) :=
  ⟨(pi_range1 hg hm (pa_cons hi.h pa_nil hs) hs).weak fun σ H R ⟨w, q⟩ => ⟨w, by
  have e0 : rngM (una rngC f) = bnd f fun d => bnd (opt (rngC d)) fun r => ret (rngD r.1 r.2) := by
    funext s
    unfold rngM una bnd
    cases f s <;> rfl
  rw [e0] at q
  refine q.bnd fun d v w1 H1 st r q1 => ?_
  cases d with
  | int n =>
    have e := Bor.int r.1
    subst e
    by_cases hn : -(2 ^ 62) ≤ n ∧ n < 2 ^ 62
    · have er : rngC (.int n) = some (0, n) := if_pos hn
      rw [er] at q1
      have q1 : At X B W _ (ret (rngD 0 n)) w1 σ H1 R := q1
      obtain ⟨R1, q2⟩ := q1.ret
      have z := q2 (Itr 0 (n - 0).toNat) w1 H1 rfl (.refl R1) (rng_wk R1 0 n)
      rw [Int.sub_zero] at z
      exact ⟨n, rfl, hn.1, hn.2, z⟩
    · have er : rngC (.int n) = none := if_neg hn
      rw [er] at q1
      exact q1.2.elim
  | _ => exact q1.2.elim⟩⟩
theorem it_rng2 {tg : Expr} (hm : X.mg "range" = none) (hi : EV X B W b1 p1 a f1) (hi2 : EV X B W b2 p2 eb f2) (hbb : (b1 || p2) = true := by rfl) (hg : Gl X "range" := by rfl)
    (hs : starEach [a, eb] X.env = [(false, eval a X.env), (false, eval eb X.env)] := by rfl) (hs2 : starEach [eb] X.env = [(false, eval eb X.env)] := by rfl) : EIt X B W tg (.Call (.Name "range" pp) [a, eb] [] pos) (rngM (bin rngC2 f1 f2)) :=
  ⟨(pi_range2 hg hm (pa_cons hi.h (pa_cons hi2.h pa_nil hs2) (by rw [hs, hs2])) hs hs2).weak fun σ H R ⟨w, q⟩ => ⟨w, by
  have e0 : rngM (bin rngC2 f1 f2) = bnd f1 fun d => bnd f2 fun d2 => bnd (opt (rngC2 d d2)) fun r => ret (rngD r.1 r.2) := by
    funext s
    unfold rngM bin bnd
    cases f1 s with
    | ok d s' =>
      simp only
      cases f2 s' <;> rfl
    | _ => rfl
  rw [e0] at q
  refine q.bnd fun d v w1 H1 st r q1 => ⟨w1, q1.bnd fun d2 v2 w2 H2 st2 r2 q2 => ?_⟩
  cases d with
  | int i =>
    have e := Bor.int r.1
    subst e
    cases d2 with
    | int n =>
      have e := Bor.int r2.1
      subst e
      by_cases hn : (-(2 ^ 62) ≤ i ∧ i < 2 ^ 62) ∧ -(2 ^ 62) ≤ n ∧ n < 2 ^ 62
      · have er : rngC2 (.int i) (.int n) = some (i, n) := if_pos hn
        rw [er] at q2
        have q2 : At X B W _ (ret (rngD i n)) w2 σ H2 R := q2
        obtain ⟨R2, q3⟩ := q2.ret
        exact ⟨i, n, rfl, ⟨hn.1.1, hn.1.2, hn.2.1, hn.2.2⟩, q3 _ w2 H2 rfl (.refl R2) (rng_wk R2 i n)⟩
      · have er : rngC2 (.int i) (.int n) = none := if_neg hn
        rw [er] at q2
        exact q2.2.elim
    | _ => exact q2.2.elim
  | _ => exact q2.2.elim⟩⟩
theorem es_forI {g : D → S} {body : List Stmt} {iter tg : Expr} {m : M (List D)} (hp : PassesOwn (model X.prog X.w) X.A X.env X.xe) (hc : X.calm = true) (hi : EIt X B W tg iter m) (hg : EPt X B W tg g) (hb : ESs X B W body h)
    (hs : ∀ x, foldedSetIterable iter X.env x = pure x := by intro _; rfl) : ES X B W (.For tg iter body [] pos) (forI m g h) := ⟨(ps_for hp hc hi.h hg.h hb.h hs).weak fun D σ H ⟨w, q⟩ => ⟨w, q.bnd fun xs J w1 H1 st r q1 =>
  for_items (J := J) (tg := TGt X B W g) (tb := TSt X B W h) (vs := List.replicate xs.length V.non) hg.nr (by simp) r.stop (fun i σ1 w1 H1 s hlt => r.go i σ1 w1 H1 s hlt) r.yld (fun v σ H Q d w rp h => ⟨d, w, rp, h⟩) (fun D σ H w h => ⟨w, h⟩) q1⟩⟩
/-! ### own lists that go elsewhere -/
/-- a slot's own object, taken out of it -/
def movM (i : Nat) : M C := fun s => match s.sl.getD i none with
  | some c => .ok c { s with sl := s.sl.set i none }
  | none => .stuck
/-- .. settled for good; the slot keeps it -/
def frzM (i : Nat) : M D := fun s => match s.sl.getD i none with
  | some c => .ok c.toD (s.put i (.val c.toD))
  | none => .stuck
theorem RepS.clear {K : PySem.W.Frag} {g : G} {c : C} : ∀ {cs : List (Option C)} {σ : L2.St} {f : List Addr} {i : Nat}, RepS K g H cs σ f → cs.getD i none = some c →
    ∃ v l m r, σ[i]? = some (some v) ∧ f = l ++ (m ++ r) ∧ RepC K g H c v m ∧ RepS K g H (cs.set i none) σ (l ++ r)
  | [], σ, f, i, h, e => by simp at e
  | x :: cs, σ, f, 0, h, e => by
    unfold RepS at h
    obtain ⟨a, bs, g1, g2, e1, e2, r1, rs⟩ := h
    simp at e
    subst e e1 e2
    obtain ⟨u, eu, r1⟩ := r1
    subst eu
    refine ⟨u, [], g1, g2, rfl, rfl, r1, ?_⟩
    show RepS K g H (none :: cs) (some u :: bs) g2
    unfold RepS
    exact ⟨some u, bs, [], g2, rfl, rfl, rfl, rs⟩
  | x :: cs, σ, f, i + 1, h, e => by
    unfold RepS at h
    obtain ⟨a, bs, g1, g2, e1, e2, r1, rs⟩ := h
    subst e1 e2
    obtain ⟨b, l, m, r, q1, q2, q3, q4⟩ := RepS.clear (i := i) rs (by simpa using e)
    subst q2
    refine ⟨b, g1 ++ l, m, r, by simpa using q1, by simp [List.append_assoc], q3, ?_⟩
    show RepS K g H (x :: cs.set i none) (a :: bs) (g1 ++ l ++ r)
    unfold RepS
    exact ⟨a, bs, g1, l ++ r, rfl, by rw [List.append_assoc], r1, q4⟩
/-- a slot's cell leaves it -/
theorem Rel.mov {i : Nat} {c : C} (R : RelW X B w σ H) (ec : w.s.sl.getD i none = some c) : ∃ v m f', σ[i]? = some (some v) ∧ RepC X.K w.g H c v m ∧ (∀ x ∈ m, x ∈ w.f1) ∧ (∀ x ∈ f', x ∈ w.f1) ∧ (∀ x ∈ m, x ∉ f' ++ w.f2) ∧
    RelW X B { w with s := { w.s with sl := w.s.sl.set i none }, f1 := f' } σ H := by
  obtain ⟨v, l, m, r, q1, q2, q3, q4⟩ := RepS.clear R.sl ec
  have nd : ((l ++ (m ++ r)) ++ w.f2).Nodup := by rw [← q2]; exact R.nd
  have sub : ∀ x, x ∈ l ++ r → x ∈ w.f1 := fun x z => by
    rw [q2]
    rcases List.mem_append.mp z with z | z
    · exact List.mem_append_left _ z
    · exact List.mem_append_right _ (List.mem_append_right _ z)
  have nd' : ((l ++ r) ++ w.f2).Nodup ∧ ∀ x ∈ m, x ∉ (l ++ r) ++ w.f2 := by
    simp only [List.append_assoc, List.nodup_append] at nd
    obtain ⟨n1, ⟨n2, ⟨n3, n4, n5⟩, n6⟩, n7⟩ := nd
    refine ⟨?_, fun x hx hz => ?_⟩
    · simp only [List.append_assoc, List.nodup_append]
      exact ⟨n1, ⟨n3, n4, n5⟩, fun a ha b hb => n7 a ha b (by simp only [List.mem_append] at hb ⊢; exact .inr hb)⟩
    · simp only [List.append_assoc, List.mem_append] at hz
      rcases hz with hz | hz | hz
      · exact n7 x hz x (by simp [hx]) rfl
      · exact n6 x hx x (by simp [hz]) rfl
      · exact n6 x hx x (by simp [hz]) rfl
  have up : ∀ x, x ∈ (l ++ r) ++ w.f2 → x ∈ w.f := fun x z => by
    rcases List.mem_append.mp z with z | z
    · exact List.mem_append_left _ (sub x z)
    · exact List.mem_append_right _ z
  exact ⟨v, m, l ++ r, q1, q3, fun x z => by rw [q2]; exact List.mem_append_right _ (List.mem_append_left _ z), sub, nd'.2, q4, R.st, nd'.1, fun x z => R.nz x (up x z), R.zd, R.ex, fun x z => R.ow x (up x z)⟩
section
variable {i : Nat} {n : Str}
theorem eg_mov (hN : X.N[i]? = some n := by rfl) (hv : Vis X.env.scope n := by first | exact Or.inl rfl | exact Or.inr (Or.inl rfl) | exact Or.inr (Or.inr rfl)) (hd : (n == ("__debug__" : Str)) = false := by decide)
    (hcd : (n == ("__classdict__" : Str)) = false := by decide) : EG X B W false (.Name n pos) (movM i) := ⟨(pe_var hN hv hd hcd).weak fun σ H Q ⟨w, R, q⟩ => by
  unfold movM at q
  cases ec : w.s.sl.getD i none with
  | none => simp only [ec] at q
  | some c =>
    simp only [ec] at q
    obtain ⟨v, m, f', q1, q2, q3, q4, q5, R'⟩ := Rel.mov R ec
    have up : ∀ x, x ∈ f' ++ w.f2 → x ∈ w.f := fun x z => by
      rcases List.mem_append.mp z with z | z
      · exact List.mem_append_left _ (q4 x z)
      · exact List.mem_append_right _ z
    exact ⟨v, q1, q v _ H rfl ⟨R', .refl _ _ _, fun x z => .inl (up x z)⟩ ⟨m, q2, fun x z => ⟨q5 x z, R.nz x (List.mem_append_left _ (q3 x z)), R.ow x (List.mem_append_left _ (q3 x z))⟩, fun x z => .inl (List.mem_append_left _ (q3 x z)), fun z => absurd z (by decide)⟩⟩⟩
theorem ef_frz (hN : X.N[i]? = some n := by rfl) (hv : Vis X.env.scope n := by first | exact Or.inl rfl | exact Or.inr (Or.inl rfl) | exact Or.inr (Or.inr rfl)) (hd : (n == ("__debug__" : Str)) = false := by decide)
    (hcd : (n == ("__classdict__" : Str)) = false := by decide) : EF X B W false (.Name n pos) (frzM i) := ⟨(pe_var hN hv hd hcd).weak fun σ H Q ⟨w, R, q⟩ => by
  unfold frzM at q
  cases ec : w.s.sl.getD i none with
  | none => simp only [ec] at q
  | some c =>
    simp only [ec] at q
    obtain ⟨v, m, f', q1, q2, q3, q4, q5, R'⟩ := Rel.mov R ec
    have hm : ∀ x ∈ m, x ∉ f' ++ w.f2 ∧ ¬ w.g.Z x ∧ (x ∈ B.F ∨ B.H x = none) := fun x z => ⟨q5 x z, R.nz x (List.mem_append_left _ (q3 x z)), R.ow x (List.mem_append_left _ (q3 x z))⟩
    have R2 := Rel.addL (w := { w with s := { w.s with sl := w.s.sl.set i none }, f1 := f' }) R' hm q2.dom
    obtain ⟨f3, R3, q6⟩ := Rel.put R2 (c := .val c.toD) (u := v) (fr := []) ⟨q2.settle, rfl⟩ (by simp) i
    have es : σ.set i (some v) = σ := by
      obtain ⟨hk, ek⟩ := List.getElem?_eq_some_iff.mp q1
      rw [← ek]; exact List.set_getElem_self hk
    rw [es] at R3
    have ep : ({ w.s with sl := w.s.sl.set i none } : FSt).put i (.val c.toD) = w.s.put i (.val c.toD) := by
      unfold FSt.put
      simp only [List.set_set]
    refine ⟨v, q1, q v _ H (by exact ep) ⟨R3, ⟨fun _ _ h _ => h, fun a z => .inl z, fun a z => z.elim .inl fun z => .inr (.inl (List.mem_append_left _ (q3 a z))), fun _ h => h, ⟨[], by simp [Wd.addL, G.addL]⟩⟩, fun x z => .inl ?_⟩ ⟨q2.settle, fun z => absurd z (by decide)⟩⟩
    rcases List.mem_append.mp z with z | z
    · rcases q6 x z with z | z
      · simp at z
      · exact List.mem_append_left _ (q4 x z)
    · exact List.mem_append_right _ z⟩
end
end
end Ev

namespace Ev
open PySem PySem.Spec PyProof.Rows L2
/-! ### list comprehensions -/
def wipeC (cs : List (Option C)) : List Nat → List (Option C)
  | [] => cs
  | i :: is => (wipeC cs is).set i none
def FSt.wipe (s : FSt) (is : List Nat) : FSt := { s with sl := wipeC s.sl is }
def keepC : Option C → Option C
  | some (.val d) => some (.val d)
  | _ => none
/-- behind the block: the block's own names hold what they held, if plain -/
def restC (o : List (Option C)) (cs : List (Option C)) : List Nat → List (Option C)
  | [] => cs
  | i :: is => (restC o cs is).set i (keepC (o.getD i none))
def FSt.rest (s o : FSt) (is : List Nat) : FSt := { s with sl := restC o.sl s.sl is }
def lcL (gS : D → S) (is : List Nat) (t : M Bool) (elt : M D) : List D → List D → M (List D)
  | [], acc => fun s => .ok acc (s.wipe is)
  | x :: xs, acc => fun s => match gS x (s.wipe is) with
    | .nx s2 => match t s2 with
      | .ok true s3 => match elt s3 with
        | .ok y s4 => if acc.length < sizeLine then lcL gS is t elt xs (acc ++ [y]) s4 else .stuck
        | _ => .stuck
      | .ok false s3 => lcL gS is t elt xs acc s3
      | _ => .stuck
    | _ => .stuck
def lcM (m : M (List D)) (gS : D → S) (is : List Nat) (t : M Bool) (elt : M D) : M C := bnd m fun xs => fun s0 => match lcL gS is t elt xs [] s0 with
  | .ok ys s' => .ok (.lst ys) (s'.rest s0 is)
  | _ => .stuck
def tYesM : M Bool := ret true
theorem set_comm' {α : Type} (l : List α) (a : α) (i j : Nat) : (l.set i a).set j a = (l.set j a).set i a := by
  by_cases h : i = j
  · subst h; rfl
  · exact List.set_comm a a h
theorem wipeC_set (i : Nat) : ∀ (is : List Nat) (cs : List (Option C)), wipeC (cs.set i none) is = (wipeC cs is).set i none
  | [], cs => rfl
  | j :: is, cs => by
    show (wipeC (cs.set i none) is).set j none = ((wipeC cs is).set j none).set i none
    rw [wipeC_set i is cs, set_comm']
theorem wipeC_idem : ∀ (is : List Nat) (cs : List (Option C)), wipeC (wipeC cs is) is = wipeC cs is
  | [], cs => rfl
  | i :: is, cs => by
    show (wipeC ((wipeC cs is).set i none) is).set i none = (wipeC cs is).set i none
    rw [wipeC_set, wipeC_idem is cs, List.set_set]
theorem wipe_idem (s : FSt) (is : List Nat) : (s.wipe is).wipe is = s.wipe is := by
  unfold FSt.wipe
  rw [wipeC_idem]
theorem lcL_wipe {gS : D → S} {is : List Nat} {t : M Bool} {elt : M D} : ∀ (xs acc : List D) (s : FSt), lcL gS is t elt xs acc (s.wipe is) = lcL gS is t elt xs acc s
  | [], acc, s => by
    show Out.ok acc _ = Out.ok acc _
    rw [wipe_idem]
  | x :: xs, acc, s => by
    unfold lcL
    rw [wipe_idem]
section
variable {K : PySem.W.Frag} {g : G} {H : Hp}
theorem RepS.none {x : Option V} : ∀ {cs : List (Option C)} {σ : L2.St} {f : List Addr} (i : Nat), RepS K g H cs σ f → ∃ f', RepS K g H (cs.set i none) (σ.set i x) f' ∧ (∀ a ∈ f', a ∈ f) ∧ ∀ e : List Addr, (f ++ e).Nodup → (f' ++ e).Nodup
  | [], σ, f, i, h => by
    obtain ⟨e1, e2⟩ := h
    subst e1 e2
    exact ⟨[], by simp [RepS], by simp, fun e h => h⟩
  | c :: cs, σ, f, 0, h => by
    unfold RepS at h
    obtain ⟨a, bs, g1, g2, e1, e2, r1, rs⟩ := h
    subst e1 e2
    refine ⟨g2, ?_, fun a q => List.mem_append_right _ q, fun e hn => ?_⟩
    · show RepS K g H (Option.none :: cs) (x :: bs) g2
      unfold RepS
      exact ⟨x, bs, [], g2, rfl, rfl, rfl, rs⟩
    · rw [List.append_assoc] at hn
      exact (List.nodup_append.mp hn).2.1
  | c :: cs, σ, f, i + 1, h => by
    unfold RepS at h
    obtain ⟨a, bs, g1, g2, e1, e2, r1, rs⟩ := h
    subst e1 e2
    obtain ⟨f', q1, q2, q3⟩ := RepS.none (x := x) i rs
    refine ⟨g1 ++ f', ?_, fun a q => ?_, fun e hn => ?_⟩
    · show RepS K g H (c :: cs.set i Option.none) (a :: bs.set i x) (g1 ++ f')
      unfold RepS
      exact ⟨a, _, g1, f', rfl, rfl, r1, q1⟩
    · rcases List.mem_append.mp q with q | q
      · exact List.mem_append_left _ q
      · exact List.mem_append_right _ (q2 a q)
    · rw [List.append_assoc] at hn ⊢
      rw [List.nodup_append] at hn ⊢
      refine ⟨hn.1, q3 e hn.2.1, fun a ha b hb => hn.2.2 a ha b ?_⟩
      rcases List.mem_append.mp hb with hb | hb
      · exact List.mem_append_left _ (q2 b hb)
      · exact List.mem_append_right _ hb
theorem RepS.wiped : ∀ (is : List Nat) {cs : List (Option C)} {σ : L2.St} {f : List Addr}, RepS K g H cs σ f → ∃ f', RepS K g H (wipeC cs is) (wipe σ is) f' ∧ (∀ a ∈ f', a ∈ f) ∧ ∀ e : List Addr, (f ++ e).Nodup → (f' ++ e).Nodup
  | [], cs, σ, f, h => ⟨f, h, fun _ q => q, fun _ q => q⟩
  | i :: is, cs, σ, f, h => by
    obtain ⟨f1, q1, q2, q3⟩ := RepS.wiped is h
    obtain ⟨f2, p1, p2, p3⟩ := RepS.none (x := Option.none) i q1
    exact ⟨f2, p1, fun a q => q2 a (p2 a q), fun e q => p3 e (q3 e q)⟩
/-- a slot that held nothing is given plain data again -/
theorem RepS.back {o : Option C} {x y : Option V} (ho : ∀ c, o = some c → ∃ d v, c = .val d ∧ x = some v ∧ Rep K g H d v) : ∀ {cs : List (Option C)} {σ : L2.St} {f : List Addr} (i : Nat), RepS K g H cs (σ.set i y) f → σ[i]? = some x → cs.getD i Option.none = Option.none → RepS K g H (cs.set i o) σ f
  | [], σ, f, i, h, e, z => by
    obtain ⟨e1, e2⟩ := h
    have : σ = [] := by
      have := congrArg List.length e1
      simp at this
      exact this
    subst this
    simp at e
  | c :: cs, [], f, i, h, e, z => by simp at e
  | c :: cs, s :: σ, f, 0, h, e, z => by
    have e : s = x := by simpa using e
    have z : c = Option.none := by simpa using z
    subst e z
    have h : RepS K g H (Option.none :: cs) (y :: σ) f := h
    unfold RepS at h
    obtain ⟨a, bs, g1, g2, e1, e2, r1, rs⟩ := h
    obtain ⟨e3, e4⟩ := List.cons.inj e1
    subst e3 e4 e2
    have r1 : g1 = [] := r1
    subst r1
    show RepS K g H (o :: cs) (s :: σ) ([] ++ g2)
    unfold RepS
    refine ⟨s, σ, [], g2, rfl, rfl, ?_, rs⟩
    cases o with
    | none => rfl
    | some c =>
      obtain ⟨d, v, q1, q2, q3⟩ := ho c rfl
      subst q1
      exact ⟨v, q2, q3, rfl⟩
  | c :: cs, s :: σ, f, i + 1, h, e, z => by
    have h : RepS K g H (c :: cs) (s :: σ.set i y) f := h
    unfold RepS at h
    obtain ⟨a, bs, g1, g2, e1, e2, r1, rs⟩ := h
    obtain ⟨e3, e4⟩ := List.cons.inj e1
    subst e3 e4 e2
    show RepS K g H (c :: cs.set i o) (s :: σ) (g1 ++ g2)
    unfold RepS
    exact ⟨s, σ, g1, g2, rfl, rfl, r1, RepS.back ho i rs (by simpa using e) (by simpa using z)⟩
theorem RepS.length : ∀ {cs : List (Option C)} {σ : L2.St} {f : List Addr}, RepS K g H cs σ f → σ.length = cs.length
  | [], σ, f, h => by
    obtain ⟨e1, _⟩ := h
    subst e1; rfl
  | c :: cs, σ, f, h => by
    unfold RepS at h
    obtain ⟨a, bs, g1, g2, e1, e2, r1, rs⟩ := h
    subst e1
    simp [RepS.length rs]
theorem wipe_len : ∀ (is : List Nat) (σ : L2.St), (wipe σ is).length = σ.length := fun is σ => wipe_length σ is
theorem wipeC_none : ∀ (is : List Nat) (cs : List (Option C)) (i : Nat), i ∈ is → (wipeC cs is).getD i Option.none = Option.none
  | j :: is, cs, i, h => by
    show ((wipeC cs is).set j Option.none).getD i Option.none = Option.none
    by_cases e : j = i
    · subst e
      by_cases hl : j < (wipeC cs is).length
      · simp [List.getD, List.getElem?_set_self hl]
      · simp [List.getD, List.getElem?_eq_none (show ((wipeC cs is).set j Option.none).length ≤ j by simpa using hl)]
    · have hi : i ∈ is := (List.mem_cons.mp h).resolve_left fun z => e z.symm
      have := wipeC_none is cs i hi
      simpa [List.getD, List.getElem?_set_ne e] using this
theorem wipe_set (i : Nat) : ∀ (is : List Nat) (σ : L2.St), wipe (σ.set i Option.none) is = (wipe σ is).set i Option.none
  | [], σ => rfl
  | j :: is, σ => by
    show (wipe (σ.set i Option.none) is).set j Option.none = ((wipe σ is).set j Option.none).set i Option.none
    rw [wipe_set i is, set_comm']
theorem wipe_wipe : ∀ (is : List Nat) (σ : L2.St), wipe (wipe σ is) is = wipe σ is
  | [], σ => rfl
  | j :: is, σ => by
    show (wipe ((wipe σ is).set j Option.none) is).set j Option.none = (wipe σ is).set j Option.none
    rw [wipe_set, wipe_wipe is σ, List.set_set]
theorem restC_none {o : List (Option C)} : ∀ (is : List Nat) {cs : List (Option C)} {i : Nat}, i ∉ is → cs.getD i Option.none = Option.none → (restC o cs is).getD i Option.none = Option.none
  | [], cs, i, _, h => h
  | j :: is, cs, i, hi, h => by
    have ne : j ≠ i := fun z => hi (by rw [z]; simp)
    have := restC_none (o := o) is (fun z => hi (List.mem_cons_of_mem _ z)) h
    show ((restC o cs is).set j (keepC (o.getD j Option.none))).getD i Option.none = Option.none
    simpa [List.getD, List.getElem?_set_ne ne] using this
/-- all of the block's names given back -/
theorem RepS.rest {o : List (Option C)} {f0 : List Addr} : ∀ (is : List Nat) {cs : List (Option C)} {σ : L2.St} {f : List Addr}, is.Nodup → RepS K g H cs (wipe σ is) f → (∀ i ∈ is, cs.getD i Option.none = Option.none) → (∀ i d, i ∈ is → o.getD i Option.none = some (.val d) → ∃ v, σ[i]? = some (some v) ∧ Rep K g H d v) →
    RepS K g H (restC o cs is) σ f
  | [], cs, σ, f, hn, h, hz, hr => h
  | i :: is, cs, σ, f, hn, h, hz, hr => by
    obtain ⟨hi, hn⟩ := List.nodup_cons.mp hn
    have h : RepS K g H cs ((wipe σ is).set i Option.none) f := h
    have e0 := wipe_set i is σ
    have h2 : RepS K g H cs (wipe (σ.set i Option.none) is) f := by rw [e0]; exact h
    have h3 := RepS.rest (o := o) (f0 := f0) is hn h2 (fun j hj => hz j (List.mem_cons_of_mem _ hj)) (fun j d hj e => by
      obtain ⟨v, q1, q2⟩ := hr j d (List.mem_cons_of_mem _ hj) e
      have ne : i ≠ j := fun z => hi (z ▸ hj)
      exact ⟨v, by rw [List.getElem?_set_ne ne]; exact q1, q2⟩)
    by_cases hil : i < σ.length
    case neg =>
      have hl3 := h3.length
      rw [List.length_set] at hl3
      have e1 : σ.set i Option.none = σ := List.set_eq_of_length_le (by omega)
      have e2 : restC o cs (i :: is) = restC o cs is := List.set_eq_of_length_le (by omega)
      rw [e2]
      rw [e1] at h3
      exact h3
    have hrest := restC_none (o := o) is hi (hz i (by simp))
    obtain ⟨x, hx⟩ : ∃ x, σ[i]? = some x := ⟨σ[i], List.getElem?_eq_getElem hil⟩
    refine RepS.back (x := x) (y := Option.none) (fun c hc => ?_) i h3 hx hrest
    cases eo : o.getD i Option.none with
    | none => rw [eo] at hc; cases hc
    | some c0 =>
      rw [eo] at hc
      cases c0 with
      | val d =>
        cases hc
        obtain ⟨v, q1, q2⟩ := hr i d (by simp) eo
        rw [hx] at q1
        exact ⟨d, v, rfl, Option.some.inj q1, q2⟩
      | _ => cases hc
end
section
variable {X : Cx} {B : Ent} {W : WX} {w w1 w2 : Wd} {σ σ2 : L2.St} {H H1 H2 : Hp} {p p1 p2 b b1 b2 : Bool} {a e eb : Expr} {pos pp : Pos} {f f1 f2 : M D} {h : S} {α β : Type}
theorem Rel.wiped (R : RelW X B w σ H) (is : List Nat) : ∃ f', RelW X B { w with s := w.s.wipe is, f1 := f' } (wipe σ is) H ∧ ∀ a ∈ f', a ∈ w.f1 := by
  obtain ⟨f', q1, q2, q3⟩ := RepS.wiped is R.sl
  have up : ∀ x, x ∈ f' ++ w.f2 → x ∈ w.f := fun x z => by
    rcases List.mem_append.mp z with z | z
    · exact List.mem_append_left _ (q2 x z)
    · exact List.mem_append_right _ z
  exact ⟨f', ⟨q1, R.st, q3 _ R.nd, fun x z => R.nz x (up x z), R.zd, R.ex, fun x z => R.ow x (up x z)⟩, q2⟩
theorem Step.wiped (st : Step X B w H w1 σ H1) (is : List Nat) : ∃ f', Step X B w H { w1 with s := w1.s.wipe is, f1 := f' } (wipe σ is) H1 ∧ ∀ a ∈ f', a ∈ w1.f1 := by
  obtain ⟨f', R, q⟩ := Rel.wiped st.rel is
  refine ⟨f', ⟨R, st.ext, fun x z => st.sub x ?_⟩, q⟩
  rcases List.mem_append.mp z with z | z
  · exact List.mem_append_left _ (q x z)
  · exact List.mem_append_right _ z
/-- something that is none of ours changes -/
theorem Rel.aside {D : Addr} {o : HO} (R : RelW X B w σ H) (hd : D ∉ w.f) (nz : ¬ w.g.Z D) (there : H D ≠ none) (hB : B.H D = none) : RelW X B w σ (upd H D o) := by
  have ex : Ext [D] w.g H w.g (upd H D o) := .wr there
  have zf : ∀ x, w.g.Z x → x ∉ [D] := fun x z q => by rw [List.mem_singleton.mp q] at z; exact nz z
  have nf : ∀ l : List Addr, (∀ x ∈ l, x ∈ w.f) → ∀ x ∈ l, x ∉ [D] := fun l hl x q z => by rw [List.mem_singleton.mp z] at q; exact hd (hl D q)
  exact ⟨R.sl.ext ex zf _ (nf _ fun x q => List.mem_append_left _ q), R.st.ext ex zf _ (nf _ fun x q => List.mem_append_right _ q), R.nd, R.nz, fun x z => ex.dom x (R.zd x z),
    ⟨fun a u q n => by
      have : a ≠ D := fun z => by rw [z, hB] at q; cases q
      rw [upd_ne this]; exact R.ex.keep a u q n, R.ex.z, R.ex.zn, fun a q => ex.dom a (R.ex.dom a q), R.ex.io⟩, R.ow⟩
/-- a comprehension's target -/
structure ECt (X : Cx) (B : Ent) (scope : Scope) (tg : Expr) (is : List Nat) (gS : D → S) : Prop where
  h : ∃ g : L2.TG, (∀ (s : Shared) (H : Hp) (Ca : Addr) (cl : List (Str × Addr)) (fp : List Addr), PG (X.blk s H scope (compEnvC scope cl Ca X.env) fp) tg g) ∧
    ∀ v σ H Q d w s', RelW X B w σ H → Rep X.K w.g H d v → gS d w.s = .nx s' → (∀ σ2 f1', RelW X B { w with s := s', f1 := f1' } σ2 H → (∀ a ∈ f1', a ∈ w.f1) → wipe σ2 is = wipe σ is → Q σ2 H) → g v σ H Q
theorem ect_name {scope : Scope} {i : Nat} {n : Str} (hg : ∀ (s : Shared) (H : Hp) (Ca : Addr) (cl : List (Str × Addr)) (fp : List Addr), PG (X.blk s H scope (compEnvC scope cl Ca X.env) fp) (.Name n pos) (gName i)) : ECt X B scope (.Name n pos) [i] (gNameS i) :=
  ⟨gName i, hg, fun v σ H Q d w s' R r e q => by
    cases e
    obtain ⟨f1', R2, hs⟩ := Rel.put R (c := .val d) (u := v) (fr := []) ⟨r, rfl⟩ (by simp) i
    refine q _ f1' R2 (fun a z => (hs a z).resolve_left (by simp)) ?_
    show (wipe (σ.set i (some v)) []).set i none = (wipe σ []).set i none
    show (σ.set i (some v)).set i none = σ.set i none
    rw [List.set_set]⟩
def noW : WX := fun _ _ _ _ => False
theorem At.okOf {α β : Type} {X' : Cx} {R : α → β → Wd → Hp → Prop} {m : M α} {a : α} {s' : FSt} {Q : β → Hp → Prop} (R0 : RelW X' B w σ H) (e : m w.s = .ok a s') (q : ∀ b w' H', w'.s = s' → Step X' B w H w' σ H' → R a b w' H' → Q b H') : At X' B noW R m w σ H Q := by
  refine ⟨R0, ?_⟩
  rw [e]
  exact q
theorem tlc_of {m : M (List D)} {g : L2.TG} {gS : D → S} {t : M Bool} {fe : M D} {is : List Nat} (hnd : is.Nodup)
    (hg2 : ∀ v σ H Q d w s', RelW X B w σ H → Rep X.K w.g H d v → gS d w.s = .nx s' → (∀ σ2 f1', RelW X B { w with s := s', f1 := f1' } σ2 H → (∀ a ∈ f1', a ∈ w.f1) → wipe σ2 is = wipe σ is → Q σ2 H) → g v σ H Q)
    {Q : VK} (q0 : TG X B W false (lcM m gS is t fe) σ H Q) :
    tLc (fun σ H R => ∃ w, At X B W (fun xs (J : It) w' H' => Wk X B J xs w' H') m w σ H R) g (TB X B noW p1 t) (TF X B noW p2 fe) is σ H Q := by
  obtain ⟨w, q⟩ := q0
  refine ⟨w, q.bnd fun xs J w1 H1 st1 wk q1 => fun Dl hDl => ?_⟩
  obtain ⟨R1, q2⟩ := q1
  cases er : lcL gS is t fe xs [] w1.s with
  | exc n s' => simp only [er] at q2
  | stuck => simp only [er] at q2
  | ok ys sf =>
    simp only [er] at q2
    have dlB : B.H Dl = none := by
      cases k : B.H Dl with
      | none => rfl
      | some o => exact absurd hDl (R1.ex.dom Dl (by rw [k]; simp))
    have st0 : Step X B w1 H1 w1 σ (upd H1 Dl (.lst [])) := by
      have n : New w1.g H1 w1.g (upd H1 Dl (.lst [])) := .own hDl
      exact Step.new R1 n
    have dlf1 : ∀ x ∈ w1.f, x ≠ Dl := fun x z e => R1.dom x z (by rw [e]; exact hDl)
    refine ⟨fun i mm Hi => mm = xs.length - i ∧ i ≤ xs.length ∧ ∃ wi acc vacc, Step X B w1 H1 wi (wipe σ is) Hi ∧ Dl ∉ wi.f ∧ ¬ wi.g.Z Dl ∧ Hi Dl = some (.lst vacc) ∧ RepL X.K wi.g Hi acc vacc ∧ lcL gS is t fe (xs.drop i) acc wi.s = .ok ys sf, ⟨xs.length, by simp, Nat.zero_le _, ?_⟩, ?_⟩
    · obtain ⟨f', st', hf'⟩ := Step.wiped st0 is
      refine ⟨_, [], [], st', fun z => ?_, fun z => R1.zd Dl z hDl, upd_same, by unfold RepL; rfl, ?_⟩
      · rcases List.mem_append.mp z with z | z
        · exact dlf1 Dl (List.mem_append_left _ (hf' Dl z)) rfl
        · exact dlf1 Dl (List.mem_append_right _ z) rfl
      · show lcL gS is t fe (xs.drop 0) [] (w1.s.wipe is) = _
        rw [lcL_wipe, List.drop_zero]
        exact er
    · rintro i mm Hi ⟨rfl, hi', wi, acc, vacc, sti, dn, dz, hD, rl, el⟩
      by_cases hlt' : i < xs.length
      · refine .inr ⟨wk.go i (wipe σ is) wi Hi sti hlt', fun H' => ∃ wi acc vacc, Step X B w1 H1 wi (wipe σ is) H' ∧ Dl ∉ wi.f ∧ ¬ wi.g.Z Dl ∧ H' Dl = some (.lst vacc) ∧ RepL X.K wi.g H' acc vacc ∧ lcL gS is t fe (xs.drop (i + 1)) acc wi.s = .ok ys sf, fun H' z => ⟨xs.length - (i + 1), by omega, rfl, hlt', z⟩, fun v H2 hy => ?_⟩
        · obtain ⟨d, g2, hd, n, rp⟩ := wk.yld i (wipe σ is) wi Hi v H2 sti hlt' hy
          have ed : xs.drop i = d :: xs.drop (i + 1) := by
            rw [List.drop_eq_getElem_cons hlt']
            rw [List.getElem?_eq_getElem hlt'] at hd
            rw [Option.some.inj hd]
          rw [ed] at el
          unfold lcL at el
          have st2 : Step X B wi Hi { wi with g := g2 } (wipe σ is) H2 := .new sti.rel n
          have hD2 : H2 Dl = some (.lst vacc) := n.ext.keep _ _ hD (by simp)
          have dz2 : ¬ g2.Z Dl := fun z => by
            rcases n.ext.zn Dl z with z | z | z
            · exact dz z
            · simp at z
            · rw [hD] at z; cases z
          have rl2 : RepL X.K g2 H2 acc vacc := RepL.ext n.ext (fun _ _ => by simp) acc rl
          obtain ⟨f3, R3, hf3⟩ := Rel.wiped st2.rel is
          have ew := wipe_wipe is σ
          rw [ew] at R3
          cases eg : gS d (wi.s.wipe is) with
          | nx s2 =>
            simp only [eg] at el
            refine hg2 v (wipe σ is) H2 _ d { wi with g := g2, s := wi.s.wipe is, f1 := f3 } s2 R3 rp eg fun σ4 f4 R4 hf4 hw4 => ⟨?_, ?_⟩
            · rw [hw4]; exact ew
            · -- the test
              have dn4 : Dl ∉ f4 ++ wi.f2 := fun z => dn (by
                rcases List.mem_append.mp z with z | z
                · exact List.mem_append_left _ (hf3 Dl (hf4 Dl z))
                · exact List.mem_append_right _ z)
              have sub4 : Sub w1.f H1 (f4 ++ wi.f2) := fun x z => by
                rcases List.mem_append.mp z with z | z
                · exact sti.sub x (List.mem_append_left _ (hf3 x (hf4 x z)))
                · exact sti.sub x (List.mem_append_right _ z)
              have ext4 : Ext w1.f w1.g H1 g2 H2 := (sti.trans st2).ext
              cases et : t s2 with
              | exc _ _ => simp [et] at el
              | stuck => simp [et] at el
              | ok bb s3 =>
                simp only [et] at el
                refine ⟨{ wi with g := g2, s := s2, f1 := f4 }, At.okOf R4 et fun b2 w5 H5 es5 st5 r5 => ?_⟩
                obtain ⟨eb2, _⟩ := r5
                subst eb2
                have hD5 : H5 Dl = some (.lst vacc) := st5.ext.keep _ _ hD2 dn4
                have dz5 : ¬ w5.g.Z Dl := fun z => by
                  rcases st5.ext.zn Dl z with z | z | z
                  · exact dz2 z
                  · exact dn4 z
                  · rw [hD2] at z; cases z
                have dn5 : Dl ∉ w5.f := fun z => by
                  rcases st5.sub Dl z with z | z
                  · exact dn4 z
                  · rw [hD2] at z; cases z
                have rl5 : RepL X.K w5.g H5 acc vacc := RepL.ext st5.ext R4.zf acc rl2
                have st15 : Step X B w1 H1 w5 σ4 H5 := ⟨st5.rel, ext4.trans st5.ext sub4, fun x z => by
                  rcases st5.sub x z with z | z
                  · exact sub4 x z
                  · right
                    cases k : H1 x with
                    | none => rfl
                    | some o => exact absurd z (ext4.dom x (by rw [k]; simp))⟩
                cases bb with
                | false =>
                  rw [if_neg Bool.false_ne_true]
                  obtain ⟨f6, st6, hf6⟩ := Step.wiped st15 is
                  rw [hw4, ew] at st6
                  refine ⟨_, acc, vacc, st6, fun z => dn5 ?_, dz5, hD5, rl5, ?_⟩
                  · rcases List.mem_append.mp z with z | z
                    · exact List.mem_append_left _ (hf6 Dl z)
                    · exact List.mem_append_right _ z
                  · show lcL gS is t fe (xs.drop (i + 1)) acc (w5.s.wipe is) = _
                    rw [lcL_wipe, es5]
                    exact el
                | true =>
                  rw [if_pos rfl]
                  cases ee : fe s3 with
                  | exc _ _ => simp [ee] at el
                  | stuck => simp [ee] at el
                  | ok y s4 =>
                    simp only [ee] at el
                    split at el
                    · rename_i hsz
                      subst es5
                      refine ⟨w5, At.okOf st5.rel ee fun u w6 H6 es6 st6 r6 => ?_⟩
                      have hD6 : H6 Dl = some (.lst vacc) := st6.ext.keep _ _ hD5 dn5
                      have dz6 : ¬ w6.g.Z Dl := fun z => by
                        rcases st6.ext.zn Dl z with z | z | z
                        · exact dz5 z
                        · exact dn5 z
                        · rw [hD5] at z; cases z
                      have dn6 : Dl ∉ w6.f := fun z => by
                        rcases st6.sub Dl z with z | z
                        · exact dn5 z
                        · rw [hD5] at z; cases z
                      have rl6 : RepL X.K w6.g H6 acc vacc := RepL.ext st6.ext st5.rel.zf acc rl5
                      have st16 := st15.trans st6
                      have hne : H6 Dl ≠ none := by rw [hD6]; simp
                      have R7 := Rel.aside (o := .lst (vacc ++ [u])) st16.rel dn6 dz6 hne dlB
                      have ex7 : Ext w1.f w1.g H1 w6.g (upd H6 Dl (.lst (vacc ++ [u]))) := st16.ext.trans (.wr hne) fun x z => by
                        rw [List.mem_singleton.mp z]
                        exact .inr hDl
                      obtain ⟨f8, st8, hf8⟩ := Step.wiped (⟨R7, ex7, st16.sub⟩ : Step X B w1 H1 w6 σ4 (upd H6 Dl (.lst (vacc ++ [u])))) is
                      rw [hw4, ew] at st8
                      refine ⟨vacc, hD6, by rw [RepL.len _ rl6]; exact hsz, _, acc ++ [y], vacc ++ [u], st8, fun z => dn6 ?_, dz6, upd_same, ?_, ?_⟩
                      · rcases List.mem_append.mp z with z | z
                        · exact List.mem_append_left _ (hf8 Dl z)
                        · exact List.mem_append_right _ z
                      · exact RepL.append (rl6.wr hne dz6) (RepL.one (r6.1.wr hne dz6))
                      · show lcL gS is t fe (xs.drop (i + 1)) (acc ++ [y]) (w6.s.wipe is) = _
                        rw [lcL_wipe, es6]
                        exact el
                    · cases el
          | _ => simp [eg] at el
      · have ei : i = xs.length := by omega
        subst ei
        refine .inl ⟨wk.stop _ wi Hi sti, ?_⟩
        rw [List.drop_length] at el
        have el : Out.ok acc (wi.s.wipe is) = Out.ok ys sf := el
        injection el with e1 e2
        subst e1 e2
        obtain ⟨f9, R9, hf9⟩ := Rel.wiped sti.rel is
        have ew := wipe_wipe is σ
        rw [ew] at R9
        have RS : RepS X.K wi.g Hi (restC w1.s.sl (wipeC wi.s.sl is) is) σ f9 := by
          refine RepS.rest (f0 := []) is hnd R9.sl (fun j hj => wipeC_none is _ j hj) (fun j d hj e => ?_)
          obtain ⟨u, fr, z1, z2, _⟩ := R1.sl.get e
          exact ⟨u, z1, Rep.ext sti.ext R1.zf d z2.1⟩
        have R10 : RelW X B { wi with s := (wi.s.wipe is).rest w1.s is, f1 := f9 } σ Hi := ⟨RS, R9.st, R9.nd, R9.nz, R9.zd, R9.ex, R9.ow⟩
        refine q2 (.ref Dl) { wi with s := (wi.s.wipe is).rest w1.s is, f1 := f9 } Hi rfl ⟨R10, sti.ext, fun x z => sti.sub x ?_⟩ ⟨[Dl], ⟨Dl, vacc, rfl, hD, rl, rfl⟩, fun x z => ?_, fun x z => ?_, fun z => absurd z (by decide)⟩
        · rcases List.mem_append.mp z with z | z
          · exact List.mem_append_left _ (hf9 x z)
          · exact List.mem_append_right _ z
        · rw [List.mem_singleton.mp z]
          refine ⟨fun y => dn ?_, dz, .inr dlB⟩
          rcases List.mem_append.mp y with y | y
          · exact List.mem_append_left _ (hf9 Dl y)
          · exact List.mem_append_right _ y
        · rw [List.mem_singleton.mp z]
          right
          cases k : H Dl with
          | none => rfl
          | some o => exact absurd hDl (st1.ext.dom Dl (by rw [k]; simp))
theorem tF_fz {f : M C} {Q : VK} : TF X B W p (fz f) σ H Q → TG X B W p f σ H Q := fun ⟨w, t⟩ =>
  ⟨w, t.map fun c v w1 H1 st ⟨fr, r, hn, hs, hp⟩ t => by
    have R1 : RelW X B (w1.addL fr) σ H1 := Rel.addL st.rel hn r.dom
    refine t v (w1.addL fr) H1 rfl ⟨R1, ⟨st.ext.keep, fun a z => .inl (st.ext.z a z), fun a z => z.elim (st.ext.zn a) fun z => .inr (hs a z), st.ext.dom, st.ext.io⟩, st.sub⟩ ⟨r.settle, fun e => ?_⟩
    obtain ⟨pu, n⟩ := hp e
    refine ⟨pu.s, pu.f1, pu.f2, ?_⟩
    exact ⟨⟨pu.n.ext.keep, fun a z => .inl (pu.n.ext.z a z), fun a z => z.elim (pu.n.ext.zn a) fun z => .inr (.inr (n a z)), pu.n.ext.dom, pu.n.ext.io⟩, pu.n.io, fun k a z => z.elim (pu.n.zd k a) (r.dom a)⟩⟩
theorem eg_lc {elt tg iter : Expr} {ifs : List Expr} {scope : Scope} {own : List (Str × Nat)} {m : M (List D)} {gS : D → S} {t : M Bool} {fe : M D} (hc : X.calm = true) (hN : X.N.Nodup) (hi : EIt X B W tg iter m) (ok : BlkOk X.N X.env.scope scope own)
    (hg : ECt X B scope tg (own.map (·.2)) gS)
    (ht : ∀ (s : Shared) (H : Hp) (Ca : Addr) (cl : List (Str × Addr)) (fp : List Addr), PTs (X.blk s H scope (compEnvC scope cl Ca X.env) fp) ifs (TB (X.blk s H scope (compEnvC scope cl Ca X.env) fp) B noW p1 t))
    (he : ∀ (s : Shared) (H : Hp) (Ca : Addr) (cl : List (Str × Addr)) (fp : List Addr), EF (X.blk s H scope (compEnvC scope cl Ca X.env) fp) B noW p2 elt fe) (hnd : (own.map (·.2)).Nodup := by decide) (hs : ∀ x, foldedSetIterable iter X.env x = pure x := by intro _; rfl) : EG X B W false (.ListComp elt [⟨tg, iter, ifs, 0⟩] scope pos) (lcM m gS (own.map (·.2)) t fe) := by
  obtain ⟨g, hg1, hg2⟩ := hg.h
  have ht' : ∀ (s : Shared) (H : Hp) (Ca : Addr) (cl : List (Str × Addr)) (fp : List Addr), PTs (X.blk s H scope (compEnvC scope cl Ca X.env) fp) ifs (TB X B noW p1 t) := ht
  have he' : ∀ (s : Shared) (H : Hp) (Ca : Addr) (cl : List (Str × Addr)) (fp : List Addr), PE (X.blk s H scope (compEnvC scope cl Ca X.env) fp) elt (TF X B noW p2 fe) := fun s H Ca cl fp => (he s H Ca cl fp).h
  exact ⟨(pe_lc hc hN hi.h ok hg1 ht' he' hs).weak fun σ H Q q => tlc_of hnd hg2 q⟩
/-- name = [..] -/
theorem es_setLc {elt tg iter : Expr} {n : Str} {i : Nat} {pos' : Pos} {ifs : List Expr} {scope : Scope} {own : List (Str × Nat)} {m : M (List D)} {gS : D → S} {t : M Bool} {fe : M D} (hc : X.calm = true) (hN : X.N.Nodup) (hi : EIt X B W tg iter m) (ok : BlkOk X.N X.env.scope scope own)
    (hg : ECt X B scope tg (own.map (·.2)) gS)
    (ht : ∀ (s : Shared) (H : Hp) (Ca : Addr) (cl : List (Str × Addr)) (fp : List Addr), PTs (X.blk s H scope (compEnvC scope cl Ca X.env) fp) ifs (TB (X.blk s H scope (compEnvC scope cl Ca X.env) fp) B noW p1 t))
    (he : ∀ (s : Shared) (H : Hp) (Ca : Addr) (cl : List (Str × Addr)) (fp : List Addr), EF (X.blk s H scope (compEnvC scope cl Ca X.env) fp) B noW p2 elt fe) (hnd : (own.map (·.2)).Nodup := by decide) (hs : ∀ x, foldedSetIterable iter X.env x = pure x := by intro _; rfl)
    (hy : X.N[i]? = some n := by rfl) (hl : X.env.scope.names.lookup n = some .local := by rfl)
    (hsw : swapsWith (.ListComp elt [⟨tg, iter, ifs, 0⟩] scope pos) (some (.Name n pos')) pp.line X.env = pure true := by first | exact sw_true rfl rfl rfl rfl | rfl) : ES X B W (.Assign [.Name n pos'] (.ListComp elt [⟨tg, iter, ifs, 0⟩] scope pos) pp) (setC i (lcM m gS (own.map (·.2)) t fe)) := by
  obtain ⟨g, hg1, hg2⟩ := hg.h
  have ht' : ∀ (s : Shared) (H : Hp) (Ca : Addr) (cl : List (Str × Addr)) (fp : List Addr), PTs (X.blk s H scope (compEnvC scope cl Ca X.env) fp) ifs (TB X B noW p1 t) := ht
  have he' : ∀ (s : Shared) (H : Hp) (Ca : Addr) (cl : List (Str × Addr)) (fp : List Addr), PE (X.blk s H scope (compEnvC scope cl Ca X.env) fp) elt (TF X B noW p2 fe) := fun s H Ca cl fp => (he s H Ca cl fp).h
  exact ⟨(ps_setLc hc hN hy hl hsw hi.h ok hg1 ht' he' hs).weak fun D σ H ⟨w, h⟩ => tlc_of hnd hg2 ⟨w, h.bnd2 fun c v w1 H1 s1 es st ⟨fr, r, hn, hsub, _⟩ h1 => by
    obtain ⟨f1', st'⟩ := Step.put st r hn hsub i
    exact h1 _ _ _ (by rw [es]) st'⟩⟩
/-- .. settled for good -/
theorem es_setLcF {elt tg iter : Expr} {n : Str} {i : Nat} {pos' : Pos} {ifs : List Expr} {scope : Scope} {own : List (Str × Nat)} {m : M (List D)} {gS : D → S} {t : M Bool} {fe : M D} (hc : X.calm = true) (hN : X.N.Nodup) (hi : EIt X B W tg iter m) (ok : BlkOk X.N X.env.scope scope own)
    (hg : ECt X B scope tg (own.map (·.2)) gS)
    (ht : ∀ (s : Shared) (H : Hp) (Ca : Addr) (cl : List (Str × Addr)) (fp : List Addr), PTs (X.blk s H scope (compEnvC scope cl Ca X.env) fp) ifs (TB (X.blk s H scope (compEnvC scope cl Ca X.env) fp) B noW p1 t))
    (he : ∀ (s : Shared) (H : Hp) (Ca : Addr) (cl : List (Str × Addr)) (fp : List Addr), EF (X.blk s H scope (compEnvC scope cl Ca X.env) fp) B noW p2 elt fe) (hnd : (own.map (·.2)).Nodup := by decide) (hs : ∀ x, foldedSetIterable iter X.env x = pure x := by intro _; rfl)
    (hy : X.N[i]? = some n := by rfl) (hl : X.env.scope.names.lookup n = some .local := by rfl)
    (hsw : swapsWith (.ListComp elt [⟨tg, iter, ifs, 0⟩] scope pos) (some (.Name n pos')) pp.line X.env = pure true := by first | exact sw_true rfl rfl rfl rfl | rfl) : ES X B W (.Assign [.Name n pos'] (.ListComp elt [⟨tg, iter, ifs, 0⟩] scope pos) pp) (setF i (fz (lcM m gS (own.map (·.2)) t fe))) := by
  obtain ⟨g, hg1, hg2⟩ := hg.h
  have ht' : ∀ (s : Shared) (H : Hp) (Ca : Addr) (cl : List (Str × Addr)) (fp : List Addr), PTs (X.blk s H scope (compEnvC scope cl Ca X.env) fp) ifs (TB X B noW p1 t) := ht
  have he' : ∀ (s : Shared) (H : Hp) (Ca : Addr) (cl : List (Str × Addr)) (fp : List Addr), PE (X.blk s H scope (compEnvC scope cl Ca X.env) fp) elt (TF X B noW p2 fe) := fun s H Ca cl fp => (he s H Ca cl fp).h
  exact ⟨(ps_setLc hc hN hy hl hsw hi.h ok hg1 ht' he' hs).weak fun D σ H ⟨w, h⟩ => tlc_of hnd hg2 (tF_fz ⟨w, h.bnd fun d v w1 H1 st r h1 => by
    obtain ⟨f1', st'⟩ := Step.put (Step.refl h1.1) (c := .val d) (u := v) (fr := []) ⟨r.1, rfl⟩ (by simp) (fun a q => by simp at q) i
    exact h1.2 _ _ _ rfl st'⟩)⟩
end
end Ev

namespace Ev
open PySem PySem.Spec PyProof.Rows L2
/-! ### isinstance of a built-in class -/
def tyN : D → Option String
  | .non => some "NoneType"
  | .bl _ => some "bool"
  | .int _ => some "int"
  | .str _ => some "str"
  | .tup _ => some "tuple"
  | .lst _ => some "list"
  | .dct _ => some "dict"
  | _ => none
def isB (t T : String) : Bool := t == T || (t == "bool" && T == "int")
def cIsi (T : String) (d : D) : Option D := (tyN d).map fun t => .bl (isB t T)
def tyNames : List String := ["NoneType", "bool", "int", "str", "tuple", "list", "dict"]
def rIsiA (K : PySem.W.Frag) (T : String) : V → Hp → VK → Prop := fun x H Q => rIsi K [x, .ty T] H Q
section
variable {K : PySem.W.Frag}
theorem bor_ty {g : G} {H : Hp} {d : D} {v : V} {t : String} (b : Bor K g H d v) (h : tyN d = some t) : TyX K H v (.type t) ∧ t ∈ tyNames := by
  cases d with
  | non => cases h; rw [b.non]; exact ⟨.base .non, by simp [tyNames]⟩
  | bl i => cases h; rw [b.bl]; exact ⟨.base (.bl i), by simp [tyNames]⟩
  | int i => cases h; rw [b.int]; exact ⟨.base (.int i), by simp [tyNames]⟩
  | str i => cases h; rw [b.str.1]; exact ⟨.base (.str i), by simp [tyNames]⟩
  | tup xs =>
    cases h
    obtain ⟨a, vs, e, f, r⟩ := b.tup
    subst e
    refine ⟨?_, by simp [tyNames]⟩
    rcases f.1 with (q | ⟨o, q⟩) | ⟨o, its, n, q1, q2, _⟩
    · exact .base (.tup q)
    · exact .fTuple q
    · exact .kTuple q1 q2
  | lst xs =>
    cases h
    obtain ⟨a, vs, e, f, r⟩ := b.lst
    subst e
    refine ⟨?_, by simp [tyNames]⟩
    rcases f with (q | ⟨o, q⟩) | ⟨o, its, n, q1, q2, _⟩
    · exact .base (.lst q)
    · exact .base (.frz q)
    · exact .kList q1 q2
  | dct xs =>
    cases h
    obtain ⟨a, vs, e, f, r⟩ := b
    subst e
    refine ⟨?_, by simp [tyNames]⟩
    rcases f with q | ⟨o, q⟩
    · exact .base (.dK q)
    · exact .fDict q
  | _ => cases h
theorem o1_isi {T : String} (hT : ∀ t ∈ tyNames, kitB t T = some (isB t T)) : Op1 K (cIsi T) (rIsiA K T) := by
  intro g H d v d' Q b hc m
  unfold cIsi at hc
  cases e : tyN d with
  | none => rw [e] at hc; cases hc
  | some t =>
    rw [e] at hc
    cases hc
    obtain ⟨h1, h2⟩ := bor_ty b e
    exact ⟨v, .ty T, .type t, .type T, isB t T, rfl, .ty T, h1, kit_ty (hT t h2), m.bl⟩
end
section
variable {X : Cx} {B : Ent} {W : WX} {w w1 w2 : Wd} {σ σ2 : L2.St} {H H1 H2 : Hp} {p p1 p2 b b1 b2 : Bool} {k : Nat} {a e eb : Expr} {pos pp pq : Pos} {f f1 f2 : M D} {h : S} {α β : Type}
theorem ef_isi {n : Str} {T : String} (hm0 : X.mg "isinstance" = none) (hm : X.mg n = none) (hv : bootBuiltins n = some (.type T)) (ha : EV X B W b p a f) (hT : ∀ t ∈ tyNames, kitB t T = some (isB t T) := by decide +kernel) (hg0 : Gl X "isinstance" := by rfl) (hg : Gl X n := by rfl)
    (hs : starEach [a, .Name n pq] X.env = (false, eval a X.env) :: starEach [.Name n pq] X.env := by rfl) (hs2 : starEach [.Name n pq] X.env = (false, eval (.Name n pq) X.env) :: starEach [] X.env := by rfl) (hn : n ≠ "__name__" := by decide) (hdb : (n == ("__debug__" : Str)) = false := by decide) :
    EF X B W p (.Call (.Name "isinstance" pp) [a, .Name n pq] [] pos) (una (cIsi T) f) :=
  ⟨(pe_callB call_isi hg0 hm0 (by decide +kernel) (pa_cons ha.h (pa_cons (pe_bltn hg hm hv (v := .ty T) rfl hn hdb) pa_nil hs2) hs) (by decide) (by decide) hs (by rw [hs2]; rfl)).weak fun σ H Q q => tF1 (r := rIsiA X.K T) (o1_isi hT) q⟩
/-! ### raise -/
def excS (n : Str) : S := fun s => .exc n s
/-- an error class of the program -/
structure ExF (K : PySem.W.Frag) (C : Addr) : Prop where
  kp : PySem.W.keepIn K (.ref C) = true
  ex : PySem.W.excIn K C [.type "ValueError", .type "Exception", .type "BaseException", .type "object"] "ValueError.__new__" = true
  sub : PySem.W.subIn K (.ref C) (.type "BaseException") = some true
  ty : PySem.W.typeIn K (.ref C) = some (.type "type")
theorem es_raise {n m : Str} {Cl : Addr} {j : Nat} {p1 p2 p3 : Pos} (bd : Bd X W k) (hm : X.mg n = some (.ref Cl)) (x : ExF X.K Cl) (hg : Gl X n := by rfl) (hdb : (n == ("__debug__" : Str)) = false := by decide) :
    ES X B W (.Raise (some (.Call (.Name n p1) [.Constant (.str m) j p2] [] p3)) none pos) (excS n) :=
  ⟨(ps_raise bd.calm bd.tk (pmk_own PySem.F.excBase_ValueError x.ex hm x.kp (raises_own x.sub x.ty) hg hdb)).weak fun D σ H ⟨w, h⟩ => h.2 Cl σ w H rfl hm (.refl h.1)⟩
/-! ### try, where nothing is raised -/
def thruS (h : S) : S := fun s => match h s with
  | .exc _ _ => .stuck
  | r => r
theorem es_thru {body : List Stmt} {h₀ : ExceptHandler} {hs : List ExceptHandler} (hb : ESs X.nox B noW body h) : ES X B W (.Try body (h₀ :: hs) [] [] pos) (thruS h) := ⟨(ps_try_thru0 hb.h).weak fun D σ H ⟨w, q⟩ => ⟨w, q.1, by
  have q2 := q.2
  unfold thruS at q2
  cases e : h w.s with
  | exc n s => simp only [e] at q2
  | nx s => simp only [e] at q2; exact q2
  | rt d s => simp only [e] at q2; exact q2
  | bk s => simp only [e] at q2; exact q2
  | ct s => simp only [e] at q2; exact q2
  | stuck => simp only [e] at q2⟩⟩
theorem Bd.nox (bd : Bd X W k) : Bd X.nox noW k := ⟨bd.calm, bd.nd, L2.takes0, bd.room⟩
end
end Ev

namespace Ev
open PySem PySem.Spec PyProof.Rows L2
/-! ### a list that is shared from now on -/
def valM (m : M D) : M C := bnd m fun d => ret (.val d)
def nilC : M (List C) := ret []
def consC (m : M C) (n : M (List C)) : M (List C) := bnd m fun c => bnd n fun cs => ret (c :: cs)
def shareL (m : M (List C)) : M D := bnd m fun cs => fun s => if cs.length ≤ sizeLine then .ok (.obj s.st.length) { s with st := s.st ++ [.lst cs] } else .stuck
section
variable {X : Cx} {B : Ent} {W : WX} {w w1 w2 : Wd} {σ σ2 : L2.St} {H H1 H2 : Hp} {p p1 p2 b b1 b2 : Bool} {k : Nat} {a e eb : Expr} {pos pp pq : Pos} {f f1 f2 : M D} {h : S} {α β : Type}
theorem EF.g (h : EF X B W p e f) : EG X B W p e (valM f) := ⟨h.h.weak fun σ H Q ⟨w, h⟩ => ⟨w, h.bnd fun d v w1 H1 st r h1 => by
  obtain ⟨R, q⟩ := h1.ret
  exact q v w1 H1 rfl (.refl R) ⟨[], ⟨r.1, rfl⟩, by simp, fun x z => by simp at z, fun e => ⟨r.2 e, by simp⟩⟩⟩⟩
def RCs (X : Cx) (B : Ent) (w : Wd) (H : Hp) (cs : List C) (vs : List V) (w' : Wd) (H' : Hp) : Prop :=
  ∃ fr, RepCs X.K w'.g H' cs vs fr ∧ fr.Nodup ∧ (∀ a ∈ fr, a ∉ w'.f ∧ ¬ w'.g.Z a ∧ (a ∈ B.F ∨ B.H a = none)) ∧ Sub w.f H fr
structure ECs (X : Cx) (B : Ent) (W : WX) (es : List Expr) (m : M (List C)) : Prop where
  h : PA X es (TX X B W (RCs X B) m)
theorem ecs_nil : ECs X B W [] nilC := ⟨pa_nil.weak fun σ H Q ⟨w, h⟩ => by
  obtain ⟨R, q⟩ := h.ret
  exact q [] w H rfl (.refl R) ⟨[], ⟨rfl, rfl⟩, by simp, by simp, fun x z => by simp at z⟩⟩
/-- others' steps leave a given cell alone -/
theorem given_later {fr : List Addr} {w w1 : Wd} {H H1 : Hp} (st : Step X B w H w1 σ H1) (R0 : RelW X B w σ2 H) (hd : ∀ a ∈ fr, H a ≠ none) (h : ∀ a ∈ fr, a ∉ w.f ∧ ¬ w.g.Z a ∧ (a ∈ B.F ∨ B.H a = none)) : ∀ a ∈ fr, a ∉ w1.f ∧ ¬ w1.g.Z a ∧ (a ∈ B.F ∨ B.H a = none) := fun a q => by
  obtain ⟨h1, h2, h3⟩ := h a q
  refine ⟨fun z => ?_, fun z => ?_, h3⟩
  · rcases st.sub a z with z | z
    · exact h1 z
    · exact hd a q z
  · rcases st.ext.zn a z with z | z | z
    · exact h2 z
    · exact h1 z
    · exact hd a q z
theorem ecs_cons {es : List Expr} {m : M C} {ms : M (List C)} (h1 : EG X B W p e m) (h2 : ECs X B W es ms) (hs : starEach (e :: es) X.env = (false, eval e X.env) :: starEach es X.env := by rfl) : ECs X B W (e :: es) (consC m ms) :=
  ⟨(pa_cons h1.h h2.h hs).weak fun σ H Q ⟨w, h⟩ => ⟨w, h.bnd fun c v w1 H1 st1 ⟨fr, r1, n1, s1, _⟩ h1 => ⟨w1, h1.bnd fun cs vs w2 H2 st2 ⟨fr2, r2, nd2, n2, s2⟩ h2 => by
    obtain ⟨R, q⟩ := h2.ret
    have keep := given_later st2 st1.rel r1.dom n1
    refine q _ w2 H2 rfl (.refl R) ⟨fr ++ fr2, ?_, ?_, ?_, ?_⟩
    · unfold RepCs
      exact ⟨v, vs, fr, fr2, rfl, rfl, r1.ext st2.ext st1.rel.zf fun a q => (n1 a q).1, r2⟩
    · refine List.nodup_append.mpr ⟨r1.nodup, nd2, fun a qa b qb e => ?_⟩
      subst e
      rcases s2 a qb with z | z
      · exact (n1 a qa).1 z
      · exact r1.dom a qa z
    · intro a z
      rcases List.mem_append.mp z with z | z
      · exact keep a z
      · exact n2 a z
    · intro a z
      rcases List.mem_append.mp z with z | z
      · exact s1 a z
      · exact Sub.trans st1 s2 a z⟩⟩⟩
theorem RepOs.snoc {K : PySem.W.Frag} {mg : Str → Option Value} {g : G} {H : Hp} {o : SO} {a : Addr} {m : List Addr} (r : RepO K mg g H o a m) : ∀ {os : List SO} {as f : List Addr}, RepOs K mg g H os as f → RepOs K mg g H (os ++ [o]) (as ++ [a]) (f ++ m)
  | [], as, f, h => by
    obtain ⟨e1, e2⟩ := h
    subst e1 e2
    show RepOs K mg g H (o :: []) (a :: []) m
    unfold RepOs
    exact ⟨a, [], m, [], rfl, by simp, r, ⟨rfl, rfl⟩⟩
  | x :: os, as, f, h => by
    unfold RepOs at h
    obtain ⟨b, bs, g1, g2, e1, e2, r1, rs⟩ := h
    subst e1 e2
    show RepOs K mg g H (x :: (os ++ [o])) (b :: (bs ++ [a])) _
    unfold RepOs
    exact ⟨b, _, g1, g2 ++ m, rfl, by rw [List.append_assoc], r1, RepOs.snoc r rs⟩
theorem RepOs.length {K : PySem.W.Frag} {mg : Str → Option Value} {g : G} {H : Hp} : ∀ {os : List SO} {as f : List Addr}, RepOs K mg g H os as f → as.length = os.length
  | [], as, f, h => by
    obtain ⟨e1, _⟩ := h
    subst e1; rfl
  | x :: os, as, f, h => by
    unfold RepOs at h
    obtain ⟨b, bs, g1, g2, e1, e2, r1, rs⟩ := h
    subst e1
    simp [RepOs.length rs]
/-- a given object joins the shared ones -/
theorem Step.share {o : SO} {u : HO} {q : Addr} {fr : List Addr} (R : RelW X B w σ H) (nq : H q = none) (hr : ∀ g', (∃ t, g'.ι = w.g.ι ++ t) → g'.Z = w.g.Z → RepO X.K X.mg g' (upd H q u) o q (q :: fr)) (nd : fr.Nodup) (hf : ∀ a ∈ fr, H a ≠ none ∧ a ∉ w.f ∧ ¬ w.g.Z a ∧ (a ∈ B.F ∨ B.H a = none)) :
    RelW X B { g := { w.g with ι := w.g.ι ++ [q] }, s := { w.s with st := w.s.st ++ [o] }, f1 := w.f1, f2 := w.f2 ++ (q :: fr) } σ (upd H q u) ∧ Ext [] w.g H { w.g with ι := w.g.ι ++ [q] } (upd H q u) := by
  have ex : Ext [] w.g H { w.g with ι := w.g.ι ++ [q] } (upd H q u) := by
    have e0 : Ext [] w.g H w.g (upd H q u) := .upd_new nq _
    exact ⟨e0.keep, e0.z, e0.zn, e0.dom, ⟨[q], rfl⟩⟩
  have hqB : B.H q = none := by
    cases k : B.H q with
    | none => rfl
    | some o => exact absurd nq (R.ex.dom q (by rw [k]; simp))
  have nqf : ∀ a ∈ w.f, a ≠ q := fun a z e => R.dom a z (by rw [e]; exact nq)
  have nqr : ∀ a ∈ fr, a ≠ q := fun a z e => (hf a z).1 (by rw [e]; exact nq)
  refine ⟨⟨R.sl.ext ex (fun _ _ => by simp) _ (fun _ _ => by simp), RepOs.snoc (hr { w.g with ι := w.g.ι ++ [q] } ⟨[q], rfl⟩ rfl) (R.st.ext ex (fun _ _ => by simp) _ (fun _ _ => by simp)), ?_, fun a z y => ?_, fun a z => ex.dom a (R.zd a z), R.ex.trans ex fun x q => by simp at q, fun a z => ?_⟩, ex⟩
  · rw [← List.append_assoc]
    refine List.nodup_append.mpr ⟨R.nd, List.nodup_cons.mpr ⟨fun z => nqr q z rfl, nd⟩, fun a qa b qb e => ?_⟩
    subst e
    rcases List.mem_cons.mp qb with z | z
    · exact nqf a qa z
    · exact (hf a z).2.1 qa
  · rw [← List.append_assoc] at z
    rcases List.mem_append.mp z with z | z
    · exact R.nz a z y
    · rcases List.mem_cons.mp z with z | z
      · subst z; exact R.zd a y nq
      · exact (hf a z).2.2.1 y
  · rw [← List.append_assoc] at z
    rcases List.mem_append.mp z with z | z
    · exact R.ow a z
    · rcases List.mem_cons.mp z with z | z
      · subst z; exact .inr hqB
      · exact (hf a z).2.2.2
theorem At.bnd2 {γ δ : Type} {R : α → γ → Wd → Hp → Prop} {R1 : β → δ → Wd → Hp → Prop} {m : M β} {k : β → M α} {Q : γ → Hp → Prop} {Q1 : δ → Hp → Prop} (h : At X B W R (Ev.bnd m k) w σ H Q)
    (next : ∀ a b w1 H1, Step X B w H w1 σ H1 → R1 a b w1 H1 → (match k a w1.s with
      | .ok a s' => ∀ b w' H', w'.s = s' → Step X B w H w' σ H' → R a b w' H' → Q b H'
      | .exc n s' => ∀ Cl w' H', w'.s = s' → X.mg n = some (.ref Cl) → Step X B w H w' σ H' → W (.ref Cl) none σ H'
      | .stuck => False) → Q1 b H1) : At X B W R1 m w σ H Q1 := by
  obtain ⟨R0, h⟩ := h
  refine ⟨R0, ?_⟩
  unfold Ev.bnd at h
  cases e : m w.s with
  | ok a s1 =>
    rw [e] at h
    intro b w1 H1 es st r
    subst es
    exact next a b w1 H1 st r h
  | exc n s1 =>
    rw [e] at h
    exact h
  | stuck =>
    rw [e] at h
    exact h
theorem ef_share {es : List Expr} {m : M (List C)} (h : ECs X B W es m) : EF X B W false (.List es pos) (shareL m) := ⟨(pe_lst h.h).weak fun σ H Q ⟨w, h⟩ => ⟨w, h.bnd2 fun cs vs w1 H1 st1 ⟨fr, r, nd, hn, hs⟩ q => by
  have R := st1.rel
  by_cases hl : cs.length ≤ sizeLine
  · rw [if_pos hl] at q
    refine ⟨by rw [RepCs.len r]; exact hl, fun pa hp => ?_⟩
    have dom := RepCs.dom _ r
    obtain ⟨R2, ex⟩ := Step.share (o := .lst cs) (u := .lst vs) R hp (fun g' hio hz => ⟨vs, fr, upd_same, r.ext (F := []) (by
      have e0 : Ext [] w1.g H1 w1.g (upd H1 pa (.lst vs)) := .upd_new hp _
      exact ⟨e0.keep, fun a z => by rw [hz]; exact z, fun a z => by rw [hz] at z; exact .inl z, e0.dom, hio⟩) (fun _ _ => by simp) _ (fun _ _ => by simp), rfl⟩) nd (fun a z => ⟨dom a z, hn a z⟩)
    refine q (.ref pa) _ _ rfl ⟨R2, st1.ext.trans ex (by simp), fun x z => ?_⟩ ⟨?_, fun z => absurd z (by decide)⟩
    · have z : x ∈ w1.f1 ++ (w1.f2 ++ pa :: fr) := z
      rw [← List.append_assoc] at z
      rcases List.mem_append.mp z with z | z
      · exact st1.sub x z
      · rcases List.mem_cons.mp z with z | z
        · subst z
          right
          cases k : H x with
          | none => rfl
          | some o => exact absurd hp (st1.ext.dom x (by rw [k]; simp))
        · exact hs x z
    · unfold Rep
      refine ⟨pa, ?_, rfl⟩
      show (w1.g.ι ++ [pa])[w1.s.st.length]? = some pa
      rw [← RepOs.length R.st]
      simp
  · rw [if_neg hl] at q
    exact q.elim⟩⟩
end
end Ev

namespace Ev
open PySem PySem.Spec PyProof.Rows L2
/-! ### zip of lists and tuples, in any mix -/
def SqB : Bool → PySem.W.Frag → Hp → Addr → List V → Prop
  | true, K, H, a, xs => SqL K H a xs
  | false, K, H, a, xs => SqT K H a xs
def ItB : Bool → Heap → Addr → Addr → Nat → Prop
  | true, h, it, l, i => h.IsListIter it l i
  | false, h, it, l, i => h.IsTupleIter it l i
def HasB : Bool → Heap → Addr → Array Value → Prop
  | true, h, l, xs => h.IsList l xs
  | false, h, l, xs => h.IsTuple l xs
theorem drawB (b : Bool) {prog : Program} {w : World} {A : Around} (hh : A.handled = none) (it l : Addr) (hne : l ≠ it) (items : Array Value) :
    Draws prog w A it [it, l] items.size (fun i v => items[i]? = some v) (fun i h => ItB b h it l i ∧ HasB b h l items) := by
  cases b with
  | true => exact Draws.list hh it l hne items
  | false => exact Draws.tuple hh it l hne items
theorem ItB.obj {b : Bool} {h : Heap} {it l : Addr} {i : Nat} (x : ItB b h it l i) : ∃ o, h.get? it = some o ∧ ∀ v, o.data ≠ .cell v := by
  cases b with
  | true =>
    obtain ⟨o, e, _, d⟩ := x
    exact ⟨o, e, fun v q => by rw [d] at q; cases q⟩
  | false =>
    obtain ⟨o, e, _, d⟩ := x
    exact ⟨o, e, fun v q => by rw [d] at q; cases q⟩
theorem ItB.at {b : Bool} {h h' : Heap} {it l : Addr} {i : Nat} (x : ItB b h it l i) (k : ∀ o, h.get? it = some o → h'.get? it = some o) : ItB b h' it l i := by
  cases b with
  | true => exact Heap.IsListIter.at (show h.IsListIter it l i from x) k
  | false => exact Heap.IsTupleIter.at (show h.IsTupleIter it l i from x) k
theorem SqB.inv {b : Bool} {X : Cx} {pins : List (Addr × Obj)} {σ : L2.St} {H : Hp} {s : Shared} {a : Addr} {xs : List V} (I : Inv X pins σ H s) (h : SqB b X.K H a xs) :
    ∃ its : List Value, Vals xs its ∧ HasB b s.heap a its.toArray ∧ a < s.heap.objs.size := by
  cases b with
  | true =>
    obtain ⟨its, rv, p, _⟩ := I.list (show SqL X.K H a xs from h)
    exact ⟨its, rv, p.isList, p.lt⟩
  | false =>
    obtain ⟨its, rv, p, _⟩ := I.tuple (show SqT X.K H a xs from h)
    obtain ⟨o, ho, _⟩ := id p
    exact ⟨its, rv, p, Heap.lt_size ho⟩
theorem SqB.inj {b : Bool} {X : Cx} {pins : List (Addr × Obj)} {σ : L2.St} {H : Hp} {s : Shared} {a : Addr} {xs ys : List V} (I : Inv X pins σ H s) (h : SqB b X.K H a xs) (h2 : SqB b X.K H a ys) : xs = ys := by
  cases b with
  | true => exact I.list_inj (show SqL X.K H a xs from h) (show SqL X.K H a ys from h2)
  | false => exact I.tuple_inj (show SqT X.K H a xs from h) (show SqT X.K H a ys from h2)
def ItzB (b1 b2 : Bool) (K : PySem.W.Frag) (a c : Addr) : It :=
  ⟨fun i H => ∃ (xs ys : List V) (x y : V), SqB b1 K H a xs ∧ SqB b2 K H c ys ∧ xs[i]? = some x ∧ ys[i]? = some y,
    fun i H v H' => ∃ T x y, v = .ref T ∧ H T = none ∧ H' = upd H T (.tup [x, y]) ∧ (∀ xs, SqB b1 K H a xs → xs[i]? = some x) ∧ ∀ ys, SqB b2 K H c ys → ys[i]? = some y,
    fun i H => ∃ xs ys : List V, SqB b1 K H a xs ∧ SqB b2 K H c ys ∧ i ≤ xs.length ∧ i ≤ ys.length ∧ (i = xs.length ∨ i = ys.length)⟩
theorem turn_zipB {P : Program} {w : World} {K : PySem.W.Frag} {elts : List Expr} {kk : Nat} {tpos : Pos} {b1 b2 : Bool} {a c z TI TO i1 i2 : Addr} (S : ZipSep2 z TI TO i1 i2 [i1, a] [i2, c]) :
    Turn P w K (.Tuple elts kk tpos) (ItzB b1 b2 K a c) [z, TI, TO, i1, i2] z (fun i h => IsZip h z TI TO .none ∧ IsTupOf2 h TI (.ref i1) (.ref i2) ∧ (∃ x y, IsTupOf2 h TO x y) ∧ ItB b1 h i1 a i ∧ ItB b2 h i2 c i) where
  mem := by simp
  obj := fun i h st b hb => by
    obtain ⟨hz, hTI, ⟨x, y, hTO⟩, h1, h2⟩ := st
    have e' : b = z ∨ b = TI ∨ b = TO ∨ b = i1 ∨ b = i2 := by simpa using hb
    rcases e' with q | q | q | q | q
    · rw [q]; exact ⟨_, hz, fun v q => nomatch q⟩
    · rw [q]; exact ⟨_, hTI, fun v q => nomatch q⟩
    · rw [q]; exact ⟨_, hTO, fun v q => nomatch q⟩
    · rw [q]; exact h1.obj
    · rw [q]; exact h2.obj
  keep := fun i h h' st k => by
    obtain ⟨hz, hTI, ⟨x, y, hTO⟩, h1, h2⟩ := st
    exact ⟨k z (by simp) _ hz, k TI (by simp) _ hTI, ⟨x, y, k TO (by simp) _ hTO⟩, h1.at fun o q => k i1 (by simp) o q, h2.at fun o q => k i2 (by simp) o q⟩
  item := by
    intro X hP hw hK hc i pins s σ H E I hf st hg
    subst hP hw hK
    obtain ⟨hz, hTI, ⟨x0, y0, hTO⟩, h1, h2⟩ := st
    obtain ⟨xs, ys, x, y, hqx, hqy, hx, hy⟩ := hg
    obtain ⟨its, rv, p, _⟩ := hqx.inv I
    obtain ⟨its2, rv2, p2, _⟩ := hqy.inv I
    obtain ⟨u, hu, ru⟩ := rv.get hx
    obtain ⟨u2, hu2, ru2⟩ := rv2.get hy
    have hzl : z < s.heap.objs.size := Heap.lt_size hz
    have hn := I.ok.hd hc
    have ni1 : a ≠ i1 := fun e => by
      obtain ⟨o, ho, _⟩ := h1.obj
      have := (hf i1 (by simp)).1
      subst e
      cases b1 with
      | true =>
        obtain ⟨o1, e1, c1, _⟩ := (show s.heap.IsListIter a a i from h1)
        obtain ⟨o2, e2, c2, _⟩ := (show s.heap.IsList a its.toArray from p)
        rw [e1] at e2; cases e2
        rw [c1] at c2; exact absurd c2 (by decide)
      | false =>
        obtain ⟨o1, e1, c1, _⟩ := (show s.heap.IsTupleIter a a i from h1)
        obtain ⟨o2, e2, c2, _⟩ := (show s.heap.IsTuple a its.toArray from p)
        rw [e1] at e2; cases e2
        rw [c1] at c2; exact absurd c2 (by decide)
    have ni2 : c ≠ i2 := fun e => by
      subst e
      cases b2 with
      | true =>
        obtain ⟨o1, e1, c1, _⟩ := (show s.heap.IsListIter c c i from h2)
        obtain ⟨o2, e2, c2, _⟩ := (show s.heap.IsList c its2.toArray from p2)
        rw [e1] at e2; cases e2
        rw [c1] at c2; exact absurd c2 (by decide)
      | false =>
        obtain ⟨o1, e1, c1, _⟩ := (show s.heap.IsTupleIter c c i from h2)
        obtain ⟨o2, e2, c2, _⟩ := (show s.heap.IsTuple c its2.toArray from p2)
        rw [e1] at e2; cases e2
        rw [c1] at c2; exact absurd c2 (by decide)
    have l1 : i < its.toArray.size := by
      have : i < its.length := (List.getElem?_eq_some_iff.mp hu).1
      simpa using this
    have l2 : i < its2.toArray.size := by
      have : i < its2.length := (List.getElem?_eq_some_iff.mp hu2).1
      simpa using this
    refine wpAny_pyNext_zipD2_item S (drawB b1 (A := X.A.in1) hn i1 a ni1 its.toArray) (drawB b2 (A := X.A.in1) hn i2 c ni2 its2.toArray) hz hTI hTO ⟨h1, p⟩ ⟨h2, p2⟩ l1 l2 fun x1 x2 h' tk e1 e2 z' TO' h1' h2' hT hsz hk => ?_
    have e1' : x1 = u := by
      have : its[i]? = some x1 := by simpa using e1
      rw [hu] at this; exact (Option.some.inj this).symm
    have e2' : x2 = u2 := by
      have : its2[i]? = some x2 := by simpa using e2
      rw [hu2] at this; exact (Option.some.inj this).symm
    subst e1' e2'
    refine ⟨_, rfl, wpAny_letOwnedTupleGo_zip (s := { s with heap := h', toks := tk }) z' fun h'' z'' sb => ?_⟩
    have hT2 : h''.get? s.heap.objs.size = some { cls := .type "tuple", data := .seq #[x1, x2] } := (sb.2 _ (Nat.ne_of_gt hzl)).trans hT
    have new : ObjOk X.prog X.w (upd H s.heap.objs.size (.tup [x, y])) h'' s.heap.objs.size (.tup [x, y]) :=
      ⟨by show 2 ≤ sizeLine; decide, [x1, x2], .cons ru (.cons ru2 .nil), ⟨_, hT2, rfl, _, rfl⟩⟩
    have I1 : Inv X pins σ (upd H s.heap.objs.size (.tup [x, y])) { s with heap := h'', toks := tk } :=
      I.turnedNew (t' := tk) (ch := [z, TI, TO, i1, i2]) (fun b o hb q => (sb.2 b (fun q' => hb (by simp [q']))).trans (hk b o (fun q' => hb (by simp [q'])) (fun q' => hb (by simp [q'])) (fun q' => hb (by simp [q'])) (fun q' => hb (by simp [q'])) q)) hf (Nat.le_refl _) new
    refine ⟨.ref s.heap.objs.size, _, I1, rfl, ⟨_, x, y, rfl, I.hok.fresh (Nat.le_refl _), rfl, fun l hl => by rw [hl.inj I hqx]; exact hx, fun l hl => by rw [hl.inj I hqy]; exact hy⟩, ⟨z'', ?_, ⟨x1, x2, ?_⟩, ?_, ?_⟩, fun b hcm => ?_⟩
    · exact (sb.2 _ S.TIz).trans (hk _ _ S.TIz S.TITO S.TIi1 S.TIi2 hTI)
    · exact (sb.2 _ S.TOz).trans TO'
    · exact h1'.1.at fun o q => (sb.2 _ S.zi1.symm).trans q
    · exact h2'.1.at fun o q => (sb.2 _ S.zi2.symm).trans q
    · have hlt : b < s.heap.objs.size := by
        have e' : b = z ∨ b = TI ∨ b = TO ∨ b = i1 ∨ b = i2 := by simpa using hcm
        rcases e' with q | q | q | q | q
        · rw [q]; exact hzl
        · rw [q]; exact Heap.lt_size hTI
        · rw [q]; exact Heap.lt_size hTO
        · rw [q]; obtain ⟨_, e1, _⟩ := h1.obj; exact Heap.lt_size e1
        · rw [q]; obtain ⟨_, e2, _⟩ := h2.obj; exact Heap.lt_size e2
      rw [upd_ne (Nat.ne_of_lt hlt)]
      exact (hf b hcm).1
  done := by
    intro X hP hw hK hc i pins s σ H E I hf st hg
    subst hP hw hK
    obtain ⟨hz, hTI, ⟨x0, y0, hTO⟩, h1, h2⟩ := st
    obtain ⟨xs, ys, hqx, hqy, le1, le2, hend⟩ := hg
    obtain ⟨its, rv, p, _⟩ := hqx.inv I
    obtain ⟨its2, rv2, p2, _⟩ := hqy.inv I
    have l1 := rv.length
    have l2 := rv2.length
    have hn := I.ok.hd hc
    have ni1 : a ≠ i1 := fun e => by
      subst e
      cases b1 with
      | true =>
        obtain ⟨o1, e1, c1, _⟩ := (show s.heap.IsListIter a a i from h1)
        obtain ⟨o2, e2, c2, _⟩ := (show s.heap.IsList a its.toArray from p)
        rw [e1] at e2; cases e2
        rw [c1] at c2; exact absurd c2 (by decide)
      | false =>
        obtain ⟨o1, e1, c1, _⟩ := (show s.heap.IsTupleIter a a i from h1)
        obtain ⟨o2, e2, c2, _⟩ := (show s.heap.IsTuple a its.toArray from p)
        rw [e1] at e2; cases e2
        rw [c1] at c2; exact absurd c2 (by decide)
    have ni2 : c ≠ i2 := fun e => by
      subst e
      cases b2 with
      | true =>
        obtain ⟨o1, e1, c1, _⟩ := (show s.heap.IsListIter c c i from h2)
        obtain ⟨o2, e2, c2, _⟩ := (show s.heap.IsList c its2.toArray from p2)
        rw [e1] at e2; cases e2
        rw [c1] at c2; exact absurd c2 (by decide)
      | false =>
        obtain ⟨o1, e1, c1, _⟩ := (show s.heap.IsTupleIter c c i from h2)
        obtain ⟨o2, e2, c2, _⟩ := (show s.heap.IsTuple c its2.toArray from p2)
        rw [e1] at e2; cases e2
        rw [c1] at c2; exact absurd c2 (by decide)
    have z1 : its.toArray.size = xs.length := by simpa using l1.symm
    have z2 : its2.toArray.size = ys.length := by simpa using l2.symm
    exact wpAny_pyNext_zipD2_end S (drawB b1 (A := X.A.in1) hn i1 a ni1 its.toArray) (drawB b2 (A := X.A.in1) hn i2 c ni2 its2.toArray) hz hTI hTO ⟨h1, p⟩ ⟨h2, p2⟩ (by rw [z1]; exact le1) (by rw [z2]; exact le2) (by rw [z1, z2]; exact hend) fun h' tk hk => ⟨rfl, I.turnedL (t' := tk) (ch := [z, TI, TO, i1, i2]) (fun b o hb q =>
      hk b o (fun q' => hb (by simp [q'])) (fun q' => hb (by simp [q'])) (fun q' => hb (by simp [q'])) (fun q' => hb (by simp [q'])) q) hf⟩
  self := fun A i s Q E st h => wpAny_pyIter_zip st.1 h
def itoB : Bool → Addr → Obj
  | true, l => { cls := .type "list_iterator", data := .fields #[.ref l, .int 0 0] }
  | false, l => { cls := .type "tuple_iterator", data := .fields #[.ref l, .int 0 0] }
theorem beginsB (b : Bool) (l : Addr) (items : Array Value) : Begins (.ref l) (itoB b l) fun h => HasB b h l items := by
  cases b with
  | true => exact begins_list l items
  | false => exact begins_tuple l items
theorem ItB.start {b : Bool} {h : Heap} {it l : Addr} (e : h.get? it = some (itoB b l)) : ItB b h it l 0 := by
  cases b with
  | true => exact ⟨_, e, rfl, rfl⟩
  | false => exact ⟨_, e, rfl, rfl⟩
def iZipB (K : PySem.W.Frag) (ta : TA) : TI := fun σ H R => ta σ H fun vs H1 => ∃ a c b1 b2 xs ys, vs = [.ref a, .ref c] ∧ SqB b1 K H1 a xs ∧ SqB b2 K H1 c ys ∧ R (ItzB b1 b2 K a c) H1
theorem pi_zipB {X : Cx} {e e2 : Expr} {ta : TA} {p pos tpos : Pos} {elts : List Expr} {kk : Nat} (hg : Gl X "zip") (hm : X.mg "zip" = none) (ha : PA X [e, e2] ta)
    (hs : starEach [e, e2] X.env = (false, eval e X.env) :: starEach [e2] X.env := by rfl) (hpl : (backTo pos (starEach [e2] X.env)).any (·.1) = false := by rfl) :
    PI X (.Tuple elts kk tpos) (.Call (.Name "zip" p) [e, e2] [] pos) (iZipB X.K ta) := by
  refine ⟨fun pins s σ H R I h => ?_⟩
  refine Call_ (ld_blt I hg hm PyProof.Rows.boot_zip (PyProof.Rows.callWith_type1 (thn (ha.run pos pins s σ H _ I h) fun us s1 ⟨vs, H1, I1, r1, q1⟩ => ?_) hs hpl))
  obtain ⟨a, c, b1, b2, xs, ys, ex, hqx, hqy, q⟩ := q1
  subst ex
  cases r1 with
  | cons r rr =>
    cases rr with
    | cons r' rr =>
      cases rr
      cases r
      cases r'
      obtain ⟨its, rv, p1, la⟩ := hqx.inv I1
      obtain ⟨its2, rv2, p2, lc⟩ := hqy.inv I1
      refine zip_begins2 (beginsB b1 a its.toArray) (beginsB b2 c its2.toArray) p1 p2 fun h' hz hTI hTO h1 h2 hsz hk => wpAny_pyIter_zip hz ?_
      have fresh5 : ∀ d, d ∈ [s1.heap.objs.size + 4, s1.heap.objs.size + 2, s1.heap.objs.size + 3, s1.heap.objs.size, s1.heap.objs.size + 1] → FpOk X pins H1 d := fun d hcm => by
        have e' : d = s1.heap.objs.size + 4 ∨ d = s1.heap.objs.size + 2 ∨ d = s1.heap.objs.size + 3 ∨ d = s1.heap.objs.size ∨ d = s1.heap.objs.size + 1 := by simpa using hcm
        have hle : s1.heap.objs.size ≤ d := by
          rcases e' with z | z | z | z | z
          · rw [z]; exact Nat.le_add_right _ _
          · rw [z]; exact Nat.le_add_right _ _
          · rw [z]; exact Nat.le_add_right _ _
          · rw [z]; exact Nat.le_refl _
          · rw [z]; exact Nat.le_add_right _ _
        exact I1.fpOk hle (I1.hok.fresh hle)
      exact ⟨s1.heap.objs.size + 4, [s1.heap.objs.size + 4, s1.heap.objs.size + 2, s1.heap.objs.size + 3, s1.heap.objs.size, s1.heap.objs.size + 1], _, _, H1, rfl, I1.kept (t' := s1.toks) hk,
        turn_zipB (zip_sep2 (fp1 := [a]) (fp2 := [c]) (fun b q => by rw [List.mem_singleton.mp q]; exact la) (fun b q => by rw [List.mem_singleton.mp q]; exact lc)), ⟨hz, hTI, ⟨_, _, hTO⟩, ItB.start h1, ItB.start h2⟩, fresh5, q⟩

/-! ### in the layer -/
def zipD (xs ys : List D) : List D := (xs.zip ys).map fun p => .tup [p.1, p.2]
def zip2C : List D → Option (List D)
  | [a, b] => match D.items a, D.items b with
    | some xs, some ys => some (zipD xs ys)
    | _, _ => none
  | _ => none
def zipM (m : M (List D)) : M (List D) := bnd m fun ds => opt (zip2C ds)
section
variable {X : Cx} {B : Ent} {W : WX} {w w1 w2 : Wd} {σ σ2 : L2.St} {H H1 H2 : Hp} {p : Bool} {pos pp tpos : Pos} {a eb : Expr}
theorem items_sq {g : G} {d : D} {v : V} {xs : List D} (h : Rep X.K g H d v) (e : D.items d = some xs) :
    ∃ b a vs, v = .ref a ∧ RepL X.K g H xs vs ∧ SqB b X.K H a vs ∧ (∀ {F : List Addr} {g2 : G} {H2 : Hp}, Ext F g H g2 H2 → (∀ a, g.Z a → a ∉ F) → SqB b X.K H2 a vs) := by
  cases d with
  | lst ys =>
    cases e
    unfold Rep at h
    obtain ⟨a, vs, e1, fl, rl⟩ := h
    exact ⟨true, a, vs, e1, rl, fl.1, fun ex hz => (fl.ext ex hz).1⟩
  | tup ys =>
    cases e
    unfold Rep at h
    obtain ⟨a, vs, e1, fl, rl⟩ := h
    exact ⟨false, a, vs, e1, rl, fl.1, fun ex hz => (fl.ext ex hz).1⟩
  | _ => cases e
theorem zipD_len (xs ys : List D) : (zipD xs ys).length = min xs.length ys.length := by simp [zipD]
theorem it_zip {elts : List Expr} {kk : Nat} {ms : M (List D)} (hm : X.mg "zip" = none) (h : EFs X B W p [a, eb] ms) (hg : Gl X "zip" := by rfl)
    (hs : starEach [a, eb] X.env = (false, eval a X.env) :: starEach [eb] X.env := by rfl) (hpl : (backTo pos (starEach [eb] X.env)).any (·.1) = false := by rfl) :
    EIt X B W (.Tuple elts kk tpos) (.Call (.Name "zip" pp) [a, eb] [] pos) (zipM ms) := ⟨(pi_zipB hg hm h.h hs hpl).weak fun σ H R ⟨w, q⟩ => ⟨w, q.bnd fun ds vs w1 H1 st r q1 => by
  obtain ⟨zs, hz, R1, q2⟩ := q1.opt
  match ds, hz, r with
  | [], hz, r => cases hz
  | [_], hz, r => cases hz
  | _ :: _ :: _ :: _, hz, r => cases hz
  | [d1, d2], hz, r =>
    have r0 := r.1
    unfold RepL at r0
    obtain ⟨v1, ws, e1, r1, r0⟩ := r0
    unfold RepL at r0
    obtain ⟨v2, ws2, e2, r2, r0⟩ := r0
    unfold RepL at r0
    subst e1 e2 r0
    have hz : (match d1.items, d2.items with | some xs, some ys => some (zipD xs ys) | _, _ => none) = some zs := hz
    cases h1 : D.items d1 with
    | none => rw [h1] at hz; cases hz
    | some xs =>
    cases h2 : D.items d2 with
    | none => rw [h1, h2] at hz; cases hz
    | some ys =>
    rw [h1, h2] at hz
    cases hz
    obtain ⟨b1, a1, us, e1, rl1, s1, k1⟩ := items_sq r1 h1
    obtain ⟨b2, a2, us2, e2, rl2, s2, k2⟩ := items_sq r2 h2
    subst e1 e2
    have L1 := RepL.len _ rl1
    have L2 := RepL.len _ rl2
    refine ⟨a1, a2, b1, b2, us, us2, rfl, s1, s2, q2 _ w1 H1 rfl (.refl R1) ⟨fun σ2 w2 H2 t => ?_, fun i σ2 w2 H2 t hlt => ?_, fun i σ2 w2 H2 v' H3 t hlt hy => ?_⟩⟩
    · refine ⟨us, us2, k1 t.ext R1.zf, k2 t.ext R1.zf, ?_, ?_, ?_⟩
      · rw [zipD_len, L1]; exact Nat.min_le_left _ _
      · rw [zipD_len, L2]; exact Nat.min_le_right _ _
      · rw [zipD_len, L1, L2]; omega
    · rw [zipD_len] at hlt
      have p1 : i < us.length := by omega
      have p2 : i < us2.length := by omega
      exact ⟨us, us2, us[i], us2[i], k1 t.ext R1.zf, k2 t.ext R1.zf, List.getElem?_eq_getElem p1, List.getElem?_eq_getElem p2⟩
    · obtain ⟨T, x, y, e1, nT, e2, f1, f2⟩ := hy
      subst e1 e2
      rw [zipD_len] at hlt
      have p1 : i < xs.length := by omega
      have p2 : i < ys.length := by omega
      obtain ⟨u, hu, ru⟩ := RepL.get xs (RepL.ext t.ext R1.zf xs rl1) (List.getElem?_eq_getElem p1)
      obtain ⟨u2, hu2, ru2⟩ := RepL.get ys (RepL.ext t.ext R1.zf ys rl2) (List.getElem?_eq_getElem p2)
      rw [f1 us (k1 t.ext R1.zf)] at hu
      rw [f2 us2 (k2 t.ext R1.zf)] at hu2
      cases hu
      cases hu2
      have n : New w2.g H2 (w2.g.addL [T]) (upd H2 T (.tup [x, y])) := .frz nT
      refine ⟨.tup [xs[i], ys[i]], _, ?_, n, ?_⟩
      · have pz : i < (xs.zip ys).length := by simp; omega
        show ((xs.zip ys).map _)[i]? = _
        rw [List.getElem?_map, List.getElem?_eq_getElem pz]
        simp
      · have x1 := ru.ext n.ext (by simp)
        have x2 := ru2.ext n.ext (by simp)
        unfold Rep
        exact ⟨T, [x, y], rfl, ⟨.inl (.inl upd_same), .inl (.inr (by simp))⟩, RepL.cons x1 (RepL.cons x2 (by unfold RepL; rfl))⟩⟩⟩
end
end Ev

namespace Ev
open PySem PySem.Spec PyProof.Rows L2
section
variable {X : Cx} {B : Ent} {W : WX} {w w1 w2 : Wd} {σ σ2 : L2.St} {H H1 H2 : Hp} {p p1 p2 b b1 b2 : Bool} {pos pp tpos : Pos} {a e eb : Expr} {f f1 f2 : M D}
/-! ### x in y -/
theorem op_inM (hu : X.A.units + 64 < cLine) (hu2 : X.A.units + 65 < cLine) : OpR X (compareOp .In) (rInA X.K false) := fun pins s σ H x y v u Q I rx ry h => by
  rcases h with ⟨c, z, h1, h2, q⟩ | ⟨d, ds, h1, h2, h3, h4, q⟩ | h
  · exact op_in_sign pins s σ H x y v u Q I rx ry ⟨c, z, h1, h2, q⟩
  · exact op_inD hu2 pins s σ H x y v u Q I rx ry ⟨d, ds, h1, h2, h3, h4, q⟩
  · exact op_in_seq pins s σ H x y v u Q I rx ry h
theorem op_niM (hu : X.A.units + 64 < cLine) (hu2 : X.A.units + 65 < cLine) : OpR X (compareOp .NotIn) (rInA X.K true) := fun pins s σ H x y v u Q I rx ry h => by
  rcases h with ⟨c, z, h1, h2, q⟩ | ⟨d, ds, h1, h2, h3, h4, q⟩ | h
  · exact op_notIn_sign pins s σ H x y v u Q I rx ry ⟨c, z, h1, h2, q⟩
  · exact op_notInD hu2 pins s σ H x y v u Q I rx ry ⟨d, ds, h1, h2, h3, h4, q⟩
  · exact op_notIn_seq pins s σ H x y v u Q I rx ry h
/-! ### str(i) -/
def intS (i : Int) : Str := Str.ofString (toString i)
theorem ofString_ok (s : String) : PyData.strOk (Str.ofString s) = true := strOk_iff.mpr fun c hc => by
  have hc : c ∈ cpsOfBytes 0 0 s.toByteArray.data.toList := by simpa [Str.ofString] using hc
  rw [cpsOfBytes_string] at hc
  obtain ⟨d, _, e⟩ := List.mem_map.mp hc
  subst e
  have := d.valid
  rcases this with z | ⟨_, z⟩
  · exact Nat.lt_trans z (by decide)
  · exact z
def cStr : D → Option D
  | .int i => if i.natAbs.log2 < 1920 then some (.str (intS i)) else none
  | _ => none
theorem o1_str {K : PySem.W.Frag} : Op1 K cStr (rOne fun xs H Q => ∃ i : Int, xs = [.int i] ∧ i.natAbs.log2 < 1920 ∧ Q (.str (toString i)) H) := by
  intro g H d1 v1 d Q b1 hc m
  cases d1 with
  | int i =>
    have e := Bor.int b1
    subst e
    by_cases hl : i.natAbs.log2 < 1920
    · have hc : (if i.natAbs.log2 < 1920 then some (D.str (intS i)) else none) = some d := hc
      rw [if_pos hl] at hc
      cases hc
      exact ⟨i, rfl, hl, m _ g H (.refl _ _) (by unfold Rep; exact ⟨rfl, ofString_ok _⟩)⟩
    · have hc : (if i.natAbs.log2 < 1920 then some (D.str (intS i)) else none) = some d := hc
      rw [if_neg hl] at hc
      cases hc
  | _ => cases hc
/-! ### over a text -/
def charsD (x : Str) : List D := x.cps.toList.map fun c => .str ⟨#[c]⟩
def charsC : D → Option (List D)
  | .str x => some (charsD x)
  | _ => none
def charsM (m : M D) : M (List D) := una charsC m
theorem it_str {tg : Expr} (hi : EV X B W b p e f) : EIt X B W tg e (charsM f) := ⟨(pi_str hi.h).weak fun σ H R ⟨w, q⟩ => ⟨w, q.bnd fun d v w1 H1 st r q1 => by
  obtain ⟨xs, hx, R1, q2⟩ := q1.opt
  cases d with
  | str x =>
    cases hx
    have rp : Rep X.K w1.g H1 (.str x) v := r.1
    unfold Rep at rp
    obtain ⟨e1, ok⟩ := rp
    subst e1
    refine ⟨x, rfl, q2 _ w1 H1 rfl (.refl R1) ⟨fun σ2 w2 H2 s2 => ?_, fun i σ2 w2 H2 s2 hlt => ?_, fun i σ2 w2 H2 v' H3 s2 hlt hy => ?_⟩⟩
    · show x.cps.size ≤ _
      simp [charsD]
    · show i < x.cps.size
      simpa [charsD] using hlt
    · obtain ⟨e2, c, hc, ev⟩ := hy
      subst e2 ev
      refine ⟨.str ⟨#[c]⟩, w2.g, ?_, .refl _ _, ?_⟩
      · have : x.cps.toList[i]? = some c := by simpa using hc
        simp [charsD, this]
      · unfold Rep
        refine ⟨rfl, strOk_of_sub ok fun k hk => ?_⟩
        have : k = c := by simpa using hk
        subst this
        have : x.cps.toList[i]? = some k := by simpa using hc
        exact List.mem_of_getElem? this
  | _ => cases hx⟩⟩
/-! ### the names of the modules -/
theorem ef_gint {n : Str} {i : Int} {t : Tok} (hm : X.mg n = some (.int i t)) (hg : Gl X n := by rfl) (hn : (n == ("__debug__" : Str)) = false := by decide) : EF X B W true (.Name n pos) (ret (.int i)) :=
  ef_glob (v := .int i) hg hm ⟨t, rfl⟩ (fun g H => by unfold Rep; rfl) hn
theorem ef_gstr {n : Str} {x : Str} {t : Tok} (hm : X.mg n = some (.str x t)) (ok : PyData.strOk x = true := by decide +kernel) (hg : Gl X n := by rfl) (hn : (n == ("__debug__" : Str)) = false := by decide) : EF X B W true (.Name n pos) (ret (.str x)) :=
  ef_glob (v := .str x) hg hm ⟨t, rfl⟩ (fun g H => by unfold Rep; exact ⟨rfl, ok⟩) hn
end
end Ev

namespace Ev
open PySem PySem.Spec PyProof.Rows L2
section
variable {X : Cx} {B : Ent} {W : WX} {w w1 w2 : Wd} {σ σ2 : L2.St} {H H1 H2 : Hp} {p p1 p2 b b1 b2 : Bool} {pos pp tpos : Pos} {a e eb : Expr} {f f1 f2 : M D}
/-! ### list + list -/
def rCatL (K : PySem.W.Frag) : R2 := fun x y H Q => ∃ l b xs zs, x = .ref l ∧ y = .ref b ∧ SqL K H l xs ∧ SqL K H b zs ∧ xs.length + zs.length ≤ sizeLine ∧ ∀ p, H p = none → Q (.ref p) (upd H p (.lst (xs ++ zs)))
theorem op_catL : OpR X (binaryOp .Add) (rCatL X.K) := by
  intro pins s σ H x y v u Q I rx ry h
  obtain ⟨l, b, xs, zs, rfl, rfl, hH, hB, hz, q⟩ := h
  cases rx
  cases ry
  obtain ⟨its, r, pl, _⟩ := I.list hH
  obtain ⟨its2, r2, pl2, _⟩ := I.list hB
  have hl := r.length
  have hl2 := r2.length
  obtain ⟨⟨cls, dd, data, sl⟩, ho, hc, n, hd⟩ := id pl.isList
  obtain ⟨⟨cls2, dd2, data2, sl2⟩, ho2, hc2, n2, hd2⟩ := id pl2.isList
  simp only at hc hd hc2 hd2
  subst hc hd hc2 hd2
  refine concat_meets ⟨_, ho, rfl⟩ ⟨_, ho2, rfl⟩ noFill_list_add seq_list_add PySem.F.slot_list_add PySem.F.entry_list_add (PySem.F.args_list_add_2 _ _) (PyProof.Rows.list_addW l b its.toArray its2.toArray n n2 dd dd2 sl sl2 (by rw [List.size_toArray, List.size_toArray]; omega)) ⟨ho, ho2, ?_⟩
  have ea : its.toArray ++ its2.toArray = (its ++ its2).toArray := by simp
  rw [ea]
  exact ⟨.ref _, _, I.lnew (t' := s.toks) (r.append r2) (by rw [List.length_append]; omega), rfl, q _ I.fresh⟩
def cCat : D → D → Option C
  | .lst xs, .lst ys => if xs.length + ys.length ≤ sizeLine then some (.lst (xs ++ ys)) else none
  | _, _ => none
theorem o2_cat {K : PySem.W.Frag} : Op2G K cCat (rCatL K) := by
  intro g H d1 v1 d2 v2 c Q zd b1 b2 hc m
  cases d1 with
  | lst xs =>
    cases d2 with
    | lst ys =>
      have hc : (if xs.length + ys.length ≤ sizeLine then some (C.lst (xs ++ ys)) else none) = some c := hc
      by_cases hl : xs.length + ys.length ≤ sizeLine
      · rw [if_pos hl] at hc
        cases hc
        obtain ⟨a1, vs1, e1, s1, r1⟩ := Bor.lst b1
        obtain ⟨a2, vs2, e2, s2, r2⟩ := Bor.lst b2
        exact ⟨a1, a2, vs1, vs2, e1, e2, s1, s2, by rw [RepL.len _ r1, RepL.len _ r2]; exact hl, MkG.lst m zd (RepL.append r1 r2)⟩
      · rw [if_neg hl] at hc
        cases hc
    | _ => cases hc
  | _ => cases hc
/-! ### [..] * n -/
def repC (c : C) (d : D) : Option C := match c, d with
  | .lst xs, .int k => if -(2 ^ 63) ≤ k ∧ k < 2 ^ 63 ∧ xs.length * k.toNat ≤ sizeLine then some (.lst (List.replicate k.toNat xs).flatten) else none
  | _, _ => none
def repM (m1 : M C) (m2 : M D) : M C := bnd m1 fun c => bnd m2 fun d => opt (repC c d)
theorem RepL.rep {K : PySem.W.Frag} {g : G} {H : Hp} {xs : List D} {vs : List V} (r : RepL K g H xs vs) : ∀ n : Nat, RepL K g H (List.replicate n xs).flatten (List.replicate n vs).flatten
  | 0 => by unfold RepL; rfl
  | n + 1 => by
    show RepL K g H (xs ++ _) (vs ++ _)
    exact RepL.append r (RepL.rep r n)
theorem eg_rep {m1 : M C} (h1 : EG X B W p1 a m1) (h2 : EV X B W b2 p2 eb f2) : EG X B W false (.BinOp a .Mult eb pos) (repM m1 f2) := ⟨(pe_op op_rep h1.h h2.h).weak fun σ H Q ⟨w, h⟩ => ⟨w, h.bnd fun c v w1 H1 st1 ⟨fr, r1, n1, s1, _⟩ h1 => ⟨w1, h1.bnd fun d u w2 H2 st2 r2 h2 => by
  obtain ⟨c2, hc, R, q⟩ := h2.opt
  unfold repC at hc
  match c, d, hc with
  | .lst xs, .int k, hc =>
    have hc : (if -(2 ^ 63) ≤ k ∧ k < 2 ^ 63 ∧ xs.length * k.toNat ≤ sizeLine then some (C.lst (List.replicate k.toNat xs).flatten) else none) = some c2 := hc
    by_cases hl : -(2 ^ 63) ≤ k ∧ k < 2 ^ 63 ∧ xs.length * k.toNat ≤ sizeLine
    · rw [if_pos hl] at hc
      cases hc
      have e2 := Bor.int r2.1
      subst e2
      have r1' : RepC X.K w2.g H2 (.lst xs) v fr := r1.ext st2.ext st1.rel.zf fun a q => (n1 a q).1
      obtain ⟨l, vs, e, hH, rl, _⟩ := r1'
      subst e
      refine ⟨l, k, vs, rfl, rfl, hH, hl.1, hl.2.1, by rw [RepL.len _ rl]; exact hl.2.2, MkG.lst (fun v g' H' fr n rep hf => q v { w2 with g := g' } H' rfl (.new R n) ⟨fr, rep, fresh_ok (w := w2) R n hf, fun a q => .inr ?_, fun e => absurd e (by decide)⟩) R.zd (RepL.rep rl k.toNat)⟩
      cases k : H a with
      | none => rfl
      | some u => exact absurd (hf a q).1 ((st1.trans st2).ext.dom a (by rw [k]; simp))
    · rw [if_neg hl] at hc
      cases hc⟩⟩⟩
end
end Ev

namespace Ev
open PySem PySem.Spec PyProof.Rows L2
def noFn : Fn := fun _ _ => .stuck
theorem fn_none {P : Program} {w : World} {K : PySem.W.Frag} {mg : Str → Option Value} {base : Heap} {CX : CXT} {k np : Nat} {f : Addr} {fd : FuncData} {ps : List Str} : FnOk P w K mg base CX k f fd ps (spF K mg noFn np) where
  len := fun vs H Q E ⟨_, _, _, _, _, _, _, z⟩ => z.elim
  run := fun _ _ _ _ _ _ _ _ _ _ _ _ _ ⟨_, _, _, _, _, _, _, z⟩ => z.elim
theorem ary_none {n : Nat} : Ary noFn n := fun _ _ h => (h rfl).elim
section
variable {X : Cx} {B : Ent} {W : WX} {k : Nat} {p p1 : Bool} {pos : Pos}
theorem Bd.blk (bd : Bd X W k) (s : Shared) (H : Hp) (scope : Scope) (cenv : Env) (fp : List Addr) : Bd (X.blk s H scope cenv fp) noW k :=
  ⟨bd.calm, bd.nd, fun _ _ ⟨_, _, _, _, _, _, _, _, _, _, _, _, _, _, _, _, w⟩ => w, bd.room⟩
theorem ets_nil : PTs X [] (TB X B W true tYesM) := ⟨fun pins s σ H Q I h => pts_nil.run pins s σ H Q I (by
  obtain ⟨w, h⟩ := h
  obtain ⟨R, q⟩ := h.ret
  exact q true w H rfl (.refl R) ⟨rfl, fun _ => .refl⟩)⟩
theorem ets_one {c : Expr} {t : M Bool} (h : ET X B W p c t) : PTs X [c] (TB X B W p t) := pts_one h.h
theorem ect_nm {scope : Scope} {i : Nat} {n : Str} (hN : X.N.Nodup) (hi : X.N[i]? = some n := by rfl) (hx : ∀ s H Ca cl fp, Loc (X.blk s H scope (compEnvC scope cl Ca X.env) fp).env.scope n := by intro _ _ _ _ _; first | exact Or.inl rfl | exact Or.inr rfl)
    (hf : ∀ s H Ca cl fp, (X.blk s H scope (compEnvC scope cl Ca X.env) fp).fn n = true ∨ (X.blk s H scope (compEnvC scope cl Ca X.env) fp).env.scope.names.lookup n = some .local := by intro _ _ _ _ _; first | exact .inl rfl | exact .inr rfl) :
    ECt X B scope (.Name n pos) [i] (gNameS i) := ect_name fun s H Ca cl fp => pg_name hN hi (hx s H Ca cl fp) (hf s H Ca cl fp)
end
end Ev

namespace Ev
open PySem PySem.Spec PyProof.Rows L2
/-! the words that the printed walks are made of -/
theorem Bd.hu5 {X : Cx} {W : WX} {k : Nat} (b : Bd X W k) : X.A.units + 65 < cLine := by have := b.room.un; omega
/-! ### defs -/
structure DefAt (K : PySem.W.Frag) (mg : Str → Option Value) (x : Str) (st : Stmt) (ps : List Str) : Prop where
  ex : ∃ (fa : Addr) (fd : FuncData), Fun K x x st fa fd ∧ mg x = some (.ref fa) ∧ PySem.W.keepIn K (.ref fa) = true ∧ Binds K fd ps []
structure Callee (P : Program) (w : World) (K : PySem.W.Frag) (mg : Str → Option Value) (base : Heap) (k : Nat) (x : Str) (ps : List Str) (F : Fn) : Prop where
  ex : ∃ (fa : Addr) (fd : FuncData), FnOk P w K mg base (L2.CX P w) k fa fd ps (spF K mg F ps.length) ∧ mg x = some (.ref fa) ∧ PySem.W.keepIn K (.ref fa) = true ∧ Binds K fd ps []
theorem callee_of {P : Program} {w : World} {K : PySem.W.Frag} {mg : Str → Option Value} {base : Heap} {x : Str} {st : Stmt} {N ps : List Str} {k : Nat} {h : S} (d : DefAt K mg x st ps) (sc : FnScope N ps (defScope st))
    (hb : ∀ (f : Addr) (cdv : Value) (A : Around) (outer : List Env) (s : Shared) (H : Hp) (E : XK) (B : Ent), Bd (cxOf (L2.CX P w) P w K mg base N x (defScope st) f cdv A outer s H E) (fun cls d _ H => E cls d H) k →
      ESs (cxOf (L2.CX P w) P w K mg base N x (defScope st) f cdv A outer s H E) B (fun cls d _ H => E cls d H) (defBody st) h) : Callee P w K mg base (k + 1) x ps (runF h N.length ps.length) := by
  obtain ⟨fa, fd, F, hm, hk, hbd⟩ := d.ex
  exact ⟨fa, fd, fn_ok F sc fun cdv A outer s H E B bd => hb fa cdv A outer s H E B bd, hm, hk, hbd⟩
theorem callee_no {P : Program} {w : World} {K : PySem.W.Frag} {mg : Str → Option Value} {base : Heap} {x : Str} {st : Stmt} {ps : List Str} {k : Nat} (d : DefAt K mg x st ps) : Callee P w K mg base k x ps noFn := by
  obtain ⟨fa, fd, F, hm, hk, hbd⟩ := d.ex
  exact ⟨fa, fd, fn_none, hm, hk, hbd⟩
section
variable {X : Cx} {B : Ent} {W : WX} {k kc : Nat} {b b1 b2 p p1 p2 : Bool} {pos pp pq apos : Pos} {a e eb o : Expr} {es : List Expr} {f f1 f2 : M D} {m1 m2 : M C} {fs : M (List D)} {P : Plc}
theorem ef_callK {n : Str} {ps : List Str} {F : Fn} (c : Callee X.prog X.w X.K X.mg X.base kc n ps F) (ar : Ary F ps.length) (bd : Bd X W k) (ha : EFs X B W p (e :: es) fs) (hle : kc ≤ k := by decide) (hg : Gl X n := by rfl) (hdb : (n == ("__debug__" : Str)) = false := by decide)
    (he : starEach (e :: es) X.env = (false, eval e X.env) :: starEach es X.env := by rfl) (hpl : (backTo pos (starEach es X.env)).any (·.1) = false := by rfl) : EF X B W false (.Call (.Name n pp) (e :: es) [] pos) (callM F [] fs) := by
  obtain ⟨fa, fd, Fk, hm, hk, hb⟩ := c.ex
  exact ef_call Fk ar bd hm hk hb ha hle hg hdb he hpl
/-! ### operators -/
theorem op_addM : OpR X (binaryOp .Add) (rAll X.K) := fun pins s σ H x y v u Q I rx ry h => by
  rcases h with (h | h) | h
  · exact op_add pins s σ H x y v u Q I rx ry h
  · exact op_add_str pins s σ H x y v u Q I rx ry h
  · exact op_catA pins s σ H x y v u Q I rx ry h
theorem ef_add (ha : EV X B W b1 p1 a f1) (he : EV X B W b2 p2 eb f2) (hb : (b1 || p2) = true := by rfl) : EF X B W (p1 && p2) (.BinOp a .Add eb pos) (bin cAdd f1 f2) := ef_op op_addM o2_add ha he hb
theorem ef_sub (ha : EV X B W b1 p1 a f1) (he : EV X B W b2 p2 eb f2) (hb : (b1 || p2) = true := by rfl) : EF X B W (p1 && p2) (.BinOp a .Sub eb pos) (bin cSub f1 f2) := ef_op op_sub o2_sub ha he hb
theorem ef_mul (ha : EV X B W b1 p1 a f1) (he : EV X B W b2 p2 eb f2) (hb : (b1 || p2) = true := by rfl) : EF X B W (p1 && p2) (.BinOp a .Mult eb pos) (bin cMul f1 f2) := ef_op op_mul o2_mul ha he hb
theorem ef_mod (ha : EV X B W b1 p1 a f1) (he : EV X B W b2 p2 eb f2) (hb : (b1 || p2) = true := by rfl) : EF X B W (p1 && p2) (.BinOp a .Mod eb pos) (bin cMod f1 f2) := ef_op op_mod o2_mod ha he hb
theorem ef_div (ha : EV X B W b1 p1 a f1) (he : EV X B W b2 p2 eb f2) (hb : (b1 || p2) = true := by rfl) : EF X B W (p1 && p2) (.BinOp a .FloorDiv eb pos) (bin cDiv f1 f2) := ef_op op_fdivW o2_div ha he hb
theorem ef_pow (ha : EV X B W b1 p1 a f1) (he : EV X B W b2 p2 eb f2) (hb : (b1 || p2) = true := by rfl) : EF X B W (p1 && p2) (.BinOp a .Pow eb pos) (bin cPow f1 f2) := ef_op op_pow o2_pow ha he hb
theorem ef_band (ha : EV X B W b1 p1 a f1) (he : EV X B W b2 p2 eb f2) (hb : (b1 || p2) = true := by rfl) : EF X B W (p1 && p2) (.BinOp a .BitAnd eb pos) (bin cAnd f1 f2) := ef_op op_and o2_and ha he hb
theorem eg_cat (ha : EV X B W b1 p1 a f1) (he : EV X B W b2 p2 eb f2) (hb : (b1 || p2) = true := by rfl) : EG X B W (p1 && p2) (.BinOp a .Add eb pos) (bin cCat f1 f2) := eg_op op_catL o2_cat ha he hb
/-! ### tests -/
theorem et_eq (bd : Bd X W k) (ha : EV X B W b1 p1 a f1) (he : EV X B W b2 p2 eb f2) (hb : (b1 || p2) = true := by rfl) : ET X B W (p1 && p2) (.Compare a [.Eq] [eb] pos) (tst (bin cEq f1 f2)) := et_cmp (op_eqM bd.hu) o2_eq (nomark _) ha he hb
theorem et_ne (bd : Bd X W k) (ha : EV X B W b1 p1 a f1) (he : EV X B W b2 p2 eb f2) (hb : (b1 || p2) = true := by rfl) : ET X B W (p1 && p2) (.Compare a [.NotEq] [eb] pos) (tst (bin cNe f1 f2)) := et_cmp (op_neM bd.hu) o2_ne (nomark _) ha he hb
theorem et_lt (ha : EV X B W b1 p1 a f1) (he : EV X B W b2 p2 eb f2) (hb : (b1 || p2) = true := by rfl) : ET X B W (p1 && p2) (.Compare a [.Lt] [eb] pos) (tst (bin cLt f1 f2)) := et_cmp op_lt o2_lt (nomark _) ha he hb
theorem et_le (ha : EV X B W b1 p1 a f1) (he : EV X B W b2 p2 eb f2) (hb : (b1 || p2) = true := by rfl) : ET X B W (p1 && p2) (.Compare a [.LtE] [eb] pos) (tst (bin cLe f1 f2)) := et_cmp op_le o2_le (nomark _) ha he hb
theorem et_gt (ha : EV X B W b1 p1 a f1) (he : EV X B W b2 p2 eb f2) (hb : (b1 || p2) = true := by rfl) : ET X B W (p1 && p2) (.Compare a [.Gt] [eb] pos) (tst (bin cGt f1 f2)) := et_cmp op_gt o2_gt (nomark _) ha he hb
theorem et_ge (ha : EV X B W b1 p1 a f1) (he : EV X B W b2 p2 eb f2) (hb : (b1 || p2) = true := by rfl) : ET X B W (p1 && p2) (.Compare a [.GtE] [eb] pos) (tst (bin cGe f1 f2)) := et_cmp op_ge o2_ge (nomark _) ha he hb
theorem et_in (bd : Bd X W k) (ha : EV X B W b1 p1 a f1) (he : EV X B W b2 p2 eb f2) (hb : (b1 || p2) = true := by rfl) (hm : behindInMarks .In eb = false := by rfl) : ET X B W (p1 && p2) (.Compare a [.In] [eb] pos) (tst (bin (cIn false) f1 f2)) := et_cmp (op_inM bd.hu bd.hu5) (o2_in false) hm ha he hb
theorem et_ni (bd : Bd X W k) (ha : EV X B W b1 p1 a f1) (he : EV X B W b2 p2 eb f2) (hb : (b1 || p2) = true := by rfl) (hm : behindInMarks .NotIn eb = false := by rfl) : ET X B W (p1 && p2) (.Compare a [.NotIn] [eb] pos) (tst (bin (cIn true) f1 f2)) := et_cmp (op_niM bd.hu bd.hu5) (o2_in true) hm ha he hb
/-! ### .. as values -/
theorem ef_eq (bd : Bd X W k) (ha : EV X B W b1 p1 a f1) (he : EV X B W b2 p2 eb f2) (hb : (b1 || p2) = true := by rfl) : EF X B W (p1 && p2) (.Compare a [.Eq] [eb] pos) (bin cEq f1 f2) := ef_cmp (op_eqM bd.hu) o2_eq (nomark _) ha he hb
theorem ef_ne (bd : Bd X W k) (ha : EV X B W b1 p1 a f1) (he : EV X B W b2 p2 eb f2) (hb : (b1 || p2) = true := by rfl) : EF X B W (p1 && p2) (.Compare a [.NotEq] [eb] pos) (bin cNe f1 f2) := ef_cmp (op_neM bd.hu) o2_ne (nomark _) ha he hb
theorem ef_lt (ha : EV X B W b1 p1 a f1) (he : EV X B W b2 p2 eb f2) (hb : (b1 || p2) = true := by rfl) : EF X B W (p1 && p2) (.Compare a [.Lt] [eb] pos) (bin cLt f1 f2) := ef_cmp op_lt o2_lt (nomark _) ha he hb
theorem ef_le (ha : EV X B W b1 p1 a f1) (he : EV X B W b2 p2 eb f2) (hb : (b1 || p2) = true := by rfl) : EF X B W (p1 && p2) (.Compare a [.LtE] [eb] pos) (bin cLe f1 f2) := ef_cmp op_le o2_le (nomark _) ha he hb
theorem ef_gt (ha : EV X B W b1 p1 a f1) (he : EV X B W b2 p2 eb f2) (hb : (b1 || p2) = true := by rfl) : EF X B W (p1 && p2) (.Compare a [.Gt] [eb] pos) (bin cGt f1 f2) := ef_cmp op_gt o2_gt (nomark _) ha he hb
theorem ef_ge (ha : EV X B W b1 p1 a f1) (he : EV X B W b2 p2 eb f2) (hb : (b1 || p2) = true := by rfl) : EF X B W (p1 && p2) (.Compare a [.GtE] [eb] pos) (bin cGe f1 f2) := ef_cmp op_ge o2_ge (nomark _) ha he hb
theorem ef_in (bd : Bd X W k) (ha : EV X B W b1 p1 a f1) (he : EV X B W b2 p2 eb f2) (hb : (b1 || p2) = true := by rfl) (hm : behindInMarks .In eb = false := by rfl) : EF X B W (p1 && p2) (.Compare a [.In] [eb] pos) (bin (cIn false) f1 f2) := ef_cmp (op_inM bd.hu bd.hu5) (o2_in false) hm ha he hb
theorem ef_ni (bd : Bd X W k) (ha : EV X B W b1 p1 a f1) (he : EV X B W b2 p2 eb f2) (hb : (b1 || p2) = true := by rfl) (hm : behindInMarks .NotIn eb = false := by rfl) : EF X B W (p1 && p2) (.Compare a [.NotIn] [eb] pos) (bin (cIn true) f1 f2) := ef_cmp (op_niM bd.hu bd.hu5) (o2_in true) hm ha he hb
/-! ### builtins -/
theorem call_lenM : CallR X (.builtin "len") (rLenA X.K) := fun pins s σ H xs us Q I r h => by
  rcases h with h | ⟨pa, kvs, e1, e2, q⟩
  · exact call_len pins s σ H xs us Q I r h
  · subst e1
    obtain ⟨u, rfl, ru⟩ := vals1 r
    cases ru
    exact d_len I e2 fun t s' I' => ⟨.int kvs.length, H, I', ⟨t, rfl⟩, q⟩
theorem call_intM : CallR X (.type "int") rIntA := fun pins s σ H xs us Q I r h => by
  rcases h with h | h
  · exact call_int1 pins s σ H xs us Q I r h
  · exact call_int_str pins s σ H xs us Q I r h
theorem ef_len (hm : X.mg "len" = none) (h : EV X B W b p a f) (hg : Gl X "len" := by rfl) (hs : starEach [a] X.env = (false, eval a X.env) :: starEach [] X.env := by rfl) : EF X B W p (.Call (.Name "len" pp) [a] [] pos) (una cLen f) := ef_call1 call_lenM o1_len hg hm boot_len h hs
theorem ef_int1 (hm : X.mg "int" = none) (h : EV X B W b p a f) (hg : Gl X "int" := by rfl) (hs : starEach [a] X.env = (false, eval a X.env) :: starEach [] X.env := by rfl) : EF X B W p (.Call (.Name "int" pp) [a] [] pos) (una cInt f) := ef_callT1 call_intM o1_int hg hm (by decide +kernel) h hs
theorem ef_str1 (hm : X.mg "str" = none) (h : EV X B W b p a f) (hg : Gl X "str" := by rfl) (hs : starEach [a] X.env = (false, eval a X.env) :: starEach [] X.env := by rfl) : EF X B W p (.Call (.Name "str" pp) [a] [] pos) (una cStr f) := ef_callT1 call_str_int o1_str hg hm (by decide +kernel) h hs
theorem ef_tup1 (hm : X.mg "tuple" = none) (h : EV X B W b p a f) (hg : Gl X "tuple" := by rfl) (hs : starEach [a] X.env = (false, eval a X.env) :: starEach [] X.env := by rfl) : EF X B W p (.Call (.Name "tuple" pp) [a] [] pos) (una cTup f) := ef_callT1 call_tuple_of o1_tup hg hm (by decide +kernel) h hs
theorem eg_list1 (hm : X.mg "list" = none) (h : EV X B W b p a f) (hg : Gl X "list" := by rfl) (hs : starEach [a] X.env = (false, eval a X.env) :: starEach [] X.env := by rfl) : EG X B W p (.Call (.Name "list" pp) [a] [] pos) (una cList f) := eg_callT1 call_list_of o1_list hg hm (by decide +kernel) h hs
theorem ef_abs1 (hm : X.mg "abs" = none) (h : EV X B W b p a f) (hg : Gl X "abs" := by rfl) (hs : starEach [a] X.env = (false, eval a X.env) :: starEach [] X.env := by rfl) : EF X B W p (.Call (.Name "abs" pp) [a] [] pos) (una cAbs f) := ef_call1 call_abs o1_abs hg hm (by decide +kernel) h hs
theorem ef_max2 (hc : X.calm = true) (hm : X.mg "max" = none) (h : EV X B W b1 p1 a f1) (h2 : EV X B W b2 p2 eb f2) (hb : (b1 || p2) = true := by rfl) (hg : Gl X "max" := by rfl)
    (hs : starEach [a, eb] X.env = (false, eval a X.env) :: starEach [eb] X.env := by rfl) (hs2 : starEach [eb] X.env = (false, eval eb X.env) :: starEach [] X.env := by rfl) : EF X B W (p1 && p2) (.Call (.Name "max" pp) [a, eb] [] pos) (bin cMax f1 f2) := ef_call2 (call_max2 hc) o2_max hg hm (by decide +kernel) h h2 hb hs hs2
theorem ef_min2 (hc : X.calm = true) (hm : X.mg "min" = none) (h : EV X B W b1 p1 a f1) (h2 : EV X B W b2 p2 eb f2) (hb : (b1 || p2) = true := by rfl) (hg : Gl X "min" := by rfl)
    (hs : starEach [a, eb] X.env = (false, eval a X.env) :: starEach [eb] X.env := by rfl) (hs2 : starEach [eb] X.env = (false, eval eb X.env) :: starEach [] X.env := by rfl) : EF X B W (p1 && p2) (.Call (.Name "min" pp) [a, eb] [] pos) (bin cMin f1 f2) := ef_call2 (call_min2 hc) o2_min hg hm (by decide +kernel) h h2 hb hs hs2
/-! ### methods -/
theorem ex_append (ho : EPl X B o P) (ha : EFs X B W p [e] fs) (hd : (!P.deep || p) = true := by rfl) (hs : starEach [e] X.env = (false, eval e X.env) :: starEach [] X.env := by rfl)
    (hbase : attributeBase o "append" X.env (eval o X.env) = eval o X.env := by rfl) (hline : (apos.endLine == pos.line) = true := by rfl)
    (hfew : ((backTo pos (starEach [e] X.env)).all (fun y => !y.1) && (backToKw pos (keywordEach [] X.env)).all (fun y => y.1.isSome) && decide (([e] : List Expr).length + ([] : List Keyword).length + (if ([] : List Keyword).isEmpty then 0 else 1) < 30)) = true := by rfl) : EF X B W false (.Call (.Attribute o "append" apos) [e] [] pos) (mutM P mAppend fs) :=
  ex_mut PySem.F.slot_list_append PySem.F.type_list_append mt_append lm_append ho ha hd hbase hfew hline hs rfl
theorem ex_popAt (ho : EPl X B o P) (ha : EFs X B W p [e] fs) (hd : (!P.deep || p) = true := by rfl) (hs : starEach [e] X.env = (false, eval e X.env) :: starEach [] X.env := by rfl)
    (hbase : attributeBase o "pop" X.env (eval o X.env) = eval o X.env := by rfl) (hline : (apos.endLine == pos.line) = true := by rfl)
    (hfew : ((backTo pos (starEach [e] X.env)).all (fun y => !y.1) && (backToKw pos (keywordEach [] X.env)).all (fun y => y.1.isSome) && decide (([e] : List Expr).length + ([] : List Keyword).length + (if ([] : List Keyword).isEmpty then 0 else 1) < 30)) = true := by rfl) : EF X B W false (.Call (.Attribute o "pop" apos) [e] [] pos) (mutM P mPopAt fs) :=
  ex_mut PySem.F.slot_list_pop PySem.F.type_list_pop mt_popAt lm_popAt ho ha hd hbase hfew hline hs rfl
theorem ex_pop (ho : EPl X B o P) (hbase : attributeBase o "pop" X.env (eval o X.env) = eval o X.env := by rfl) (hline : (apos.endLine == pos.line) = true := by rfl) : EF X B W false (.Call (.Attribute o "pop" apos) [] [] pos) (mutM P mPop nilM) :=
  ex_mut0 PySem.F.slot_list_pop PySem.F.type_list_pop mt_pop lm_pop ho hbase hline
theorem ex_clear (ho : EPl X B o P) (hbase : attributeBase o "clear" X.env (eval o X.env) = eval o X.env := by rfl) (hline : (apos.endLine == pos.line) = true := by rfl) : EF X B W false (.Call (.Attribute o "clear" apos) [] [] pos) (mutM P mClear nilM) :=
  ex_mut0 PySem.F.slot_list_clear PySem.F.type_list_clear mt_clear lm_clear ho hbase hline
theorem ex_reverse (ho : EPl X B o P) (hbase : attributeBase o "reverse" X.env (eval o X.env) = eval o X.env := by rfl) (hline : (apos.endLine == pos.line) = true := by rfl) : EF X B W false (.Call (.Attribute o "reverse" apos) [] [] pos) (mutM P mReverse nilM) :=
  ex_mut0 PySem.F.slot_list_reverse PySem.F.type_list_reverse mt_reverse lm_reverse ho hbase hline
theorem ex_insert (ho : EPl X B o P) (ha : EFs X B W p [e, eb] fs) (hd : (!P.deep || p) = true := by rfl) (hs : starEach [e, eb] X.env = (false, eval e X.env) :: starEach [eb] X.env := by rfl)
    (hbase : attributeBase o "insert" X.env (eval o X.env) = eval o X.env := by rfl) (hline : (apos.endLine == pos.line) = true := by rfl)
    (hfew : ((backTo pos (starEach [e, eb] X.env)).all (fun y => !y.1) && (backToKw pos (keywordEach [] X.env)).all (fun y => y.1.isSome) && decide (([e, eb] : List Expr).length + ([] : List Keyword).length + (if ([] : List Keyword).isEmpty then 0 else 1) < 30)) = true := by rfl)
    (hpl : (backTo pos (starEach [eb] X.env)).any (·.1) = false := by rfl) : EF X B W false (.Call (.Attribute o "insert" apos) [e, eb] [] pos) (mutM P mInsert fs) :=
  ex_mut PySem.F.slot_list_insert PySem.F.type_list_insert mt_insert lm_insert ho ha hd hbase hfew hline hs hpl
end
end Ev

namespace Ev
open PySem PySem.Spec PyProof.Rows L2
structure ErrAt (K : PySem.W.Frag) (mg : Str → Option Value) (n : Str) : Prop where
  ex : ∃ Cl, mg n = some (.ref Cl) ∧ ExF K Cl
structure GlD (K : PySem.W.Frag) (mg : Str → Option Value) (n : Str) (d : D) : Prop where
  ex : ∃ u v, mg n = some u ∧ RelV v u ∧ GlV K d v
section
variable {X : Cx} {B : Ent} {W : WX} {k : Nat} {pos pp : Pos}
theorem ef_gi {n : Str} {i : Int} (hm : ∃ t, X.mg n = some (.int i t)) (hg : Gl X n := by rfl) (hn : (n == ("__debug__" : Str)) = false := by decide) : EF X B W true (.Name n pos) (ret (.int i)) := by
  obtain ⟨t, hm⟩ := hm
  exact ef_gint hm hg hn
theorem ef_gs {n : Str} {x : Str} (hm : ∃ t, X.mg n = some (.str x t)) (ok : PyData.strOk x = true := by decide +kernel) (hg : Gl X n := by rfl) (hn : (n == ("__debug__" : Str)) = false := by decide) : EF X B W true (.Name n pos) (ret (.str x)) := by
  obtain ⟨t, hm⟩ := hm
  exact ef_gstr hm ok hg hn
theorem ef_gd {n : Str} {d : D} (hm : GlD X.K X.mg n d) (hg : Gl X n := by rfl) (hn : (n == ("__debug__" : Str)) = false := by decide) : EF X B W true (.Name n pos) (ret d) := by
  obtain ⟨u, v, h1, h2, h3⟩ := hm.ex
  exact ef_glob hg h1 h2 h3 hn
theorem es_raiseT {n m : Str} {j : Nat} {p1 p2 p3 : Pos} (bd : Bd X W k) (h : ErrAt X.K X.mg n) (hg : Gl X n := by rfl) (hdb : (n == ("__debug__" : Str)) = false := by decide) :
    ES X B W (.Raise (some (.Call (.Name n p1) [.Constant (.str m) j p2] [] p3)) none pos) (excS n) := by
  obtain ⟨Cl, h1, h2⟩ := h.ex
  exact es_raise bd h1 h2 hg hdb
end
end Ev

namespace Ev
open PySem PySem.Spec PyProof.Rows L2
/-! ### the ends -/
section
variable {K : PySem.W.Frag} {h : Heap} {mg : Str → Option Value}
theorem def_mk {x : Str} {st : Stmt} {ps : List Str} {f : Addr} {oc : Value} {od an : Option Addr} {osl : Array (Option Value)} {kV doc pm cdv ct : Value} (X : K.In h) (G : h.Ns mainGlobals mg) (a : PySem.W.nsIn K mainGlobals x = some (some (.ref f)))
    (l : K.lookup f = some ⟨oc, od, .func (PySem.W.fnOf x x (defArgs st) (defBody st) (defScope st) .none kV doc pm an cdv ct), osl⟩) (c : PySem.W.codeIn K cdv x = true) (k : PySem.W.keepIn K (.ref f) = true)
    (hb : ∀ (kV doc pm : Value) (an : Option Addr) (cdv ct : Value) (us : List Value), us.length = ps.length → bindArgs (PySem.W.fnOf x x (defArgs st) (defBody st) (defScope st) .none kV doc pm an cdv ct) ⟨us, []⟩ = pure (ps.zip us)) : DefAt K mg x st ps :=
  ⟨f, _, fun_mk l c k, PySem.W.mg_of X G a, k, (fun_mk l c k).binds hb⟩
theorem err_mk {x : Str} {C : Addr} (X : K.In h) (G : h.Ns mainGlobals mg) (a : PySem.W.nsIn K mainGlobals x = some (some (.ref C))) (k : PySem.W.keepIn K (.ref C) = true)
    (e : PySem.W.excIn K C [.type "ValueError", .type "Exception", .type "BaseException", .type "object"] "ValueError.__new__" = true) (s : PySem.W.subIn K (.ref C) (.type "BaseException") = some true) (t : PySem.W.typeIn K (.ref C) = some (.type "type")) : ErrAt K mg x :=
  ⟨C, PySem.W.mg_of X G a, k, e, s, t⟩
theorem int_mk {x : Str} {i : Int} {t : Tok} (X : K.In h) (G : h.Ns mainGlobals mg) (a : PySem.W.nsIn K mainGlobals x = some (some (.int i t))) : ∃ t, mg x = some (.int i t) := ⟨t, PySem.W.mg_of X G a⟩
theorem str_mk {x : Str} {i : Str} {t : Tok} (X : K.In h) (G : h.Ns mainGlobals mg) (a : PySem.W.nsIn K mainGlobals x = some (some (.str i t))) : ∃ t, mg x = some (.str i t) := ⟨t, PySem.W.mg_of X G a⟩
/-- what is asked of the plain function -/
def Says (F : Fn) : Prop := ∀ ns : List Int, ns.length ≤ 63 → (∀ z ∈ ns, Builtin.Int.intBits z ≤ 1048576) → ∃ st, F [.lst (ns.map .int)] [] = .ok (.bl true) st
theorem repL_ints {g : G} {H : Hp} : ∀ ns : List Int, RepL K g H (ns.map .int) (ns.map V.int)
  | [] => by unfold RepL; rfl
  | n :: ns => by
    show RepL K g H (.int n :: _) (V.int n :: _)
    unfold RepL
    exact ⟨_, _, rfl, by unfold Rep; rfl, repL_ints ns⟩
def spSays (K : PySem.W.Frag) : Sp := fun vs H Q _ => ∃ (a : Addr) (ns : List Int), vs = [.ref a] ∧ SqL K H a (ns.map V.int) ∧ ns.length ≤ 63 ∧ (∀ z ∈ ns, Builtin.Int.intBits z ≤ 1048576) ∧ ∀ H', Q (.bl true) H'
theorem says_sp {F : Fn} (S : Says F) {vs : List V} {H : Hp} {Q : VK} {E : XK} (q : spSays K vs H Q E) : spF K mg F 1 vs H Q E := by
  obtain ⟨a, ns, e0, hS, hl, hb, q⟩ := q
  subst e0
  obtain ⟨st, e⟩ := S ns hl hb
  refine ⟨rfl, ⟨fun x => x = a ∧ H x ≠ none, []⟩, [.lst (ns.map .int)], [], [], ?_, ⟨⟨rfl, rfl⟩, List.nodup_nil, fun _ h => by simp at h, fun x z => z.2⟩, ?_⟩
  · unfold RepL
    refine ⟨.ref a, [], rfl, ?_, by unfold RepL; rfl⟩
    unfold Rep
    refine ⟨a, ns.map V.int, rfl, ⟨hS, ?_⟩, repL_ints ns⟩
    rcases hS with h | h
    · refine .inl ⟨rfl, ?_⟩
      rcases h with h | ⟨o, h⟩
      · rw [h]; simp
      · rw [h]; simp
    · exact .inr fun H' => .inr h
  · rw [e]
    exact fun v g' H' f' _ _ _ r => by
      unfold Rep at r
      subst r
      exact q H'
theorem cx_no (P : Program) (w : World) (H : Hp) (s : Shared) (e : Value) (s' : Shared) : L2.CX P w [] H s (fun _ _ _ => False) e s' → False := fun ⟨_, _, _, _, _, z⟩ => by
  obtain ⟨_, _, _, _, _, _, _, z⟩ := z
  exact z
theorem walk_says {F : Fn} {l : PySem.W.OpenLaw} {k : Nat} {q : Program} {loose : List Str} {XP : (Str → Option Value) → Heap → Prop} {YP : World → Heap → Prop} {d : DefRec} {K : Params → PySem.W.Frag} (S : Says F) (hn : l.most = some 63) (hdf : d.params.defaults = []) (hr : Room k callerA)
    (hY : ∀ (w : World) (h : Heap), YP w h → (K w.params).In h)
    (hF : ∀ (w : World) (mg : Str → Option Value) (fa : Addr) (h : Heap), (K w.params).In h → h.Ns mainGlobals mg → mg d.name = some (.ref fa) →
      ∃ fd : FuncData, (∀ (s : Shared) (u : Value), BindsTo s fd ⟨[u], []⟩ [("script", u)]) ∧ ∀ base : Heap, (K w.params).In base → base.Ns mainGlobals mg → FnOk l.prog w (K w.params) mg base (L2.CX l.prog w) k fa fd ["script"] (spF (K w.params) mg F 1)) :
    PySem.W.WalkO q loose XP YP l.row.toRowW d [] (fun f vs => PySem.call f vs) :=
  L2.walk_ofB (n := 63) (k := k) (x := "script") (CX := fun w => L2.CX l.prog w) (sp := fun w => spSays (K w.params)) hn (by decide) hdf hr hY (fun w mg fa h hK hG hmg => by
    obtain ⟨fd, hb, hf⟩ := hF w mg fa h hK hG hmg
    exact ⟨fd, hb, fun base h1 h2 => (hf base h1 h2).imp fun vs H Q E q => says_sp S q⟩) (fun w H a ns hl hbits _ hS => ⟨a, ns, rfl, hS, hl, hbits, fun _ => rfl⟩) fun w H s e s' => cx_no _ _ H s e s'
end
end Ev

namespace Ev
open PySem L2
/-! ## what a plain function does: total correctness -/
def okM {α : Type} (E : Str → FSt → Prop) (m : M α) (s : FSt) (Q : α → FSt → Prop) : Prop := match m s with
  | .ok a s' => Q a s'
  | .exc n s' => E n s'
  | .stuck => False
structure Ps where
  nx : FSt → Prop
  rt : D → FSt → Prop
  ex : Str → FSt → Prop
  bk : FSt → Prop := fun _ => False
  ct : FSt → Prop := fun _ => False
def okS (h : S) (s : FSt) (P : Ps) : Prop := match h s with
  | .nx s' => P.nx s'
  | .rt d s' => P.rt d s'
  | .bk s' => P.bk s'
  | .ct s' => P.ct s'
  | .exc n s' => P.ex n s'
  | .stuck => False
def okF (F : Fn) (ds : List D) (st : List SO) (E : Str → List SO → Prop) (Q : D → List SO → Prop) : Prop := match F ds st with
  | .ok d st' => Q d st'
  | .exc n st' => E n st'
  | .stuck => False
section
variable {α β : Type} {E : Str → FSt → Prop} {s : FSt} {Q : α → FSt → Prop} {P : Ps}
theorem okM_bnd {m : M β} {k : β → M α} : okM E (bnd m k) s Q = okM E m s fun b s' => okM E (k b) s' Q := by
  unfold okM bnd
  cases m s <;> rfl
theorem okM_ret {a : α} : okM E (ret a) s Q = Q a s := rfl
theorem okM_opt {o : Option α} : okM E (opt o) s Q = ∃ a, o = some a ∧ Q a s := by
  unfold okM opt
  cases o <;> simp
theorem okM_get {r : FSt → Option α} : okM E (get r) s Q = ∃ a, r s = some a ∧ Q a s := by
  unfold okM get opt
  cases r s <;> simp
theorem okM_una {c : D → Option α} {m : M D} : okM E (una c m) s Q = okM E m s fun a s' => ∃ x, c a = some x ∧ Q x s' := by
  unfold una; simp only [okM_bnd, okM_opt]
theorem okM_bin {c : D → D → Option α} {m1 m2 : M D} : okM E (bin c m1 m2) s Q = okM E m1 s fun a s' => okM E m2 s' fun b s'' => ∃ x, c a b = some x ∧ Q x s'' := by
  unfold bin; simp only [okM_bnd, okM_opt]
theorem okM_getB {c : D → D → FSt → Option α} {m1 m2 : M D} : okM E (getB c m1 m2) s Q = okM E m1 s fun a s' => okM E m2 s' fun b s'' => ∃ x, c a b s'' = some x ∧ Q x s'' := by
  unfold getB; simp only [okM_bnd, okM_get]
theorem okM_tst {m : M D} {Q : Bool → FSt → Prop} : okM E (tst m) s Q = okM E m s fun a s' => ∃ t, D.toB? a = some t ∧ Q t s' := by
  unfold tst; simp only [okM_una]
theorem okM_nil {Q : List D → FSt → Prop} : okM E nilM s Q = Q [] s := rfl
theorem okM_cons {m : M D} {n : M (List D)} {Q : List D → FSt → Prop} : okM E (consM m n) s Q = okM E m s fun d s' => okM E n s' fun ds s'' => Q (d :: ds) s'' := by
  unfold consM; simp only [okM_bnd, okM_ret]
theorem okM_nilC {Q : List C → FSt → Prop} : okM E nilC s Q = Q [] s := rfl
theorem okM_consC {m : M C} {n : M (List C)} {Q : List C → FSt → Prop} : okM E (consC m n) s Q = okM E m s fun d s' => okM E n s' fun ds s'' => Q (d :: ds) s'' := by
  unfold consC; simp only [okM_bnd, okM_ret]
theorem okM_valM {m : M D} {Q : C → FSt → Prop} : okM E (valM m) s Q = okM E m s fun d s' => Q (.val d) s' := by
  unfold valM; simp only [okM_bnd, okM_ret]
theorem okM_fz {m : M C} {Q : D → FSt → Prop} : okM E (fz m) s Q = okM E m s fun c s' => Q c.toD s' := by
  unfold fz; simp only [okM_bnd, okM_ret]
theorem okM_tup {m : M (List D)} {Q : D → FSt → Prop} : okM E (tupM m) s Q = okM E m s fun ds s' => ds.length ≤ sizeLine ∧ Q (.tup ds) s' := by
  unfold tupM; simp only [okM_bnd, okM_opt]
  congr 1
  funext ds s'
  unfold tupD
  by_cases h : ds.length ≤ sizeLine
  · simp [h]
  · simp [h]
theorem okM_lst {m : M (List D)} {Q : C → FSt → Prop} : okM E (lstM m) s Q = okM E m s fun ds s' => ds.length ≤ sizeLine ∧ Q (.lst ds) s' := by
  unfold lstM; simp only [okM_bnd, okM_opt]
  congr 1
  funext ds s'
  unfold lstC
  by_cases h : ds.length ≤ sizeLine
  · simp [h]
  · simp [h]
theorem okM_andT {m n : M Bool} {Q : Bool → FSt → Prop} : okM E (andT m n) s Q = okM E m s fun t s' => if t = true then okM E n s' Q else Q false s' := by
  unfold andT; simp only [okM_bnd]
  congr 1
  funext t s'
  cases t <;> rfl
theorem okM_orT {m n : M Bool} {Q : Bool → FSt → Prop} : okM E (orT m n) s Q = okM E m s fun t s' => if t = true then Q true s' else okM E n s' Q := by
  unfold orT; simp only [okM_bnd]
  congr 1
  funext t s'
  cases t <;> rfl
theorem okM_notT {m : M Bool} {Q : Bool → FSt → Prop} : okM E (notT m) s Q = okM E m s fun t s' => Q (!t) s' := by
  unfold notT; simp only [okM_bnd, okM_ret]
theorem okM_iteM {m : M Bool} {n1 n2 : M α} : okM E (iteM m n1 n2) s Q = okM E m s fun t s' => if t = true then okM E n1 s' Q else okM E n2 s' Q := by
  unfold iteM; simp only [okM_bnd]
  congr 1
  funext t s'
  cases t <;> rfl
theorem okM_andV {m n : M D} {Q : D → FSt → Prop} : okM E (andV m n) s Q = okM E m s fun d s' => ∃ t, d = .bl t ∧ if t = true then okM E n s' Q else Q (.bl false) s' := by
  unfold andV; simp only [okM_bnd]
  congr 1
  funext d s'
  cases d with
  | bl t => cases t <;> simp [okM_ret]
  | _ => simp [okM_opt]
theorem okM_orV {m n : M D} {Q : D → FSt → Prop} : okM E (orV m n) s Q = okM E m s fun d s' => ∃ t, d = .bl t ∧ if t = true then Q (.bl true) s' else okM E n s' Q := by
  unfold orV; simp only [okM_bnd]
  congr 1
  funext d s'
  cases d with
  | bl t => cases t <;> simp [okM_ret]
  | _ => simp [okM_opt]
theorem okM_notV {m : M D} {Q : D → FSt → Prop} : okM E (notV m) s Q = okM E m s fun d s' => ∃ t, d = .bl t ∧ Q (.bl (!t)) s' := by
  unfold notV; simp only [okM_bnd]
  congr 1
  funext d s'
  cases d with
  | bl t => simp [okM_ret]
  | _ => simp [okM_opt]
theorem okM_items {m : M D} {Q : List D → FSt → Prop} : okM E (itemsM m) s Q = okM E m s fun d s' => ∃ xs, D.items d = some xs ∧ Q xs s' := by
  unfold itemsM; simp only [okM_una]
theorem okM_chars {m : M D} {Q : List D → FSt → Prop} : okM E (charsM m) s Q = okM E m s fun d s' => ∃ xs, charsC d = some xs ∧ Q xs s' := by
  unfold charsM; simp only [okM_una]
theorem okM_rng {m : M (Int × Int)} {Q : List D → FSt → Prop} : okM E (rngM m) s Q = okM E m s fun r s' => Q (rngD r.1 r.2) s' := by
  unfold rngM; simp only [okM_bnd, okM_ret]
theorem okM_zip {m : M (List D)} {Q : List D → FSt → Prop} : okM E (zipM m) s Q = okM E m s fun ds s' => ∃ xs, zip2C ds = some xs ∧ Q xs s' := by
  unfold zipM; simp only [okM_bnd, okM_opt]
theorem okM_binS {c : D → D → Option α} {m1 m2 : M D} : okM E (binS c m1 m2) s Q = okM E m1 s fun a s' => a.isStr = true ∧ okM E m2 s' fun b s'' => ∃ x, c a b = some x ∧ Q x s'' := by
  unfold binS; simp only [okM_bnd]
  congr 1
  funext a s'
  by_cases h : a.isStr = true
  · simp only [h, if_true, true_and, okM_bnd, okM_opt]
  · simp only [h, if_false, false_and, okM_opt]
    simp [okM_opt]
theorem okM_slM {m : M D} {ml mh : M (Option Int)} {Q : C → FSt → Prop} : okM E (slM m ml mh) s Q = okM E m s fun d s' => okM E ml s' fun lo s2 => okM E mh s2 fun hi s3 => ∃ c, cSl d lo hi = some c ∧ Q c s3 := by
  unfold slM; simp only [okM_bnd, okM_opt]
theorem okM_rep {m1 : M C} {m2 : M D} {Q : C → FSt → Prop} : okM E (repM m1 m2) s Q = okM E m1 s fun c s' => okM E m2 s' fun d s2 => ∃ x, repC c d = some x ∧ Q x s2 := by
  unfold repM; simp only [okM_bnd, okM_opt]
theorem okM_call {F : Fn} {dd : List D} {m : M (List D)} {Q : D → FSt → Prop} : okM E (callM F dd m) s Q = okM E m s fun ds s' => okF F (ds ++ dd) s'.st (fun n st => E n { s' with st := st }) fun d st => Q d { s' with st := st } := by
  unfold callM; simp only [okM_bnd]
  congr 1
  funext ds s'
  unfold okM okF
  cases e : F (ds ++ dd) s'.st <;> simp only [e]
theorem okM_mov {i : Nat} {Q : C → FSt → Prop} : okM E (movM i) s Q = ∃ c, s.sl.getD i none = some c ∧ Q c { s with sl := s.sl.set i none } := by
  unfold okM movM
  cases s.sl.getD i none <;> simp
theorem okM_frz {i : Nat} {Q : D → FSt → Prop} : okM E (frzM i) s Q = ∃ c, s.sl.getD i none = some c ∧ Q c.toD (s.put i (.val c.toD)) := by
  unfold okM frzM
  cases s.sl.getD i none <;> simp
theorem okM_share {m : M (List C)} {Q : D → FSt → Prop} : okM E (shareL m) s Q = okM E m s fun cs s' => cs.length ≤ sizeLine ∧ Q (.obj s'.st.length) { s' with st := s'.st ++ [.lst cs] } := by
  unfold shareL; simp only [okM_bnd]
  congr 1
  funext cs s'
  by_cases h : cs.length ≤ sizeLine
  · simp only [okM, h, if_true, true_and]
  · simp only [okM, h, if_false, false_and]
theorem okM_mutM {Pl : Plc} {mu : List D → List D → Option (List D × D)} {fs : M (List D)} {Q : D → FSt → Prop} : okM E (mutM Pl mu fs) s Q = ((∃ xs, rdL Pl s = some xs) ∧ okM E fs s fun as s2 => Pl.nm s2 = Pl.nm s ∧ ∃ xs, rdL Pl s2 = some xs ∧ ∃ r, mu xs as = some r ∧ Q r.2 (wrL Pl s2 r.1)) := by
  show okM E (bnd (get (rdL Pl)) (fun _ => bnd fs fun as => mutK Pl mu (Pl.nm s) as)) s Q = _
  simp only [okM_bnd, okM_get]
  have e : ∀ as s2, okM E (mutK Pl mu (Pl.nm s) as) s2 Q = (Pl.nm s2 = Pl.nm s ∧ ∃ xs, rdL Pl s2 = some xs ∧ ∃ r, mu xs as = some r ∧ Q r.2 (wrL Pl s2 r.1)) := fun as s2 => by
    unfold okM mutK
    by_cases h : Pl.nm s2 = Pl.nm s
    · simp only [h, if_true, true_and]
      cases rdL Pl s2 with
      | none => simp
      | some xs =>
        simp only [Option.some.injEq, exists_eq_left']
        cases mu xs as with
        | none => simp
        | some r => simp
    · simp [h]
  simp only [e]
  simp only [exists_and_right]
/-! ### statements -/
theorem okS_nxt : okS nxt s P = P.nx s := rfl
theorem okS_brk : okS brk s P = P.bk s := rfl
theorem okS_cnt : okS cnt s P = P.ct s := rfl
theorem okS_retN : okS retN s P = P.rt .non s := rfl
theorem okS_exc {n : Str} : okS (excS n) s P = P.ex n s := rfl
theorem okS_seq {a b : S} : okS (seqS a b) s P = okS a s { P with nx := fun s' => okS b s' P } := by
  unfold okS seqS
  cases a s <;> rfl
theorem okS_bnd {m : M α} {k : α → S} : okS (bndS m k) s P = okM P.ex m s fun a s' => okS (k a) s' P := by
  unfold okS okM bndS
  cases m s <;> rfl
theorem okS_ret {m : M D} : okS (retS m) s P = okM P.ex m s P.rt := by
  unfold retS; rw [okS_bnd]; rfl
theorem okS_drp {m : M α} : okS (drpS m) s P = okM P.ex m s fun _ s' => P.nx s' := by
  unfold drpS; rw [okS_bnd]; rfl
theorem okS_ite {m : M Bool} {a b : S} : okS (iteS m a b) s P = okM P.ex m s fun t s' => if t = true then okS a s' P else okS b s' P := by
  unfold iteS; rw [okS_bnd]
  congr 1
  funext t s'
  cases t <;> rfl
theorem okS_setC {i : Nat} {m : M C} : okS (setC i m) s P = okM P.ex m s fun c s' => P.nx (s'.put i c) := by
  unfold setC; rw [okS_bnd]; rfl
theorem okS_setF {i : Nat} {m : M D} : okS (setF i m) s P = okM P.ex m s fun d s' => P.nx (s'.put i (.val d)) := by
  unfold setF; rw [okS_bnd]; rfl
theorem okS_asg {m : M D} {g : D → S} : okS (asgS m g) s P = okM P.ex m s fun d s' => okS (g d) s' P := by
  unfold asgS; rw [okS_bnd]
theorem okS_gName {i : Nat} {d : D} : okS (gNameS i d) s P = P.nx (s.put i (.val d)) := rfl
theorem okS_gTup {gs : List (D → S)} {xs : List D} : okS (gTupS gs (.tup xs)) s P = okS (gsS gs xs) s P := rfl
theorem okS_gs0 : okS (gsS [] []) s P = P.nx s := rfl
theorem okS_gs1 {g : D → S} {gs : List (D → S)} {x : D} {xs : List D} : okS (gsS (g :: gs) (x :: xs)) s P = okS (g x) s { P with nx := fun s' => okS (gsS gs xs) s' P } := okS_seq
theorem okS_forI {m : M (List D)} {g : D → S} {b : S} : okS (forI m g b) s P = okM P.ex m s fun xs s' => okS (forL g b xs) s' P := by
  unfold forI; rw [okS_bnd]
theorem okS_thru {h : S} : okS (thruS h) s P = okS h s { P with ex := fun _ _ => False } := by
  unfold okS thruS
  cases h s <;> rfl
theorem okS_setRt {j : Nat} {m mi : M D} : okS (setRt j m mi) s P = okM P.ex m s fun d s1 => (∃ o, objAt j s1 = some o) ∧ okM P.ex mi s1 fun i s2 => ∃ cs k l, objAt j s2 = some (.lst cs) ∧ i = .int k ∧ ixN cs.length k = some l ∧ (∃ e, cs[l]? = some (.val e)) ∧ P.nx (setObj j s2 (.lst (cs.set l (.val d)))) := by
  unfold setRt
  simp only [okS_bnd, okM_get]
  congr 1
  funext d s1
  rw [exists_and_right]
  congr 1
  congr 1
  funext i s2
  unfold okS
  cases h : objAt j s2 with
  | none => simp [h]
  | some o =>
    cases o with
    | lst cs =>
      cases i with
      | int k =>
        cases hk : ixN cs.length k with
        | none => simp [h, hk]
        | some l =>
          simp only [h, hk]
          cases hl : cs[l]? with
          | none => simp [h, hl, hk]
          | some c =>
            cases c <;> simp [h, hl, hk]
      | _ => simp [h]
    | _ => simp [h]
theorem okS_setIx {Pl : Plc} {m mi : M D} : okS (setIx Pl m mi) s P = okM P.ex m s fun d s1 => (∃ o, rdL Pl s1 = some o) ∧ okM P.ex mi s1 fun i s2 => ∃ xs k l, rdL Pl s2 = some xs ∧ i = .int k ∧ ixN xs.length k = some l ∧ P.nx (wrL Pl s2 (xs.set l d)) := by
  unfold setIx
  simp only [okS_bnd, okM_get]
  congr 1
  funext d s1
  rw [exists_and_right]
  congr 1
  congr 1
  funext i s2
  unfold okS
  cases h : rdL Pl s2 with
  | none => simp [h]
  | some xs =>
    cases i with
    | int k =>
      cases hk : ixN xs.length k with
      | none => simp [h, hk]
      | some l => simp [h, hk]
    | _ => simp [h]
/-! ### defs -/
theorem okF_run {h : S} {n np : Nat} {ds : List D} {st : List SO} {E : Str → List SO → Prop} {Q : D → List SO → Prop} : okF (runF h n np) ds st E Q = (ds.length = np ∧ okS h ⟨startC n ds, st⟩ { nx := fun s => Q .non s.st, rt := fun d s => Q d s.st, ex := fun n s => E n s.st }) := by
  unfold okF runF
  by_cases hl : ds.length = np
  · simp only [hl, if_true, true_and]
    unfold okS
    cases h ⟨startC n ds, st⟩ <;> rfl
  · simp [hl]
theorem okF.ok {F : Fn} {ds : List D} {st : List SO} {Q : D → List SO → Prop} (h : okF F ds st (fun _ _ => False) Q) : ∃ d st', F ds st = .ok d st' ∧ Q d st' := by
  unfold okF at h
  cases e : F ds st with
  | ok d st' => rw [e] at h; exact ⟨d, st', rfl, h⟩
  | exc n st' => rw [e] at h; exact h.elim
  | stuck => rw [e] at h; exact h.elim
theorem okF.of {F : Fn} {ds : List D} {st st' : List SO} {d : D} {E : Str → List SO → Prop} {Q : D → List SO → Prop} (e : F ds st = .ok d st') (h : Q d st') : okF F ds st E Q := by
  unfold okF; rw [e]; exact h
theorem okF.mono {F : Fn} {ds : List D} {st : List SO} {E E' : Str → List SO → Prop} {Q Q' : D → List SO → Prop} (h : okF F ds st E Q) (hE : ∀ n s, E n s → E' n s) (hQ : ∀ d s, Q d s → Q' d s) : okF F ds st E' Q' := by
  unfold okF at h ⊢
  cases e : F ds st with
  | ok d st' => rw [e] at h; exact hQ _ _ h
  | exc n st' => rw [e] at h; exact hE _ _ h
  | stuck => rw [e] at h; exact h.elim
theorem okM.mono {E' : Str → FSt → Prop} {Q' : α → FSt → Prop} {m : M α} (h : okM E m s Q) (hE : ∀ n s, E n s → E' n s) (hQ : ∀ d s, Q d s → Q' d s) : okM E' m s Q' := by
  unfold okM at h ⊢
  cases e : m s with
  | ok d st' => rw [e] at h; exact hQ _ _ h
  | exc n st' => rw [e] at h; exact hE _ _ h
  | stuck => rw [e] at h; exact h.elim
theorem okS.mono {P' : Ps} {h : S} (q : okS h s P) (h1 : ∀ s, P.nx s → P'.nx s) (h2 : ∀ d s, P.rt d s → P'.rt d s) (h3 : ∀ n s, P.ex n s → P'.ex n s) (h4 : ∀ s, P.bk s → P'.bk s) (h5 : ∀ s, P.ct s → P'.ct s) : okS h s P' := by
  unfold okS at q ⊢
  cases e : h s with
  | nx s' => rw [e] at q; exact h1 _ q
  | rt d s' => rw [e] at q; exact h2 _ _ q
  | bk s' => rw [e] at q; exact h4 _ q
  | ct s' => rw [e] at q; exact h5 _ q
  | exc n s' => rw [e] at q; exact h3 _ _ q
  | stuck => rw [e] at q; exact q.elim
/-! ### loops -/
theorem okS_forL {g : D → S} {b : S} (I : Nat → FSt → Prop) : ∀ (xs : List D) {s : FSt}, I 0 s → (∀ i x s, xs[i]? = some x → I i s → okS (g x) s { P with nx := fun s' => okS b s' { P with nx := I (i + 1), ct := I (i + 1), bk := P.nx }, ct := I (i + 1), bk := P.nx }) → (∀ s, I xs.length s → P.nx s) → okS (forL g b xs) s P := by
  intro xs
  induction xs generalizing I with
  | nil => exact fun h0 _ hd => hd _ h0
  | cons x xs ih =>
    intro s h0 hs hd
    have h1 := hs 0 x s rfl h0
    have h1 : okS (seqS (g x) b) s { P with nx := I 1, ct := I 1, bk := P.nx } := by
      rw [okS_seq]
      exact h1
    have next : ∀ s', I 1 s' → okS (forL g b xs) s' P := fun s' q => ih (fun i => I (i + 1)) q (fun i y s2 hy hi => hs (i + 1) y s2 hy hi) hd
    unfold okS at h1 ⊢
    unfold forL
    cases e : seqS (g x) b s with
    | nx s' => rw [e] at h1; exact next s' h1
    | ct s' => rw [e] at h1; exact next s' h1
    | bk s' => rw [e] at h1; exact h1
    | rt d s' => rw [e] at h1; exact h1
    | exc n s' => rw [e] at h1; exact h1
    | stuck => rw [e] at h1; exact h1
theorem okS_while {c : M Bool} {b : S} (I : Nat → FSt → Prop) (hs : ∀ n s, I n s → okM P.ex c s fun t s' => if t = true then okS b s' { P with nx := fun s'' => ∃ m, m < n ∧ I m s'', ct := fun s'' => ∃ m, m < n ∧ I m s'', bk := P.nx } else P.nx s') :
    ∀ (n f : Nat) (s : FSt), n < f → I n s → okS (whileL c b f) s P := by
  intro n
  induction n using Nat.strongRecOn with
  | _ n ih =>
    intro f s hf hi
    cases f with
    | zero => omega
    | succ f =>
      unfold whileL
      rw [okS_bnd]
      refine (hs n s hi).mono (fun _ _ h => h) fun t s' q => ?_
      cases t with
      | false => exact q
      | true =>
        rw [if_pos rfl] at q
        rw [if_pos rfl]
        have next : ∀ s'', (∃ m, m < n ∧ I m s'') → okS (whileL c b f) s'' P := fun s'' ⟨m, hm, q⟩ => ih m hm f s'' (by omega) q
        unfold okS at q ⊢
        cases e : b s' with
        | nx s'' => simp only [e] at q ⊢; exact next s'' q
        | ct s'' => simp only [e] at q ⊢; exact next s'' q
        | bk s'' => simp only [e] at q ⊢; exact q
        | rt d s'' => simp only [e] at q ⊢; exact q
        | exc n s'' => simp only [e] at q ⊢; exact q
        | stuck => simp only [e] at q
theorem okS_whileS {c : M Bool} {b : S} (I : Nat → FSt → Prop) (n : Nat) (hn : n < fuel) (h0 : I n s) (hs : ∀ n s, I n s → okM P.ex c s fun t s' => if t = true then okS b s' { P with nx := fun s'' => ∃ m, m < n ∧ I m s'', ct := fun s'' => ∃ m, m < n ∧ I m s'', bk := P.nx } else P.nx s') : okS (whileS c b) s P :=
  okS_while I hs n fuel s hn h0
/-- [elt for x in xs] -/
theorem lcL_ok {i : Nat} {elt : M D} {sw : List (Option C)} : ∀ (zs : List D) (I : Nat → List D → List SO → Prop) (k : Nat) (ys : List D) (s : FSt),
    (∀ j x ys st, zs[j]? = some x → I (k + j) ys st → ys.length = k + j → okM (fun _ _ => False) elt ⟨sw.set i (some (.val x)), st⟩ fun y s' => s'.sl.set i none = sw ∧ I (k + j + 1) (ys ++ [y]) s'.st) →
    k + zs.length < sizeLine → ys.length = k → s.sl.set i none = sw → I k ys s.st → ∃ rs st, lcL (gNameS i) [i] tYesM elt zs ys s = .ok rs ⟨sw, st⟩ ∧ I (k + zs.length) rs st ∧ rs.length = k + zs.length
  | [], I, k, ys, s, hs, hl, hy, hw, hi => by
    refine ⟨ys, s.st, ?_, hi, hy⟩
    show Out.ok ys (⟨s.sl.set i none, s.st⟩ : FSt) = _
    rw [hw]
  | x :: zs, I, k, ys, s, hs, hl, hy, hw, hi => by
    have h1 := hs 0 x ys s.st rfl hi hy
    have hl : k + (zs.length + 1) < sizeLine := hl
    unfold lcL
    have es : gNameS i x (s.wipe [i]) = .nx ⟨sw.set i (some (.val x)), s.st⟩ := by
      show Fl.nx ⟨(s.sl.set i none).set i _, s.st⟩ = _
      rw [hw]
    rw [es]
    unfold okM at h1
    cases e : elt ⟨sw.set i (some (.val x)), s.st⟩ with
    | ok y s' =>
      rw [e] at h1
      have h1 : s'.sl.set i none = sw ∧ I (k + 0 + 1) (ys ++ [y]) s'.st := h1
      have hlen : ys.length < sizeLine := by omega
      obtain ⟨rs, st, e2, i2, l2⟩ := lcL_ok zs I (k + 1) (ys ++ [y]) s' (fun j z vs st hz hI hv => by
        have := hs (j + 1) z vs st hz (by rw [show k + (j + 1) = k + 1 + j by omega]; exact hI) (by omega)
        rw [show k + (j + 1) + 1 = k + 1 + j + 1 by omega] at this
        exact this) (by omega) (by rw [List.length_append, List.length_singleton]; omega) h1.1 h1.2
      refine ⟨rs, st, ?_, by rw [show k + (x :: zs).length = k + 1 + zs.length by rw [List.length_cons]; omega]; exact i2, by rw [l2]; show k + 1 + zs.length = k + (zs.length + 1); omega⟩
      simp only [tYesM, ret, e, hlen, if_true]
      exact e2
    | exc n s' => rw [e] at h1; exact h1.elim
    | stuck => rw [e] at h1; exact h1.elim
theorem okM_lc {m : M (List D)} {i : Nat} {elt : M D} {Q : C → FSt → Prop} (h : okM E m s fun xs s1 => ∃ I : Nat → List D → List SO → Prop, xs.length < sizeLine ∧ I 0 [] s1.st ∧
    (∀ j x ys st, xs[j]? = some x → I j ys st → ys.length = j → okM (fun _ _ => False) elt ⟨(s1.sl.set i none).set i (some (.val x)), st⟩ fun y s' => s'.sl.set i none = s1.sl.set i none ∧ I (j + 1) (ys ++ [y]) s'.st) ∧
    ∀ ys st, I xs.length ys st → ys.length = xs.length → Q (.lst ys) ⟨(s1.sl.set i none).set i (keepC (s1.sl.getD i none)), st⟩) : okM E (lcM m (gNameS i) [i] tYesM elt) s Q := by
  unfold lcM
  rw [okM_bnd]
  refine h.mono (fun _ _ h => h) fun xs s1 ⟨I, hl, h0, hs, hd⟩ => ?_
  obtain ⟨rs, st, e, hi, hz⟩ := lcL_ok (elt := elt) (i := i) (sw := s1.sl.set i none) xs I 0 [] s1 (fun j x ys st hx hI hy => by
    rw [Nat.zero_add] at hI hy ⊢
    exact hs j x ys st hx hI hy) (by omega) rfl rfl h0
  rw [Nat.zero_add] at hi hz
  unfold okM
  simp only [e]
  exact hd rs st hi hz
/-- .. every item by a plain function -/
theorem okM_lcMap {m : M (List D)} {i : Nat} {elt : M D} {Q : C → FSt → Prop} (h : okM E m s fun xs s1 => ∃ f : D → D, xs.length < sizeLine ∧
    (∀ x ∈ xs, okM (fun _ _ => False) elt ⟨(s1.sl.set i none).set i (some (.val x)), s1.st⟩ fun y s' => s'.sl.set i none = s1.sl.set i none ∧ s'.st = s1.st ∧ y = f x) ∧
    Q (.lst (xs.map f)) ⟨(s1.sl.set i none).set i (keepC (s1.sl.getD i none)), s1.st⟩) : okM E (lcM m (gNameS i) [i] tYesM elt) s Q := by
  refine okM_lc (h.mono (fun _ _ h => h) fun xs s1 ⟨f, hl, hs, hq⟩ => ⟨fun j ys st => st = s1.st ∧ ys = (xs.take j).map f, hl, ⟨rfl, rfl⟩, ?_, ?_⟩)
  · rintro j x ys st hx ⟨rfl, rfl⟩ _
    refine (hs x (List.mem_of_getElem? hx)).mono (fun _ _ h => h) fun y s' ⟨h1, h2, h3⟩ => ⟨h1, h2, ?_⟩
    subst h3
    rw [List.take_add_one, hx]
    simp
  · rintro ys st ⟨rfl, rfl⟩ _
    rw [List.take_length]
    exact hq
theorem okM_lcMap' {m : M (List D)} {i : Nat} {elt : M D} {Q : C → FSt → Prop} (xs : List D) (s1 : FSt) (f : D → D) (hm : ∀ Q' : List D → FSt → Prop, Q' xs s1 → okM E m s Q') (hl : xs.length < sizeLine)
    (hs : ∀ x ∈ xs, okM (fun _ _ => False) elt ⟨(s1.sl.set i none).set i (some (.val x)), s1.st⟩ fun y s' => s'.sl.set i none = s1.sl.set i none ∧ s'.st = s1.st ∧ y = f x)
    (hq : Q (.lst (xs.map f)) ⟨(s1.sl.set i none).set i (keepC (s1.sl.getD i none)), s1.st⟩) : okM E (lcM m (gNameS i) [i] tYesM elt) s Q := okM_lcMap (hm _ ⟨f, hl, hs, hq⟩)
theorem okM_lc' {m : M (List D)} {i : Nat} {elt : M D} {Q : C → FSt → Prop} (xs : List D) (s1 : FSt) (I : Nat → List D → List SO → Prop) (hm : ∀ Q' : List D → FSt → Prop, Q' xs s1 → okM E m s Q') (hl : xs.length < sizeLine) (h0 : I 0 [] s1.st)
    (hs : ∀ j x ys st, xs[j]? = some x → I j ys st → ys.length = j → okM (fun _ _ => False) elt ⟨(s1.sl.set i none).set i (some (.val x)), st⟩ fun y s' => s'.sl.set i none = s1.sl.set i none ∧ I (j + 1) (ys ++ [y]) s'.st)
    (hd : ∀ ys st, I xs.length ys st → ys.length = xs.length → Q (.lst ys) ⟨(s1.sl.set i none).set i (keepC (s1.sl.getD i none)), st⟩) : okM E (lcM m (gNameS i) [i] tYesM elt) s Q := okM_lc (hm _ ⟨I, hl, h0, hs, hd⟩)
theorem seq_cut {a b : S} (R : FSt → Prop) (h1 : okS a s { P with nx := R }) (h2 : ∀ s', R s' → okS b s' P) : okS (seqS a b) s P := by
  rw [okS_seq]
  exact h1.mono h2 (fun _ _ h => h) (fun _ _ h => h) (fun _ h => h) (fun _ h => h)
end
end Ev

namespace Ev
open PySem L2
/-! ## what the operators give -/
section
variable {i j : Int} {x y : Str} {b : Bool} {Q : D → Prop} {QC : C → Prop} {xs ys : List D} {c0 c1 c2 c3 : C} {sl : List (Option C)} {st : List SO}
theorem if_ex {α : Type} {c : Prop} [Decidable c] {a : α} {Q : α → Prop} : (∃ r, (if c then some a else none) = some r ∧ Q r) = (c ∧ Q a) := by
  by_cases h : c
  · rw [if_pos h]; simp [h]
  · rw [if_neg h]; simp [h]
theorem x_add : (∃ r, cAdd (.int i) (.int j) = some r ∧ Q r) = Q (.int (i + j)) := by simp [cAdd]
theorem x_addS : (∃ r, cAdd (.str x) (.str y) = some r ∧ Q r) = (x.length + y.length ≤ sizeLine ∧ Q (.str (x ++ y))) := by
  simp only [cAdd]
  exact if_ex
theorem x_sub : (∃ r, cSub (.int i) (.int j) = some r ∧ Q r) = Q (.int (i - j)) := by simp [cSub]
theorem x_mul : (∃ r, cMul (.int i) (.int j) = some r ∧ Q r) = ((i.natAbs < 2 ^ 64 ∨ j.natAbs < 2 ^ 64) ∧ Q (.int (i * j))) := by
  simp only [cMul]
  exact if_ex
theorem x_mod : (∃ r, cMod (.int i) (.int j) = some r ∧ Q r) = (0 < j ∧ Q (.int (i % j))) := by
  simp only [cMod]
  exact if_ex
theorem x_div : (∃ r, cDiv (.int i) (.int j) = some r ∧ Q r) = ((0 < j ∧ j < 2 ^ 60) ∧ Q (.int (i / j))) := by
  simp only [cDiv]
  exact if_ex
theorem x_pow : (∃ r, cPow (.int i) (.int j) = some r ∧ Q r) = ((0 ≤ j ∧ j ≤ 100 ∧ i.natAbs < 2 ^ 64) ∧ Q (.int (i ^ j.toNat))) := by
  simp only [cPow]
  exact if_ex
theorem x_lt : (∃ r, cLt (.int i) (.int j) = some r ∧ Q r) = Q (.bl (decide (i < j))) := by simp [cLt]
theorem x_le : (∃ r, cLe (.int i) (.int j) = some r ∧ Q r) = Q (.bl (decide (i ≤ j))) := by simp [cLe]
theorem x_gt : (∃ r, cGt (.int i) (.int j) = some r ∧ Q r) = Q (.bl (decide (j < i))) := by simp [cGt]
theorem x_ge : (∃ r, cGe (.int i) (.int j) = some r ∧ Q r) = Q (.bl (decide (j ≤ i))) := by simp [cGe]
theorem beq_dec {α : Type} [DecidableEq α] (a b : α) : (a == b) = decide (a = b) := rfl
theorem eqv_int : D.eqv (.int i) (.int j) = decide (i = j) := by
  show (i == j) = _
  exact Bool.eq_iff_iff.mpr (by simp)
theorem eqv_str : D.eqv (.str x) (.str y) = decide (x = y) := by
  show (x == y) = _
  exact Bool.eq_iff_iff.mpr (by simp)
theorem x_eqI : (∃ r, cEq (.int i) (.int j) = some r ∧ Q r) = Q (.bl (decide (i = j))) := by
  simp [cEq, D.fin, D.dep, eqv_int]
theorem x_neI : (∃ r, cNe (.int i) (.int j) = some r ∧ Q r) = Q (.bl (!decide (i = j))) := by
  simp [cNe, D.fin, D.dep, eqv_int]
theorem x_eqS : (∃ r, cEq (.str x) (.str y) = some r ∧ Q r) = Q (.bl (decide (x = y))) := by
  simp [cEq, D.fin, D.dep, eqv_str]
theorem x_neS : (∃ r, cNe (.str x) (.str y) = some r ∧ Q r) = Q (.bl (!decide (x = y))) := by
  simp [cNe, D.fin, D.dep, eqv_str]
theorem eqv_nilL : D.eqv (.lst xs) (.lst []) = xs.isEmpty := by
  cases xs with
  | nil => rfl
  | cons a r => rfl
theorem eqv_nilT : D.eqv (.tup xs) (.tup []) = xs.isEmpty := by
  cases xs with
  | nil => rfl
  | cons a r => rfl
theorem x_neNil (h : D.fins xs = true) : (∃ r, cNe (.lst xs) (.lst []) = some r ∧ Q r) = Q (.bl (!xs.isEmpty)) := by
  simp [cNe, D.fin, D.dep, D.deps, D.fins, eqv_nilL, h]
theorem x_eqNilT (h : D.fins xs = true) : (∃ r, cEq (.tup xs) (.tup []) = some r ∧ Q r) = Q (.bl (xs.isEmpty)) := by
  simp [cEq, D.fin, D.dep, D.deps, D.fins, eqv_nilT, h]
theorem x_toB {Q : Bool → Prop} : (∃ t, D.toB? (.bl b) = some t ∧ Q t) = Q b := by simp [D.toB?]
theorem x_bl {Q : Bool → Prop} : (∃ t, D.bl b = D.bl t ∧ Q t) = Q b := by simp
theorem x_some {α : Type} {a : α} {Q : α → Prop} : (∃ x, some a = some x ∧ Q x) = Q a := by simp
theorem x_lenL : (∃ r, cLen (.lst xs) = some r ∧ Q r) = Q (.int xs.length) := by simp [cLen]
theorem x_lenT : (∃ r, cLen (.tup xs) = some r ∧ Q r) = Q (.int xs.length) := by simp [cLen]
theorem x_lenS : (∃ r, cLen (.str x) = some r ∧ Q r) = (x.length ≤ sizeLine ∧ Q (.int x.length)) := by
  simp only [cLen]
  by_cases h : x.length ≤ sizeLine <;> simp [h]
theorem x_isNN : (∃ r, cIsN .non = some r ∧ Q r) = Q (.bl true) := by simp [cIsN]
theorem x_isNL : (∃ r, cIsN (.lst xs) = some r ∧ Q r) = Q (.bl false) := by simp [cIsN]
theorem x_isNT : (∃ r, cIsN (.tup xs) = some r ∧ Q r) = Q (.bl false) := by simp [cIsN]
theorem x_isNI : (∃ r, cIsN (.int i) = some r ∧ Q r) = Q (.bl false) := by simp [cIsN]
theorem x_isNS : (∃ r, cIsN (.str x) = some r ∧ Q r) = Q (.bl false) := by simp [cIsN]
theorem x_max : (∃ r, cMax (.int i) (.int j) = some r ∧ Q r) = Q (.int (if j > i then j else i)) := by simp [cMax]
theorem x_min : (∃ r, cMin (.int i) (.int j) = some r ∧ Q r) = Q (.int (if j < i then j else i)) := by simp [cMin]
theorem x_tupL : (∃ r, cTup (.lst xs) = some r ∧ Q r) = Q (.tup xs) := by simp [cTup]
theorem x_str (h : i.natAbs.log2 < 1920) : (∃ r, cStr (.int i) = some r ∧ Q r) = Q (.str (intS i)) := by simp [cStr, h]
theorem x_toI {Q : Option Int → Prop} : (∃ r, toI (.int i) = some r ∧ Q r) = Q (some i) := by simp [toI]
theorem x_itemsL {Q : List D → Prop} : (∃ r, D.items (.lst xs) = some r ∧ Q r) = Q xs := by simp [D.items]
theorem x_itemsT {Q : List D → Prop} : (∃ r, D.items (.tup xs) = some r ∧ Q r) = Q xs := by simp [D.items]
theorem x_zip {Q : List D → Prop} : (∃ r, zip2C [.lst xs, .lst ys] = some r ∧ Q r) = Q (zipD xs ys) := by simp [zip2C, D.items]
theorem x_zipTL {Q : List D → Prop} : (∃ r, zip2C [.tup xs, .lst ys] = some r ∧ Q r) = Q (zipD xs ys) := by simp [zip2C, D.items]
theorem x_cat : (∃ r, cCat (.lst xs) (.lst ys) = some r ∧ QC r) = (xs.length + ys.length ≤ sizeLine ∧ QC (.lst (xs ++ ys))) := by
  simp only [cCat]
  by_cases h : xs.length + ys.length ≤ sizeLine <;> simp [h]
theorem x_rng {Q : Int × Int → Prop} : (∃ r, rngC (.int i) = some r ∧ Q r) = ((-(2 ^ 62) ≤ i ∧ i < 2 ^ 62) ∧ Q (0, i)) := by
  simp only [rngC]
  exact if_ex
/-- a shared list of four cells, the first of the shared objects -/
theorem x_t0 {Q : D → Prop} : (∃ r, ixV (.obj 0) (.int 0) ⟨sl, .lst [c0, c1, c2, c3] :: st⟩ = some r ∧ Q r) = Q c0.toD := by
  rw [show ixV (.obj 0) (.int 0) ⟨sl, .lst [c0, c1, c2, c3] :: st⟩ = some c0.toD from rfl, x_some]
theorem x_t1 {Q : D → Prop} : (∃ r, ixV (.obj 0) (.int 1) ⟨sl, .lst [c0, c1, c2, c3] :: st⟩ = some r ∧ Q r) = Q c1.toD := by
  rw [show ixV (.obj 0) (.int 1) ⟨sl, .lst [c0, c1, c2, c3] :: st⟩ = some c1.toD from rfl, x_some]
theorem x_t2 {Q : D → Prop} : (∃ r, ixV (.obj 0) (.int 2) ⟨sl, .lst [c0, c1, c2, c3] :: st⟩ = some r ∧ Q r) = Q c2.toD := by
  rw [show ixV (.obj 0) (.int 2) ⟨sl, .lst [c0, c1, c2, c3] :: st⟩ = some c2.toD from rfl, x_some]
theorem x_t3 {Q : D → Prop} : (∃ r, ixV (.obj 0) (.int 3) ⟨sl, .lst [c0, c1, c2, c3] :: st⟩ = some r ∧ Q r) = Q c3.toD := by
  rw [show ixV (.obj 0) (.int 3) ⟨sl, .lst [c0, c1, c2, c3] :: st⟩ = some c3.toD from rfl, x_some]
end
theorem slotV_mk {i : Nat} {sl : List (Option C)} {st : List SO} : slotV i ⟨sl, st⟩ = (match sl.getD i none with | some (.val d) => some d | _ => none) := rfl
theorem slotD_mk {i : Nat} {sl : List (Option C)} {st : List SO} : slotD i ⟨sl, st⟩ = (sl.getD i none).map C.toD := rfl
theorem put_mk {i : Nat} {c : C} {sl : List (Option C)} {st : List SO} : (⟨sl, st⟩ : FSt).put i c = ⟨sl.set i (some c), st⟩ := rfl
/-! ### the shared list of four -/
section
variable {sl : List (Option C)} {xs ys : List D} {cs : List C} {o o2 : SO} {c0 c1 c2 c3 d : C} {e : D} {k : Int}
theorem t_rd : rdL (.ix 0 0) ⟨some (.val (.obj 0)) :: sl, [.lst (.lst xs :: cs)]⟩ = some xs := rfl
theorem t_wr : wrL (.ix 0 0) ⟨some (.val (.obj 0)) :: sl, [.lst (.lst xs :: cs)]⟩ ys = ⟨some (.val (.obj 0)) :: sl, [.lst (.lst ys :: cs)]⟩ := rfl
theorem t_obj : objAt 0 ⟨some (.val (.obj 0)) :: sl, [o]⟩ = some o := rfl
theorem t_set : setObj 0 ⟨some (.val (.obj 0)) :: sl, [o]⟩ o2 = ⟨some (.val (.obj 0)) :: sl, [o2]⟩ := rfl
theorem t_nm {s : FSt} : Plc.nm (.ix 0 0) s = slotN 0 s := rfl
theorem t_slotN {st : List SO} : slotN 0 ⟨some (.val (.obj 0)) :: sl, st⟩ = some 0 := rfl
theorem t_some {α : Type} {a : α} : (∃ x, some a = some x) = True := by simp
theorem t_ix {R : List C → Nat → Prop} : (∃ cs' k' l, some (SO.lst cs) = some (SO.lst cs') ∧ D.int k = D.int k' ∧ ixN cs'.length k' = some l ∧ R cs' l) = ∃ l, ixN cs.length k = some l ∧ R cs l := by
  apply propext
  constructor
  · rintro ⟨cs', k', l, h1, h2, h3, h4⟩
    cases h1
    cases h2
    exact ⟨l, h3, h4⟩
  · rintro ⟨l, h3, h4⟩
    exact ⟨cs, k, l, rfl, rfl, h3, h4⟩
theorem t_ix1 {R : Nat → Prop} : (∃ l, ixN [c0, c1, c2, c3].length 1 = some l ∧ R l) = R 1 := by
  rw [show ixN [c0, c1, c2, c3].length 1 = some 1 from rfl, x_some]
theorem t_ix3 {R : Nat → Prop} : (∃ l, ixN [c0, c1, c2, c3].length 3 = some l ∧ R l) = R 3 := by
  rw [show ixN [c0, c1, c2, c3].length 3 = some 3 from rfl, x_some]
theorem t_val1 : (∃ e', [c0, .val e, c2, c3][1]? = some (C.val e')) = True := by simp
theorem t_val3 : (∃ e', [c0, c1, c2, .val e][3]? = some (C.val e')) = True := by simp
theorem t_set1 : [c0, c1, c2, c3].set 1 d = [c0, d, c2, c3] := rfl
theorem t_set3 : [c0, c1, c2, c3].set 3 d = [c0, c1, c2, d] := rfl
end
theorem s_rd {i : Nat} {sl : List (Option C)} {st : List SO} : rdL (.slot i) ⟨sl, st⟩ = (match sl.getD i none with | some (.lst xs) => some xs | _ => none) := rfl
theorem s_wr {i : Nat} {sl : List (Option C)} {st : List SO} {xs : List D} : wrL (.slot i) ⟨sl, st⟩ xs = ⟨sl.set i (some (.lst xs)), st⟩ := rfl
theorem s_nm {i : Nat} {s : FSt} : Plc.nm (.slot i) s = none := rfl
theorem s_ix {xs : List D} {k : Int} {R : List D → Nat → Prop} : (∃ xs' k' l, some xs = some xs' ∧ D.int k = D.int k' ∧ ixN xs'.length k' = some l ∧ R xs' l) = ∃ l, ixN xs.length k = some l ∧ R xs l := by
  apply propext
  constructor
  · rintro ⟨cs', k', l, h1, h2, h3, h4⟩
    cases h1
    cases h2
    exact ⟨l, h3, h4⟩
  · rintro ⟨l, h3, h4⟩
    exact ⟨xs, k, l, rfl, rfl, h3, h4⟩
theorem ixN_nat {n : Nat} {k : Int} (h0 : 0 ≤ k) (h1 : k < n) : ixN n k = some k.toNat := by
  unfold ixN
  rw [if_pos h0, if_pos h1]
theorem ofString_inj {a b : String} : (Str.ofString a = Str.ofString b) = (a = b) := by
  apply propext
  constructor
  · intro h
    have h : Str.cps (Str.ofString a) = Str.cps (Str.ofString b) := by rw [h]
    have h2 : cpsOfBytes 0 0 a.toByteArray.data.toList = cpsOfBytes 0 0 b.toByteArray.data.toList := by
      have := congrArg Array.toList h
      simpa [Str.ofString] using this
    rw [cpsOfBytes_string, cpsOfBytes_string] at h2
    have inj : ∀ (l r : List Char), l.map Char.toNat = r.map Char.toNat → l = r := by
      intro l
      induction l with
      | nil => intro r hr; cases r with
        | nil => rfl
        | cons c t => simp at hr
      | cons c t ih =>
        intro r hr
        cases r with
        | nil => simp at hr
        | cons d u =>
          simp only [List.map_cons, List.cons.injEq] at hr
          have e1 : c = d := Char.ext (UInt32.toNat_inj.mp hr.1)
          rw [e1, ih u hr.2]
    exact String.toList_inj.mp (inj _ _ h2)
  · intro h; rw [h]
theorem pop0 {d : D} {xs : List D} : mPopAt (d :: xs) [.int 0] = some (xs, d) := by
  unfold mPopAt
  simp [seqIndex?]
theorem fins_int : ∀ g : List Int, D.fins (g.map .int) = true
  | [] => rfl
  | a :: r => fins_int r
section
variable {d : D} {xs ys : List D} {Q : D → Prop} {QC : C → Prop}
theorem x_ix0T : (∃ r, cIx (.tup (d :: xs)) (.int 0) = some r ∧ Q r) = Q d := by
  have e : cIx (.tup (d :: xs)) (.int 0) = some d := by
    show atI (d :: xs) 0 = some d
    unfold atI
    rw [ixN_nat (by decide) (by rw [List.length_cons]; omega)]
    rfl
  rw [e, x_some]
theorem x_ix0L : (∃ r, cIx (.lst (d :: xs)) (.int 0) = some r ∧ Q r) = Q d := by
  have e : cIx (.lst (d :: xs)) (.int 0) = some d := by
    show atI (d :: xs) 0 = some d
    unfold atI
    rw [ixN_nat (by decide) (by rw [List.length_cons]; omega)]
    rfl
  rw [e, x_some]
theorem x_ix1T {a : D} : (∃ r, cIx (.tup (a :: d :: xs)) (.int 1) = some r ∧ Q r) = Q d := by
  have e : cIx (.tup (a :: d :: xs)) (.int 1) = some d := by
    show atI (a :: d :: xs) 1 = some d
    unfold atI
    rw [ixN_nat (by decide) (by rw [List.length_cons, List.length_cons]; omega)]
    rfl
  rw [e, x_some]
theorem cut1 {α : Type} {d : α} {xs : List α} : cutL (d :: xs) (some 1) none = xs := by
  unfold cutL
  have e1 : HT.sIx (d :: xs).length 0 (some 1) = 1 := by
    simp [HT.sIx]
  have e2 : HT.sIx (d :: xs).length (d :: xs).length none = (d :: xs).length := rfl
  rw [e1, e2]
  simp
theorem x_sl1T : (∃ r, cSl (.tup (d :: xs)) (some 1) none = some r ∧ QC r) = QC (.val (.tup xs)) := by
  show (∃ r, some (C.val (.tup (cutL (d :: xs) (some 1) none))) = some r ∧ QC r) = _
  rw [cut1, x_some]
theorem x_sl1L : (∃ r, cSl (.lst (d :: xs)) (some 1) none = some r ∧ QC r) = QC (.lst xs) := by
  show (∃ r, some (C.lst (cutL (d :: xs) (some 1) none)) = some r ∧ QC r) = _
  rw [cut1, x_some]
theorem slotV_set {i : Nat} {sl : List (Option C)} {st : List SO} (h : i < sl.length) : slotV i ⟨sl.set i (some (.val d)), st⟩ = some d := by
  unfold slotV
  simp [List.getD, List.getElem?_set_self h]
end
theorem allStr_map : ∀ zs : List Str, allStr (zs.map .str) = some zs
  | [] => rfl
  | z :: zs => by
    show (allStr (zs.map .str)).map (z :: ·) = _
    rw [allStr_map zs]; rfl
theorem x_join {x : Str} {zs : List Str} {Q : D → Prop} (h : (zs.map (·.length)).sum + zs.length * x.length ≤ 16777216) : (∃ r, cJoin (.str x) (.lst (zs.map .str)) = some r ∧ Q r) = Q (.str (Str.join x zs)) := by
  have e : cJoin (.str x) (.lst (zs.map .str)) = some (.str (Str.join x zs)) := by
    show (allStr (zs.map .str)).bind _ = _
    rw [allStr_map, Option.bind_some, if_pos h, txtJoin_eq]
  rw [e, x_some]
end Ev

local macro_rules | `(tactic| walk_at "evs") => `(tactic| simp only [Ev.okM_bnd, Ev.okM_ret, Ev.okM_opt, Ev.okM_get, Ev.okM_una, Ev.okM_bin, Ev.okM_getB, Ev.okM_tst, Ev.okM_nil, Ev.okM_cons, Ev.okM_nilC, Ev.okM_consC, Ev.okM_valM, Ev.okM_fz, Ev.okM_tup, Ev.okM_lst, Ev.okM_andT, Ev.okM_orT, Ev.okM_notT, Ev.okM_iteM, Ev.okM_andV, Ev.okM_orV, Ev.okM_notV, Ev.x_bl, Ev.okM_items, Ev.okM_chars, Ev.okM_rng, Ev.okM_zip, Ev.okM_binS, Ev.okM_slM, Ev.okM_rep, Ev.okM_call, Ev.okM_mov, Ev.okM_frz, Ev.okM_share, Ev.okM_mutM, Ev.okS_nxt, Ev.okS_brk, Ev.okS_cnt, Ev.okS_retN, Ev.okS_exc, Ev.okS_seq, Ev.okS_bnd, Ev.okS_ret, Ev.okS_drp, Ev.okS_ite, Ev.okS_setC, Ev.okS_setF, Ev.okS_asg, Ev.okS_gName, Ev.okS_gTup, Ev.okS_gs0, Ev.okS_gs1, Ev.okS_forI, Ev.okS_thru, Ev.okS_setRt, Ev.okS_setIx, Ev.x_add, Ev.x_addS, Ev.x_sub, Ev.x_mul, Ev.x_mod, Ev.x_div, Ev.x_pow, Ev.x_lt, Ev.x_le, Ev.x_gt, Ev.x_ge, Ev.x_eqI, Ev.x_neI, Ev.x_eqS, Ev.x_neS, Ev.x_toB, Ev.x_some, Ev.x_lenL, Ev.x_lenT, Ev.x_lenS, Ev.x_isNN, Ev.x_isNL, Ev.x_isNT, Ev.x_isNI, Ev.x_isNS, Ev.x_max, Ev.x_min, Ev.x_tupL, Ev.x_toI, Ev.x_itemsL, Ev.x_itemsT, Ev.x_zip, Ev.x_zipTL, Ev.x_cat, Ev.x_rng, Ev.x_t0, Ev.x_t1, Ev.x_t2, Ev.x_t3, Ev.slotV_mk, Ev.slotD_mk, Ev.put_mk, List.getD_cons_zero, List.getD_cons_succ, List.set_cons_zero, List.set_cons_succ, Option.map_some, Ev.C.toD, List.nil_append, List.cons_append, List.append_nil, Ev.D.isStr, true_and, Ev.ofString_inj, decide_true, decide_false, Bool.false_eq_true, Bool.not_true, Bool.not_false, Bool.true_eq_false, String.reduceEq, ↓reduceIte])
local macro_rules | `(tactic| walk_at "evt") => `(tactic| simp only [Ev.t_rd, Ev.t_wr, Ev.t_obj, Ev.t_set, Ev.t_nm, Ev.t_slotN, Ev.t_some, Ev.t_ix, Ev.t_ix1, Ev.t_ix3, Ev.t_val1, Ev.t_val3, Ev.t_set1, Ev.t_set3, Ev.s_rd, Ev.s_wr, Ev.s_nm, Ev.s_ix, Ev.x_some, true_and])
local macro_rules | `(tactic| walk_at "evx") => `(tactic| ((try walk_at "evs"); (try walk_at "evt"); (try walk_at "evs"); (try walk_at "evt"); (try walk_at "evs"); (try walk_at "evt"); (try walk_at "evs")))
-- the rules stand here
namespace Ev
open PySem PySem.StrLaws Builtin.Str
/-! ## splitting what was joined -/
def ostep (x y : Str) (hi limit : Nat) (st : Array Nat × Nat) (i : Nat) : Array Nat × Nat :=
  if ((st.fst.size < limit ∧ st.snd ≤ i) ∧ i + y.length ≤ hi) ∧ subAt x y i = true then (st.fst.push i, i + y.length) else st
theorem occ_fold (x y : Str) (hi limit : Nat) : ∀ (l : List Nat) (st : Array Nat × Nat), (forIn l st (occBody x y hi limit)).run = l.foldl (ostep x y hi limit) st
  | [], st => rfl
  | i :: l, st => by
    rw [List.foldl_cons, ← occ_fold x y hi limit l]
    unfold occBody ostep
    by_cases h : ((st.fst.size < limit ∧ st.snd ≤ i) ∧ i + y.length ≤ hi) ∧ subAt x y i = true
    · simp [List.forIn_cons, h]
    · simp [List.forIn_cons, h]
theorem fold_skip {x y : Str} {hi limit : Nat} {st : Array Nat × Nat} : ∀ (l : List Nat), (∀ i ∈ l, ¬ (st.snd ≤ i ∧ i + y.length ≤ hi ∧ subAt x y i = true)) → l.foldl (ostep x y hi limit) st = st
  | [], _ => rfl
  | i :: l, h => by
    have e : ostep x y hi limit st i = st := if_neg fun z => h i (by simp) ⟨z.1.1.2, z.1.2, z.2⟩
    rw [List.foldl_cons, e]
    exact fold_skip l fun j hj => h j (by simp [hj])
def cutsFrom (w : Nat) : Nat → List Str → List Nat
  | _, [] => []
  | _, [_] => []
  | a, p :: q :: r => (a + p.length) :: cutsFrom w (a + p.length + w) (q :: r)
theorem subAt_head {x y : Str} {i c : Nat} {t : List Nat} (hy : y.cps.toList = c :: t) (h : subAt x y i = true) : x.cps.toList[i]? = some c := by
  rw [subAt_eq, hy] at h
  have h := eq_of_beq h
  have hl : y.length = t.length + 1 := by
    have : y.cps.toList.length = t.length + 1 := by rw [hy]; rfl
    simpa [Str.length] using this
  rw [hl] at h
  cases e : x.cps.toList.drop i with
  | nil => rw [e] at h; simp at h
  | cons b r =>
    rw [e] at h
    simp only [List.take_succ_cons, List.cons.injEq] at h
    have : (x.cps.toList.drop i)[0]? = some b := by rw [e]; rfl
    rw [List.getElem?_drop] at this
    rw [← h.1]
    simpa using this
theorem no_at {x y p : Str} {a i c : Nat} {t r : List Nat} (hy : y.cps.toList = c :: t) (hd : x.cps.toList.drop a = p.cps.toList ++ r) (hp : c ∉ p.cps.toList) (h0 : a ≤ i) (h1 : i < a + p.length) : ¬ subAt x y i = true := fun h => by
  have e := subAt_head hy h
  have e2 : (x.cps.toList.drop a)[i - a]? = some c := by
    rw [List.getElem?_drop, show a + (i - a) = i by omega]; exact e
  rw [hd] at e2
  have hl : i - a < p.cps.toList.length := by
    have : p.cps.toList.length = p.length := by simp [Str.length]
    omega
  rw [List.getElem?_append_left hl] at e2
  exact hp (List.mem_of_getElem? e2)
theorem join_cons (y p q : Str) (r : List Str) : (Str.join y (p :: q :: r)).cps.toList = p.cps.toList ++ (y.cps.toList ++ (Str.join y (q :: r)).cps.toList) := by
  show (p ++ y ++ Str.join y (q :: r)).cps.toList = _
  rw [toList_app, toList_app, List.append_assoc]
theorem len_eq (x : Str) : x.cps.toList.length = x.length := by simp [Str.length]
theorem run_parts {x y : Str} {c limit : Nat} {t : List Nat} (hy : y.cps.toList = c :: t) : ∀ (ps : List Str) (a : Nat) (F : Array Nat), ps ≠ [] → x.cps.toList.drop a = (Str.join y ps).cps.toList → a ≤ x.length → (∀ p ∈ ps, c ∉ p.cps.toList) → F.size + ps.length ≤ limit →
    ((List.range' a (x.length + 1 - a)).foldl (ostep x y x.length limit) (F, a)).fst.toList = F.toList ++ cutsFrom y.length a ps
  | [], a, F, hne, _, _, _, _ => absurd rfl hne
  | [p], a, F, _, hd, ha, hp, hl => by
    have hd : x.cps.toList.drop a = p.cps.toList ++ [] := by rw [List.append_nil]; exact hd
    have hxl : x.length = a + p.length := by
      have := congrArg List.length hd
      rw [List.length_drop, List.append_nil, len_eq, len_eq] at this
      omega
    have hyl : 0 < y.length := by rw [← len_eq, hy]; simp
    rw [fold_skip]
    · simp [cutsFrom]
    · rintro i hi ⟨h1, h2, h3⟩
      exact no_at hy hd (hp p (by simp)) h1 (by omega) h3
  | p :: q :: r, a, F, _, hd, ha, hp, hl => by
    rw [join_cons] at hd
    have hyl : 0 < y.length := by rw [← len_eq, hy]; simp
    have hxl : x.length - a = p.length + (y.length + (Str.join y (q :: r)).length) := by
      have := congrArg List.length hd
      rw [List.length_drop, List.length_append, List.length_append, len_eq, len_eq, len_eq, len_eq] at this
      exact this
    have er : List.range' a (x.length + 1 - a) = List.range' a p.length ++ ((a + p.length) :: (List.range' (a + p.length + 1) (y.length - 1) ++ List.range' (a + p.length + y.length) (x.length + 1 - (a + p.length + y.length)))) := by
      have e1 : x.length + 1 - a = p.length + (1 + ((y.length - 1) + (x.length + 1 - (a + p.length + y.length)))) := by omega
      rw [e1, ← List.range'_append_1, ← List.range'_append_1, ← List.range'_append_1]
      have e2 : a + p.length + 1 + (y.length - 1) = a + p.length + y.length := by omega
      rw [e2]
      rfl
    rw [er, List.foldl_append, fold_skip (List.range' a p.length), List.foldl_cons]
    · have hat : subAt x y (a + p.length) = true := by
        rw [subAt_eq, ← List.drop_drop, hd, List.drop_left' (len_eq p), List.take_left' (len_eq y)]
        exact beq_self_eq_true _
      have es : ostep x y x.length limit (F, a) (a + p.length) = (F.push (a + p.length), a + p.length + y.length) := by
        unfold ostep
        rw [if_pos ⟨⟨⟨by simp only [List.length_cons] at hl; show F.size < limit; omega, Nat.le_add_right _ _⟩, by omega⟩, hat⟩]
      rw [es, List.foldl_append, fold_skip (List.range' (a + p.length + 1) (y.length - 1))]
      · rw [run_parts hy (q :: r) (a + p.length + y.length) (F.push (a + p.length)) (by simp) ?_ (by omega) (fun z hz => hp z (by simp [hz])) (by rw [Array.size_push]; simp only [List.length_cons] at hl ⊢; omega)]
        · simp [cutsFrom]
        · rw [← List.drop_drop, ← List.drop_drop, hd, List.drop_left' (len_eq p), List.drop_left' (len_eq y)]
      · rintro i hi ⟨h1, _, _⟩
        rw [List.mem_range'] at hi
        obtain ⟨k, hk, e⟩ := hi
        simp only at h1
        omega
    · rintro i hi ⟨h1, h2, h3⟩
      rw [List.mem_range'] at hi
      obtain ⟨k, hk, e⟩ := hi
      exact no_at hy hd (hp p (by simp)) h1 (by omega) h3
theorem str_ext {a b : Str} (h : a.cps.toList = b.cps.toList) : a = b := by
  cases a with | mk a => cases b with | mk b => exact congrArg Str.mk (Array.toList_inj.mp h)
theorem parts_cuts {x y : Str} : ∀ (ps : List Str) (a : Nat), ps ≠ [] → x.cps.toList.drop a = (Str.join y ps).cps.toList → a ≤ x.length → partsFrom x y.length a (cutsFrom y.length a ps) = ps
  | [], a, hne, _, _ => absurd rfl hne
  | [p], a, _, hd, ha => by
    have hd : x.cps.toList.drop a = p.cps.toList := hd
    show [strSub x a x.length] = [p]
    congr 1
    refine str_ext ?_
    rw [strSub_toList, hd, List.take_of_length_le]
    rw [← hd, List.length_drop, len_eq]
    exact Nat.le_refl _
  | p :: q :: r, a, _, hd, ha => by
    rw [join_cons] at hd
    have hxl : x.length - a = p.length + (y.length + (Str.join y (q :: r)).length) := by
      have := congrArg List.length hd
      rw [List.length_drop, List.length_append, List.length_append, len_eq, len_eq, len_eq, len_eq] at this
      exact this
    show strSub x a (a + p.length) :: partsFrom x y.length (a + p.length + y.length) (cutsFrom y.length (a + p.length + y.length) (q :: r)) = _
    rw [parts_cuts (q :: r) (a + p.length + y.length) (by simp) (by rw [← List.drop_drop, ← List.drop_drop, hd, List.drop_left' (len_eq p), List.drop_left' (len_eq y)]) (by omega)]
    congr 1
    refine str_ext ?_
    rw [strSub_toList, hd, show a + p.length - a = p.length by omega, List.take_left' (len_eq p)]
theorem kind_pos (x : Str) : 1 ≤ Builtin.Str.strKind x := by
  unfold Builtin.Str.strKind
  split
  · exact Nat.le_refl _
  · split <;> decide
theorem split_join {y : Str} {c : Nat} {t : List Nat} (hy : y.cps.toList = c :: t) (hk : Builtin.Str.strKind y = 1) {ps : List Str} (hne : ps ≠ []) (hp : ∀ p ∈ ps, c ∉ p.cps.toList) : Txt.split (Str.join y ps) y = ps := by
  have hocc : occurrences (Str.join y ps) y 0 (Str.join y ps).length ((Str.join y ps).length + 1) = cutsFrom y.length 0 ps ∨ (Str.join y ps).length + 1 < ps.length := by
    by_cases hl : ps.length ≤ (Str.join y ps).length + 1
    · left
      rw [occ_eq, occ_fold]
      have := run_parts (x := Str.join y ps) (limit := (Str.join y ps).length + 1) hy ps 0 #[] hne (by simp) (Nat.zero_le _) hp (by simpa using hl)
      simpa using this
    · right; omega
  have hyl : 0 < y.length := by rw [← len_eq, hy]; simp
  have hlen : ∀ ps : List Str, ps.length ≤ (Str.join y ps).length + 1 := by
    intro ps
    match ps with
    | [] => simp
    | [p] => simp
    | p :: q :: r =>
      have ih : ∀ (p : Str) (r : List Str), (p :: r).length ≤ (Str.join y (p :: r)).length + 1 := by
        intro p r
        induction r generalizing p with
        | nil => simp
        | cons q r ih =>
          have e : (Str.join y (p :: q :: r)).length = p.length + (y.length + (Str.join y (q :: r)).length) := by
            rw [← len_eq, join_cons, List.length_append, List.length_append, len_eq, len_eq, len_eq]
          have := ih q
          rw [e]
          simp only [List.length_cons] at this ⊢
          omega
      exact ih p (q :: r)
  have hocc := hocc.resolve_right (by have := hlen ps; omega)
  unfold Txt.split
  rw [hocc, partsBetween_eq]
  have hpc := parts_cuts (x := Str.join y ps) (y := y) ps 0 hne (by simp) (Nat.zero_le _)
  match ps, hne with
  | [p], _ =>
    have ej : Str.join y [p] = p := rfl
    rw [ej]
    split
    · rfl
    · rfl
  | p :: q :: r, _ =>
    rw [if_neg, if_neg]
    · exact hpc
    · simp [cutsFrom]
    · have e : (Str.join y (p :: q :: r)).length = p.length + (y.length + (Str.join y (q :: r)).length) := by
        rw [← len_eq, join_cons, List.length_append, List.length_append, len_eq, len_eq, len_eq]
      have := kind_pos (Str.join y (p :: q :: r))
      simp only [Bool.or_eq_true, decide_eq_true_eq]
      omega
end Ev

namespace Ev
open PySem PySem.StrLaws Builtin.Str
/-! ## partition -/
theorem at_char {x y : Str} {i c : Nat} {pre post : List Nat} (hy : y.cps.toList = pre ++ c :: post) (h : subAt x y i = true) : x.cps.toList[i + pre.length]? = some c := by
  rw [subAt_eq] at h
  have h := eq_of_beq h
  have hl : y.length = pre.length + (post.length + 1) := by rw [← len_eq, hy]; simp
  have e : ((x.cps.toList.drop i).take y.length)[pre.length]? = some c := by rw [h, hy]; simp
  rw [List.getElem?_take, if_pos (by omega), List.getElem?_drop] at e
  exact e
theorem part_no {x y : Str} {c : Nat} {pre post : List Nat} (hy : y.cps.toList = pre ++ c :: post) (hc : c ∉ x.cps.toList) : Txt.partition x y = (x, Str.empty, Str.empty) := by
  unfold Txt.partition
  rcases occ_head x y 1 (Nat.le_refl _) with ⟨e, _⟩ | ⟨i, r, e, h, _⟩
  · rw [e]
  · exact absurd (List.mem_of_getElem? (at_char hy h.2)) hc
theorem part_at {x y : Str} {c : Nat} {pre post : List Nat} {head tail : Str} (hy : y.cps.toList = pre ++ c :: post) (hx : x.cps.toList = head.cps.toList ++ (y.cps.toList ++ tail.cps.toList)) (h1 : c ∉ head.cps.toList) (h2 : c ∉ pre) :
    Txt.partition x y = (head, y, tail) := by
  have hxl : x.length = head.length + (y.length + tail.length) := by rw [← len_eq, hx, List.length_append, List.length_append, len_eq, len_eq, len_eq]
  have hat : StrLaws.At x y x.length head.length := ⟨by omega, by
    rw [subAt_eq, hx, List.drop_left' (len_eq head), List.take_left' (len_eq y)]
    exact beq_self_eq_true _⟩
  have hno : ∀ i, i < head.length → ¬ StrLaws.At x y x.length i := fun i hi h => by
    have e := at_char hy h.2
    rw [hx, hy] at e
    have hm : c ∈ head.cps.toList ++ pre := by
      have hlt : i + pre.length < (head.cps.toList ++ pre).length := by rw [List.length_append, len_eq]; omega
      have e2 : (head.cps.toList ++ pre ++ (c :: post ++ tail.cps.toList))[i + pre.length]? = some c := by
        rw [← e]; simp [List.append_assoc]
      rw [List.getElem?_append_left hlt] at e2
      exact List.mem_of_getElem? e2
    rcases List.mem_append.mp hm with z | z
    · exact h1 z
    · exact h2 z
  unfold Txt.partition
  rcases occ_head x y 1 (Nat.le_refl _) with ⟨e, hn⟩ | ⟨i, r, e, hi, hm⟩
  · exact absurd hat (hn _)
  · have ei : i = head.length := by
      rcases Nat.lt_trichotomy i head.length with z | z | z
      · exact absurd hi (hno i z)
      · exact z
      · exact absurd hat (hm _ z)
    rw [e, ei]
    show (strSub x 0 head.length, y, strSub x (head.length + y.length) x.length) = _
    congr 1
    · refine str_ext ?_
      rw [strSub_toList, hx, List.drop_zero, Nat.sub_zero, List.take_left' (len_eq head)]
    · congr 1
      refine str_ext ?_
      rw [strSub_toList, hx, ← List.drop_drop, List.drop_left' (len_eq head), List.drop_left' (len_eq y), List.take_of_length_le]
      rw [len_eq]; omega
/-! ## numbers as texts -/
theorem digits_head : ∀ (n m : Nat), m ≤ n → 1 ≤ m → ∃ c r, (Nat.toDigits 10 m).map Char.toNat = c :: r ∧ c ≠ 48
  | 0, m, h, h1 => by omega
  | n + 1, m, h, h1 => by
    by_cases hm : m < 10
    · rw [Nat.toDigits_of_lt_base hm]
      refine ⟨_, [], rfl, ?_⟩
      have : m = 1 ∨ m = 2 ∨ m = 3 ∨ m = 4 ∨ m = 5 ∨ m = 6 ∨ m = 7 ∨ m = 8 ∨ m = 9 := by omega
      rcases this with e | e | e | e | e | e | e | e | e <;> subst e <;> decide
    · have t : Nat.toDigits 10 (m / 10) ++ Nat.toDigits 10 (m % 10) = Nat.toDigits 10 (10 * (m / 10) + m % 10) := Nat.toDigits_append_toDigits (by decide) (by omega) (Nat.mod_lt _ (by decide))
      rw [Nat.div_add_mod] at t
      obtain ⟨c, r, e, hc⟩ := digits_head n (m / 10) (by omega) (by omega)
      rw [← t, List.map_append, e]
      exact ⟨c, _, rfl, hc⟩
structure NumText (n : Int) (s : Str) : Prop where
  ne : s.cps.toList ≠ []
  dig : ∀ c ∈ s.cps.toList, 48 ≤ c ∧ c ≤ 57
  len : s.length ≤ 10
  one : s.length = 1 ∨ ∃ c r, s.cps.toList = c :: r ∧ c ≠ 48
  val : PySem.intText? s = some n
theorem num_text {n : Int} (h0 : 0 ≤ n) (h1 : n < 10 ^ 10) : NumText n (intS n) := by
  have hv : PySem.intText? (intS n) = some n := PySem.W.KIN.num_reads h0 h1
  obtain ⟨m, rfl⟩ := Int.eq_ofNat_of_zero_le h0
  have hs : (intS ((m : Nat) : Int)).cps.toList = (Nat.toDigits 10 m).map Char.toNat := PySem.W.KIN.signs_num m
  have hne : (Nat.toDigits 10 m).map Char.toNat ≠ [] := by
    have := PySem.toDigits_len_ge 10 m
    intro e
    have e := congrArg List.length e
    rw [List.length_map] at e
    have e : (Nat.toDigits 10 m).length = 0 := e
    omega
  refine ⟨by rw [hs]; exact hne, fun c hc => ?_, ?_, ?_, hv⟩
  · rw [hs] at hc
    obtain ⟨ch, hch, e⟩ := List.mem_map.mp hc
    rw [← e]
    exact PyProof.Rows.digit_range (Nat.isDigit_of_mem_toDigits (by decide) (by decide) hch)
  · rw [← len_eq, hs, List.length_map]
    exact PySem.toDigits_len_pow (by decide) (by decide) (by omega)
  · by_cases hm : m = 0
    · subst hm
      left
      rw [← len_eq, hs]
      rfl
    · right
      obtain ⟨c, r, e, hc⟩ := digits_head m m (Nat.le_refl _) (by omega)
      exact ⟨c, r, by rw [hs]; exact e, hc⟩
end Ev

namespace Tw
open PySem PySem.Spec PyProof.Rows L2 Ev
def top (i : Nat) : Stmt := PySem.Challenge.pw_twomakes_k04_written_and_read.main.body.getD i (.Pass ⟨0, 0, 0, 0⟩)
abbrev s_limits_of : Stmt := top 10
abbrev N_limits_of : List Str := ["word", "many"]
theorem sc_limits_of : FnScope N_limits_of ["word", "many"] (defScope s_limits_of) := ⟨rfl, rfl, rfl, by decide +kernel, rfl, by decide +kernel, by decide +kernel⟩
abbrev s_is_row : Stmt := top 11
abbrev N_is_row : List Str := ["row", "many", "limits", "number", "limit"]
theorem sc_is_row : FnScope N_is_row ["row", "many"] (defScope s_is_row) := ⟨rfl, rfl, rfl, by decide +kernel, rfl, by decide +kernel, by decide +kernel⟩
abbrev s_mill_of : Stmt := top 12
abbrev N_mill_of : List Str := ["rows", "bells", "many", "row", "place"]
theorem sc_mill_of : FnScope N_mill_of ["rows", "bells"] (defScope s_mill_of) := ⟨rfl, rfl, rfl, by decide +kernel, rfl, by decide +kernel, by decide +kernel⟩
abbrev s_show_row : Stmt := top 16
abbrev N_show_row : List Str := ["row", "number"]
theorem sc_show_row : FnScope N_show_row ["row"] (defScope s_show_row) := ⟨rfl, rfl, rfl, by decide +kernel, rfl, by decide +kernel, by decide +kernel⟩
abbrev s_show_mill : Stmt := top 17
abbrev N_show_mill : List Str := ["mill", "text", "rows", "bells", "row", "place"]
theorem sc_show_mill : FnScope N_show_mill ["mill"] (defScope s_show_mill) := ⟨rfl, rfl, rfl, by decide +kernel, rfl, by decide +kernel, by decide +kernel⟩
abbrev s_is_number : Stmt := top 18
abbrev N_is_number : List Str := ["word", "sign"]
theorem sc_is_number : FnScope N_is_number ["word"] (defScope s_is_number) := ⟨rfl, rfl, rfl, by decide +kernel, rfl, by decide +kernel, by decide +kernel⟩
abbrev s_number_in : Stmt := top 19
abbrev N_number_in : List Str := ["word"]
theorem sc_number_in : FnScope N_number_in ["word"] (defScope s_number_in) := ⟨rfl, rfl, rfl, by decide +kernel, rfl, by decide +kernel, by decide +kernel⟩
abbrev s_row_in : Stmt := top 20
abbrev N_row_in : List Str := ["text", "words", "word"]
theorem sc_row_in : FnScope N_row_in ["text"] (defScope s_row_in) := ⟨rfl, rfl, rfl, by decide +kernel, rfl, by decide +kernel, by decide +kernel⟩
abbrev s_read_mill : Stmt := top 21
abbrev N_read_mill : List Str := ["text", "rows", "bells", "head", "stroke", "tail", "part", "word"]
theorem sc_read_mill : FnScope N_read_mill ["text"] (defScope s_read_mill) := ⟨rfl, rfl, rfl, by decide +kernel, rfl, by decide +kernel, by decide +kernel⟩
abbrev s__law_tray : Stmt := top 23
abbrev N__law_tray : List Str := ["script", "fold", "great", "cell", "size"]
theorem sc__law_tray : FnScope N__law_tray ["script"] (defScope s__law_tray) := ⟨rfl, rfl, rfl, by decide +kernel, rfl, by decide +kernel, by decide +kernel⟩
abbrev s__law_draw : Stmt := top 24
abbrev N__law_draw : List Str := ["tray", "many", "mixed", "found"]
theorem sc__law_draw : FnScope N__law_draw ["tray", "many"] (defScope s__law_draw) := ⟨rfl, rfl, rfl, by decide +kernel, rfl, by decide +kernel, by decide +kernel⟩
abbrev s__law_worth : Stmt := top 25
abbrev N__law_worth : List Str := ["tray", "kind"]
theorem sc__law_worth : FnScope N__law_worth ["tray"] (defScope s__law_worth) := ⟨rfl, rfl, rfl, by decide +kernel, rfl, by decide +kernel, by decide +kernel⟩
abbrev s__law_row : Stmt := top 26
abbrev N__law_row : List Str := ["tray", "many", "words", "word"]
theorem sc__law_row : FnScope N__law_row ["tray", "many"] (defScope s__law_row) := ⟨rfl, rfl, rfl, by decide +kernel, rfl, by decide +kernel, by decide +kernel⟩
abbrev s__law_mill : Stmt := top 27
abbrev N__law_mill : List Str := ["tray", "ways", "many", "rows", "bells", "at", "k"]
theorem sc__law_mill : FnScope N__law_mill ["tray"] (defScope s__law_mill) := ⟨rfl, rfl, rfl, by decide +kernel, rfl, by decide +kernel, by decide +kernel⟩
abbrev s__law_alike : Stmt := top 28
abbrev N__law_alike : List Str := ["found", "due", "k"]
theorem sc__law_alike : FnScope N__law_alike ["found", "due"] (defScope s__law_alike) := ⟨rfl, rfl, rfl, by decide +kernel, rfl, by decide +kernel, by decide +kernel⟩
abbrev s__law_shown : Stmt := top 29
abbrev N__law_shown : List Str := ["mill", "text", "row", "place", "number"]
theorem sc__law_shown : FnScope N__law_shown ["mill"] (defScope s__law_shown) := ⟨rfl, rfl, rfl, by decide +kernel, rfl, by decide +kernel, by decide +kernel⟩
abbrev s_law : Stmt := top 30
abbrev N_law : List Str := ["script", "tray", "k", "mill", "text"]
theorem sc_law : FnScope N_law ["script"] (defScope s_law) := ⟨rfl, rfl, rfl, by decide +kernel, rfl, by decide +kernel, by decide +kernel⟩
structure Txt (K : PySem.W.Frag) (mg : Str → Option Value) : Prop where
  g_CELLS : ∃ t, mg "CELLS" = some (.int 16 t)
  g_FIGURES : ∃ t, mg "FIGURES" = some (.str "0123456789" t)
  g_MOST_BELLS : ∃ t, mg "MOST_BELLS" = some (.int 4 t)
  g_MOST_FIGURES : ∃ t, mg "MOST_FIGURES" = some (.int 10 t)
  g_MOST_ROWS : ∃ t, mg "MOST_ROWS" = some (.int 40 t)
  g_SPOTS : ∃ t, mg "SPOTS" = some (.int 8 t)
  g_WORTHS : ∃ t, mg "WORTHS" = some (.int 4294967296 t)
  x_NoMill : ErrAt K mg "NoMill"
  x_NoText : ErrAt K mg "NoText"
  z_bool : mg "bool" = none
  z_int : mg "int" = none
  z_isinstance : mg "isinstance" = none
  z_len : mg "len" = none
  z_list : mg "list" = none
  z_max : mg "max" = none
  z_range : mg "range" = none
  z_str : mg "str" = none
  z_tuple : mg "tuple" = none
  z_zip : mg "zip" = none
  d_limits_of : DefAt K mg "limits_of" s_limits_of ["word", "many"]
  d_is_row : DefAt K mg "is_row" s_is_row ["row", "many"]
  d_mill_of : DefAt K mg "mill_of" s_mill_of ["rows", "bells"]
  d_show_row : DefAt K mg "show_row" s_show_row ["row"]
  d_show_mill : DefAt K mg "show_mill" s_show_mill ["mill"]
  d_is_number : DefAt K mg "is_number" s_is_number ["word"]
  d_number_in : DefAt K mg "number_in" s_number_in ["word"]
  d_row_in : DefAt K mg "row_in" s_row_in ["text"]
  d_read_mill : DefAt K mg "read_mill" s_read_mill ["text"]
  d__law_tray : DefAt K mg "_law_tray" s__law_tray ["script"]
  d__law_draw : DefAt K mg "_law_draw" s__law_draw ["tray", "many"]
  d__law_worth : DefAt K mg "_law_worth" s__law_worth ["tray"]
  d__law_row : DefAt K mg "_law_row" s__law_row ["tray", "many"]
  d__law_mill : DefAt K mg "_law_mill" s__law_mill ["tray"]
  d__law_alike : DefAt K mg "_law_alike" s__law_alike ["found", "due"]
  d__law_shown : DefAt K mg "_law_shown" s__law_shown ["mill"]
section
variable {P : Program} {w : World} {K : PySem.W.Frag} {mg : Str → Option Value} {base : Heap}
def b_limits_of : S :=
  seqS (iteS (tst (bin cEq (get (slotV 0)) (ret (.str "put")))) (retS (fz (lstM (consM (ret (.int 8)) (consM (ret (.int 4294967296)) nilM))))) nxt)
  (seqS (iteS (orT (tst (bin cEq (get (slotV 0)) (ret (.str "sum")))) (orT (tst (bin cEq (get (slotV 0)) (ret (.str "mul")))) (tst (bin cEq (get (slotV 0)) (ret (.str "less")))))) (retS (fz (lstM (consM (ret (.int 8)) (consM (ret (.int 8)) (consM (ret (.int 8)) nilM)))))) nxt)
  (seqS (iteS (orT (tst (bin cEq (get (slotV 0)) (ret (.str "take")))) (tst (bin cEq (get (slotV 0)) (ret (.str "lay"))))) (retS (fz (lstM (consM (ret (.int 8)) (consM (ret (.int 8)) (consM (ret (.int 16)) nilM)))))) nxt)
  (seqS (iteS (tst (bin cEq (get (slotV 0)) (ret (.str "go")))) (retS (fz (lstM (consM (ret (.int 8)) (consM (bin cAdd (get (slotV 1)) (ret (.int 1))) nilM))))) nxt)
  (seqS (iteS (orT (tst (bin cEq (get (slotV 0)) (ret (.str "shut")))) (orT (tst (bin cEq (get (slotV 0)) (ret (.str "open")))) (tst (bin cEq (get (slotV 0)) (ret (.str "home")))))) (retS (fz (lstM nilM))) nxt)
  (retS (ret .non))))))
def F_limits_of : Fn := runF b_limits_of 2 2
theorem ar_limits_of : Ary F_limits_of 2 := runF_ary
set_option maxHeartbeats 1000000 in
theorem ok_limits_of (T : Txt K mg)  : Callee P w K mg base 1 "limits_of" ["word", "many"] F_limits_of := by
  refine callee_of T.d_limits_of sc_limits_of fun f cdv A outer s H E B bd => ?_
  refine ess_cons (es_if (et_eq bd ((ef_var (i := 0)).v) ((ef_str).v)) (ess_one (es_ret ((eg_lst (efs_cons (ef_gi T.g_SPOTS) (efs_cons (ef_gi T.g_WORTHS) efs_nil))).f))) ess_nil) ?_
  refine ess_cons (es_if (et_w (ew_or (et_eq bd ((ef_var (i := 0)).v) ((ef_str).v)) (ew_or (et_eq bd ((ef_var (i := 0)).v) ((ef_str).v)) (ew_or1 (et_eq bd ((ef_var (i := 0)).v) ((ef_str).v)))))) (ess_one (es_ret ((eg_lst (efs_cons (ef_gi T.g_SPOTS) (efs_cons (ef_gi T.g_SPOTS) (efs_cons (ef_gi T.g_SPOTS) efs_nil)))).f))) ess_nil) ?_
  refine ess_cons (es_if (et_w (ew_or (et_eq bd ((ef_var (i := 0)).v) ((ef_str).v)) (ew_or1 (et_eq bd ((ef_var (i := 0)).v) ((ef_str).v))))) (ess_one (es_ret ((eg_lst (efs_cons (ef_gi T.g_SPOTS) (efs_cons (ef_gi T.g_SPOTS) (efs_cons (ef_gi T.g_CELLS) efs_nil)))).f))) ess_nil) ?_
  refine ess_cons (es_if (et_eq bd ((ef_var (i := 0)).v) ((ef_str).v)) (ess_one (es_ret ((eg_lst (efs_cons (ef_gi T.g_SPOTS) (efs_cons (ef_add ((ef_var (i := 1)).v) ((ef_int).v)) efs_nil))).f))) ess_nil) ?_
  refine ess_cons (es_if (et_w (ew_or (et_eq bd ((ef_var (i := 0)).v) ((ef_str).v)) (ew_or (et_eq bd ((ef_var (i := 0)).v) ((ef_str).v)) (ew_or1 (et_eq bd ((ef_var (i := 0)).v) ((ef_str).v)))))) (ess_one (es_ret ((eg_lst efs_nil).f))) ess_nil) ?_
  exact ess_one (es_ret ef_non)
def b_is_row : S :=
  seqS (setF 2 (callM F_limits_of [] (consM (bin cIx (get (slotV 0)) (ret (.int 0))) (consM (get (slotV 1)) nilM))))
  (seqS (iteS (orT (tst (una cIsN (get (slotV 2)))) (tst (bin cNe (una cLen (get (slotV 0))) (bin cAdd (una cLen (get (slotV 2))) (ret (.int 1)))))) (retS (ret (.bl false))) nxt)
  (seqS (forI (zipM (consM (fz (slM (get (slotV 0)) (una toI (ret (.int 1))) (ret none))) (consM (get (slotV 2)) nilM))) (gTupS [gNameS 3, gNameS 4]) (iteS (orT (tst (bin cLt (get (slotV 3)) (ret (.int 0)))) (tst (bin cGe (get (slotV 3)) (get (slotV 4))))) (retS (ret (.bl false))) nxt))
  (retS (ret (.bl true)))))
def F_is_row : Fn := runF b_is_row 5 2
theorem ar_is_row : Ary F_is_row 2 := runF_ary
set_option maxHeartbeats 1000000 in
theorem ok_is_row (T : Txt K mg) (c_limits_of : Callee P w K mg base 1 "limits_of" ["word", "many"] F_limits_of) : Callee P w K mg base 2 "is_row" ["row", "many"] F_is_row := by
  refine callee_of T.d_is_row sc_is_row fun f cdv A outer s H E B bd => ?_
  refine ess_cons (es_setF (i := 2) bd.nd (ef_callK c_limits_of ar_limits_of bd (efs_cons (ef_ix (fun _ _ => rfl) ((ef_var (i := 0)).v) ((ef_int).v)) (efs_cons (ef_var (i := 1)) efs_nil)))) ?_
  refine ess_cons (es_if (et_w (ew_or (et_isN ((ef_var (i := 2)).v)) (ew_or1 (et_ne bd ((ef_len T.z_len ((ef_var (i := 0)).v)).v) ((ef_add ((ef_len T.z_len ((ef_var (i := 2)).v)).v) ((ef_int).v)).v))))) (ess_one (es_ret ef_bl)) ess_nil) ?_
  refine ess_cons (es_forI (passes_of rfl) bd.calm (it_zip T.z_zip (efs_cons ((eg_slice ((ef_var (i := 0)).v) (eo_some ((ef_int).v)) eo_none).f) (efs_cons (ef_var (i := 2)) efs_nil))) (ept_tup bd.calm (epts_cons (ept_name (i := 3) bd.nd) (epts_cons (ept_name (i := 4) bd.nd) epts_nil))) (ess_one (es_if (et_w (ew_or (et_lt ((ef_var (i := 3)).v) ((ef_int).v)) (ew_or1 (et_ge ((ef_var (i := 3)).v) ((ef_var (i := 4)).v))))) (ess_one (es_ret ef_bl)) ess_nil))) ?_
  exact ess_one (es_ret ef_bl)
def b_mill_of : S :=
  seqS (setF 2 (una cLen (get (slotV 0))))
  (seqS (iteS (orT (tst (bin cLt (get (slotV 2)) (ret (.int 1)))) (tst (bin cGt (get (slotV 2)) (ret (.int 40))))) (excS "NoMill") nxt)
  (seqS (iteS (tst (bin cGt (una cLen (get (slotV 1))) (ret (.int 4)))) (excS "NoMill") nxt)
  (seqS (forI (itemsM (get (slotV 0))) (gNameS 3) (iteS (notT (tst (callM F_is_row [] (consM (get (slotV 3)) (consM (get (slotV 2)) nilM))))) (excS "NoMill") nxt))
  (seqS (forI (itemsM (get (slotV 1))) (gNameS 4) (iteS (orT (tst (bin cLt (get (slotV 4)) (ret (.int 0)))) (tst (bin cGt (get (slotV 4)) (get (slotV 2))))) (excS "NoMill") nxt))
  (retS (tupM (consM (una cTup (get (slotV 0))) (consM (una cTup (get (slotV 1))) nilM))))))))
def F_mill_of : Fn := runF b_mill_of 5 2
theorem ar_mill_of : Ary F_mill_of 2 := runF_ary
set_option maxHeartbeats 1000000 in
theorem ok_mill_of (T : Txt K mg) (c_is_row : Callee P w K mg base 2 "is_row" ["row", "many"] F_is_row) : Callee P w K mg base 3 "mill_of" ["rows", "bells"] F_mill_of := by
  refine callee_of T.d_mill_of sc_mill_of fun f cdv A outer s H E B bd => ?_
  refine ess_cons (es_setF (i := 2) bd.nd (ef_len T.z_len ((ef_var (i := 0)).v))) ?_
  refine ess_cons (es_if (et_w (ew_or (et_lt ((ef_var (i := 2)).v) ((ef_int).v)) (ew_or1 (et_gt ((ef_var (i := 2)).v) ((ef_gi T.g_MOST_ROWS).v))))) (ess_one (es_raiseT bd T.x_NoMill)) ess_nil) ?_
  refine ess_cons (es_if (et_gt ((ef_len T.z_len ((ef_var (i := 1)).v)).v) ((ef_gi T.g_MOST_BELLS).v)) (ess_one (es_raiseT bd T.x_NoMill)) ess_nil) ?_
  refine ess_cons (es_forI (passes_of rfl) bd.calm (it_seq (ef_var (i := 0))) (ept_name (i := 3) bd.nd) (ess_one (es_if (et_not (et_val (ef_callK c_is_row ar_is_row bd (efs_cons (ef_var (i := 3)) (efs_cons (ef_var (i := 2)) efs_nil))))) (ess_one (es_raiseT bd T.x_NoMill)) ess_nil))) ?_
  refine ess_cons (es_forI (passes_of rfl) bd.calm (it_seq (ef_var (i := 1))) (ept_name (i := 4) bd.nd) (ess_one (es_if (et_w (ew_or (et_lt ((ef_var (i := 4)).v) ((ef_int).v)) (ew_or1 (et_gt ((ef_var (i := 4)).v) ((ef_var (i := 2)).v))))) (ess_one (es_raiseT bd T.x_NoMill)) ess_nil))) ?_
  exact ess_one (es_ret (ef_tup (efs_cons (ef_tup1 T.z_tuple ((ef_var (i := 0)).v)) (efs_cons (ef_tup1 T.z_tuple ((ef_var (i := 1)).v)) efs_nil))))
def b_show_row : S :=
  retS (binS cJoin (ret (.str " ")) (fz (bin cCat (fz (lstM (consM (bin cIx (get (slotV 0)) (ret (.int 0))) nilM))) (fz (lcM (itemsM (fz (slM (get (slotV 0)) (una toI (ret (.int 1))) (ret none)))) (gNameS 1) [1] tYesM (una cStr (get (slotV 1))))))))
def F_show_row : Fn := runF b_show_row 2 1
theorem ar_show_row : Ary F_show_row 1 := runF_ary
set_option maxHeartbeats 1000000 in
theorem ok_show_row (T : Txt K mg)  : Callee P w K mg base 1 "show_row" ["row"] F_show_row := by
  refine callee_of T.d_show_row sc_show_row fun f cdv A outer s H E B bd => ?_
  exact ess_one (es_ret (ef_mt PySem.F.slot_str_join PySem.F.type_str_join mt_join o2_join ((ef_str).v) (((eg_cat (((eg_lst (efs_cons (ef_ix (fun _ _ => rfl) ((ef_var (i := 0)).v) ((ef_int).v)) efs_nil)).f).v) (((eg_lc bd.calm bd.nd (it_seq ((eg_slice ((ef_var (i := 0)).v) (eo_some ((ef_int).v)) eo_none).f)) (own := [("number", 1)]) (blkOk_by rfl) (ect_nm bd.nd) (fun s_ H_ _ _ fp_ => ets_nil) (fun s_ H_ _ _ fp_ => ef_str1 T.z_str ((ef_var (i := 1)).v))).f).v)).f).v)))
def b_show_mill : S :=
  seqS (asgS (get (slotV 0)) (gTupS [gNameS 2, gNameS 3]))
  (seqS (setF 1 (binS cJoin (ret (.str "; ")) (fz (lcM (itemsM (get (slotV 2))) (gNameS 4) [4] tYesM (callM F_show_row [] (consM (get (slotV 4)) nilM))))))
  (seqS (iteS (tst (bin cGt (una cLen (get (slotV 3))) (ret (.int 0)))) (setF 1 (bin cAdd (bin cAdd (get (slotV 1)) (ret (.str " | "))) (binS cJoin (ret (.str " ")) (fz (lcM (itemsM (get (slotV 3))) (gNameS 5) [5] tYesM (una cStr (get (slotV 5)))))))) nxt)
  (retS (get (slotV 1)))))
def F_show_mill : Fn := runF b_show_mill 6 1
theorem ar_show_mill : Ary F_show_mill 1 := runF_ary
set_option maxHeartbeats 1000000 in
theorem ok_show_mill (T : Txt K mg) (c_show_row : Callee P w K mg base 1 "show_row" ["row"] F_show_row) : Callee P w K mg base 2 "show_mill" ["mill"] F_show_mill := by
  refine callee_of T.d_show_mill sc_show_mill fun f cdv A outer s H E B bd => ?_
  refine ess_cons (es_asg (ef_var (i := 0)) (ept_tup bd.calm (epts_cons (ept_name (i := 2) bd.nd) (epts_cons (ept_name (i := 3) bd.nd) epts_nil)))) ?_
  refine ess_cons (es_setF (i := 1) bd.nd (ef_mt PySem.F.slot_str_join PySem.F.type_str_join mt_join o2_join ((ef_str).v) (((eg_lc bd.calm bd.nd (it_seq (ef_var (i := 2))) (own := [("row", 4)]) (blkOk_by rfl) (ect_nm bd.nd) (fun s_ H_ _ _ fp_ => ets_nil) (fun s_ H_ _ _ fp_ => ef_callK c_show_row ar_show_row (bd.blk s_ H_ _ _ fp_) (efs_cons (ef_var (i := 4)) efs_nil))).f).v))) ?_
  refine ess_cons (es_if (et_gt ((ef_len T.z_len ((ef_var (i := 3)).v)).v) ((ef_int).v)) (ess_one (es_setF (i := 1) bd.nd (ef_add ((ef_add ((ef_var (i := 1)).v) ((ef_str).v)).v) ((ef_mt PySem.F.slot_str_join PySem.F.type_str_join mt_join o2_join ((ef_str).v) (((eg_lc bd.calm bd.nd (it_seq (ef_var (i := 3))) (own := [("place", 5)]) (blkOk_by rfl) (ect_nm bd.nd) (fun s_ H_ _ _ fp_ => ets_nil) (fun s_ H_ _ _ fp_ => ef_str1 T.z_str ((ef_var (i := 5)).v))).f).v)).v)))) ess_nil) ?_
  exact ess_one (es_ret (ef_var (i := 1)))
def b_is_number : S :=
  seqS (iteS (orT (tst (bin cEq (get (slotV 0)) (ret (.str "")))) (tst (bin cGt (una cLen (get (slotV 0))) (ret (.int 10))))) (retS (ret (.bl false))) nxt)
  (seqS (forI (charsM (get (slotV 0))) (gNameS 1) (iteS (tst (bin (cIn true) (get (slotV 1)) (ret (.str "0123456789")))) (retS (ret (.bl false))) nxt))
  (retS (orV (bin cEq (una cLen (get (slotV 0))) (ret (.int 1))) (bin cNe (bin cIx (get (slotV 0)) (ret (.int 0))) (ret (.str "0"))))))
def F_is_number : Fn := runF b_is_number 2 1
theorem ar_is_number : Ary F_is_number 1 := runF_ary
set_option maxHeartbeats 1000000 in
theorem ok_is_number (T : Txt K mg)  : Callee P w K mg base 1 "is_number" ["word"] F_is_number := by
  refine callee_of T.d_is_number sc_is_number fun f cdv A outer s H E B bd => ?_
  refine ess_cons (es_if (et_w (ew_or (et_eq bd ((ef_var (i := 0)).v) ((ef_str).v)) (ew_or1 (et_gt ((ef_len T.z_len ((ef_var (i := 0)).v)).v) ((ef_gi T.g_MOST_FIGURES).v))))) (ess_one (es_ret ef_bl)) ess_nil) ?_
  refine ess_cons (es_forI (passes_of rfl) bd.calm (it_str ((ef_var (i := 0)).v)) (ept_name (i := 1) bd.nd) (ess_one (es_if (et_ni bd ((ef_var (i := 1)).v) ((ef_gs T.g_FIGURES).v)) (ess_one (es_ret ef_bl)) ess_nil))) ?_
  exact ess_one (es_ret (ef_or (ef_eq bd ((ef_len T.z_len ((ef_var (i := 0)).v)).v) ((ef_int).v)) (ef_one (ef_ne bd ((ef_ix (fun _ _ => rfl) ((ef_var (i := 0)).v) ((ef_int).v)).v) ((ef_str).v)))))
def b_number_in : S :=
  seqS (iteS (notT (tst (callM F_is_number [] (consM (get (slotV 0)) nilM)))) (excS "NoText") nxt)
  (retS (una cInt (get (slotV 0))))
def F_number_in : Fn := runF b_number_in 1 1
theorem ar_number_in : Ary F_number_in 1 := runF_ary
set_option maxHeartbeats 1000000 in
theorem ok_number_in (T : Txt K mg) (c_is_number : Callee P w K mg base 1 "is_number" ["word"] F_is_number) : Callee P w K mg base 2 "number_in" ["word"] F_number_in := by
  refine callee_of T.d_number_in sc_number_in fun f cdv A outer s H E B bd => ?_
  refine ess_cons (es_if (et_not (et_val (ef_callK c_is_number ar_is_number bd (efs_cons (ef_var (i := 0)) efs_nil)))) (ess_one (es_raiseT bd T.x_NoText)) ess_nil) ?_
  exact ess_one (es_ret (ef_int1 T.z_int ((ef_var (i := 0)).v)))
def b_row_in : S :=
  seqS (setF 1 (fz (binS cSplit (get (slotV 0)) (ret (.str " ")))))
  (retS (una cTup (fz (bin cCat (fz (lstM (consM (bin cIx (get (slotV 1)) (ret (.int 0))) nilM))) (fz (lcM (itemsM (fz (slM (get (slotV 1)) (una toI (ret (.int 1))) (ret none)))) (gNameS 2) [2] tYesM (callM F_number_in [] (consM (get (slotV 2)) nilM))))))))
def F_row_in : Fn := runF b_row_in 3 1
theorem ar_row_in : Ary F_row_in 1 := runF_ary
set_option maxHeartbeats 1000000 in
theorem ok_row_in (T : Txt K mg) (c_number_in : Callee P w K mg base 2 "number_in" ["word"] F_number_in) : Callee P w K mg base 3 "row_in" ["text"] F_row_in := by
  refine callee_of T.d_row_in sc_row_in fun f cdv A outer s H E B bd => ?_
  refine ess_cons (es_setF (i := 1) bd.nd ((eg_mt PySem.F.slot_str_split PySem.F.type_str_split mt_split o2_split ((ef_var (i := 0)).v) ((ef_str).v)).f)) ?_
  exact ess_one (es_ret (ef_tup1 T.z_tuple (((eg_cat (((eg_lst (efs_cons (ef_ix (fun _ _ => rfl) ((ef_var (i := 1)).v) ((ef_int).v)) efs_nil)).f).v) (((eg_lc bd.calm bd.nd (it_seq ((eg_slice ((ef_var (i := 1)).v) (eo_some ((ef_int).v)) eo_none).f)) (own := [("word", 2)]) (blkOk_by rfl) (ect_nm bd.nd) (fun s_ H_ _ _ fp_ => ets_nil) (fun s_ H_ _ _ fp_ => ef_callK c_number_in ar_number_in (bd.blk s_ H_ _ _ fp_) (efs_cons (ef_var (i := 2)) efs_nil))).f).v)).f).v)))
def b_read_mill : S :=
  seqS (asgS (binS cPart (get (slotV 0)) (ret (.str " | "))) (gTupS [gNameS 3, gNameS 4, gNameS 5]))
  (seqS (setF 1 (fz (lcM (itemsM (fz (binS cSplit (get (slotV 3)) (ret (.str "; "))))) (gNameS 6) [6] tYesM (callM F_row_in [] (consM (get (slotV 6)) nilM)))))
  (seqS (setF 2 (fz (lstM nilM)))
  (seqS (iteS (tst (bin cNe (get (slotV 4)) (ret (.str "")))) (setF 2 (fz (lcM (itemsM (fz (binS cSplit (get (slotV 5)) (ret (.str " "))))) (gNameS 7) [7] tYesM (callM F_number_in [] (consM (get (slotV 7)) nilM))))) nxt)
  (thruS (retS (callM F_mill_of [] (consM (get (slotV 1)) (consM (get (slotV 2)) nilM))))))))
def F_read_mill : Fn := runF b_read_mill 8 1
theorem ar_read_mill : Ary F_read_mill 1 := runF_ary
set_option maxHeartbeats 1000000 in
theorem ok_read_mill (T : Txt K mg) (c_mill_of : Callee P w K mg base 3 "mill_of" ["rows", "bells"] F_mill_of) (c_number_in : Callee P w K mg base 2 "number_in" ["word"] F_number_in) (c_row_in : Callee P w K mg base 3 "row_in" ["text"] F_row_in) : Callee P w K mg base 4 "read_mill" ["text"] F_read_mill := by
  refine callee_of T.d_read_mill sc_read_mill fun f cdv A outer s H E B bd => ?_
  refine ess_cons (es_asg (ef_mt PySem.F.slot_str_partition PySem.F.type_str_partition mt_partition o2_part ((ef_var (i := 0)).v) ((ef_str).v)) (ept_tup bd.calm (epts_cons (ept_name (i := 3) bd.nd) (epts_cons (ept_name (i := 4) bd.nd) (epts_cons (ept_name (i := 5) bd.nd) epts_nil))))) ?_
  refine ess_cons (es_setLcF (i := 1) bd.calm bd.nd (it_seq ((eg_mt PySem.F.slot_str_split PySem.F.type_str_split mt_split o2_split ((ef_var (i := 3)).v) ((ef_str).v)).f)) (own := [("part", 6)]) (blkOk_by rfl) (ect_nm bd.nd) (fun s_ H_ _ _ fp_ => ets_nil) (fun s_ H_ _ _ fp_ => ef_callK c_row_in ar_row_in (bd.blk s_ H_ _ _ fp_) (efs_cons (ef_var (i := 6)) efs_nil))) ?_
  refine ess_cons (es_setF (i := 2) bd.nd ((eg_lst efs_nil).f)) ?_
  refine ess_cons (es_if (et_ne bd ((ef_var (i := 4)).v) ((ef_str).v)) (ess_one (es_setLcF (i := 2) bd.calm bd.nd (it_seq ((eg_mt PySem.F.slot_str_split PySem.F.type_str_split mt_split o2_split ((ef_var (i := 5)).v) ((ef_str).v)).f)) (own := [("word", 7)]) (blkOk_by rfl) (ect_nm bd.nd) (fun s_ H_ _ _ fp_ => ets_nil) (fun s_ H_ _ _ fp_ => ef_callK c_number_in ar_number_in (bd.blk s_ H_ _ _ fp_) (efs_cons (ef_var (i := 7)) efs_nil)))) ess_nil) ?_
  exact ess_one (es_thru (ess_one (es_ret (ef_callK c_mill_of ar_mill_of bd.nox (efs_cons (ef_var (i := 1)) (efs_cons (ef_var (i := 2)) efs_nil))))))
def b__law_tray : S :=
  seqS (setF 1 (ret (.int 314159265358979)))
  (seqS (setC 2 (lstM nilM))
  (seqS (forI (itemsM (get (slotV 0))) (gNameS 3) (seqS (setF 1 (bin cMod (bin cAdd (bin cMul (get (slotV 1)) (ret (.int 1000003))) (get (slotV 3))) (bin cSub (bin cPow (ret (.int 2)) (ret (.int 61))) (ret (.int 1))))) (seqS (setF 4 (bin cMax (get (slotV 3)) (bin cSub (ret (.int 0)) (get (slotV 3))))) (iteS (tst (bin cGe (get (slotV 4)) (bin cPow (ret (.int 10)) (ret (.int 18))))) (drpS (mutM (.slot 2) mAppend (consM (bin cSub (get (slotV 4)) (bin cPow (ret (.int 10)) (ret (.int 18)))) nilM))) nxt))))
  (retS (shareL (consC (movM 2) (consC (valM (ret (.int 0))) (consC (valM (get (slotV 1))) (consC (valM (ret (.int 0))) nilC))))))))
def F__law_tray : Fn := runF b__law_tray 5 1
theorem ar__law_tray : Ary F__law_tray 1 := runF_ary
set_option maxHeartbeats 1000000 in
theorem ok__law_tray (T : Txt K mg)  : Callee P w K mg base 1 "_law_tray" ["script"] F__law_tray := by
  refine callee_of T.d__law_tray sc__law_tray fun f cdv A outer s H E B bd => ?_
  refine ess_cons (es_setF (i := 1) bd.nd ef_int) ?_
  refine ess_cons (es_setC (i := 2) bd.nd (eg_lst efs_nil)) ?_
  refine ess_cons (es_forI (passes_of rfl) bd.calm (it_seq (ef_var (i := 0))) (ept_name (i := 3) bd.nd) (ess_cons (es_setF (i := 1) bd.nd (ef_mod ((ef_add ((ef_mul ((ef_var (i := 1)).v) ((ef_int).v)).v) ((ef_var (i := 3)).v)).v) ((ef_sub ((ef_pow ((ef_int).v) ((ef_int).v)).v) ((ef_int).v)).v))) (ess_cons (es_setF (i := 4) bd.nd (ef_max2 bd.calm T.z_max ((ef_var (i := 3)).v) ((ef_sub ((ef_int).v) ((ef_var (i := 3)).v)).v))) (ess_one (es_if (et_ge ((ef_var (i := 4)).v) ((ef_pow ((ef_int).v) ((ef_int).v)).v)) (ess_one (es_expr (ex_append (epl_slot (i := 2)) (efs_cons (ef_sub ((ef_var (i := 4)).v) ((ef_pow ((ef_int).v) ((ef_int).v)).v)) efs_nil)))) ess_nil))))) ?_
  exact ess_one (es_ret (ef_share (ecs_cons (eg_mov (i := 2)) (ecs_cons ((ef_int).g) (ecs_cons ((ef_var (i := 1)).g) (ecs_cons ((ef_int).g) ecs_nil))))))
def b__law_draw : S :=
  seqS (whileS (andT (tst (bin cLt (getB ixV (get (slotV 0)) (ret (.int 1))) (ret (.int 2)))) (tst (bin cNe (getB ixV (get (slotV 0)) (ret (.int 0))) (fz (lstM nilM))))) (setRt 0 (mutM (.ix 0 0) mPopAt (consM (ret (.int 0)) nilM)) (ret (.int 1))))
  (seqS (iteS (tst (bin cGe (getB ixV (get (slotV 0)) (ret (.int 1))) (ret (.int 2)))) (seqS (setF 3 (bin cMod (getB ixV (get (slotV 0)) (ret (.int 1))) (get (slotV 1)))) (seqS (setRt 0 (bin cDiv (getB ixV (get (slotV 0)) (ret (.int 1))) (get (slotV 1))) (ret (.int 1))) (retS (get (slotV 3))))) nxt)
  (seqS (setRt 0 (bin cAdd (getB ixV (get (slotV 0)) (ret (.int 3))) (ret (.int 1))) (ret (.int 3)))
  (seqS (setF 2 (bin cMod (bin cAdd (bin cMul (bin cAdd (getB ixV (get (slotV 0)) (ret (.int 2))) (ret (.int 5))) (bin cPow (bin cAdd (getB ixV (get (slotV 0)) (ret (.int 3))) (ret (.int 2))) (ret (.int 3)))) (bin cMul (ret (.int 1000003)) (getB ixV (get (slotV 0)) (ret (.int 3))))) (bin cSub (bin cPow (ret (.int 2)) (ret (.int 61))) (ret (.int 1)))))
  (retS (bin cMod (bin cDiv (bin cMod (bin cPow (get (slotV 2)) (ret (.int 5))) (bin cAdd (bin cPow (ret (.int 10)) (ret (.int 18))) (ret (.int 9)))) (ret (.int 64))) (get (slotV 1)))))))
def F__law_draw : Fn := runF b__law_draw 4 2
theorem ar__law_draw : Ary F__law_draw 2 := runF_ary
set_option maxHeartbeats 1000000 in
theorem ok__law_draw (T : Txt K mg)  : Callee P w K mg base 1 "_law_draw" ["tray", "many"] F__law_draw := by
  refine callee_of T.d__law_draw sc__law_draw fun f cdv A outer s H E B bd => ?_
  refine ess_cons (es_while (passes_of rfl) (et_w (ew_and (et_lt (ev_ixA (fun _ _ => rfl) ((ef_var (i := 0)).v) ((ef_int).v)) ((ef_int).v)) (ew_and1 (et_ne bd (ev_ixA (fun _ _ => rfl) ((ef_var (i := 0)).v) ((ef_int).v)) (((eg_lst efs_nil).f).v))))) (ess_one (es_setRt (j := 0) (ex_popAt (epl_ix (j := 0) (k := 0)) (efs_cons ef_int efs_nil)) ((ef_int).v)))) ?_
  refine ess_cons (es_if (et_ge (ev_ixA (fun _ _ => rfl) ((ef_var (i := 0)).v) ((ef_int).v)) ((ef_int).v)) (ess_cons (es_setF (i := 3) bd.nd (ef_mod (ev_ixA (fun _ _ => rfl) ((ef_var (i := 0)).v) ((ef_int).v)) ((ef_var (i := 1)).v))) (ess_cons (es_setRt (j := 0) (ef_div (ev_ixA (fun _ _ => rfl) ((ef_var (i := 0)).v) ((ef_int).v)) ((ef_var (i := 1)).v)) ((ef_int).v)) (ess_one (es_ret (ef_var (i := 3)))))) ess_nil) ?_
  refine ess_cons (es_setRt (j := 0) (ef_add (ev_ixA (fun _ _ => rfl) ((ef_var (i := 0)).v) ((ef_int).v)) ((ef_int).v)) ((ef_int).v)) ?_
  refine ess_cons (es_setF (i := 2) bd.nd (ef_mod ((ef_add ((ef_mul ((ef_add (ev_ixA (fun _ _ => rfl) ((ef_var (i := 0)).v) ((ef_int).v)) ((ef_int).v)).v) ((ef_pow ((ef_add (ev_ixA (fun _ _ => rfl) ((ef_var (i := 0)).v) ((ef_int).v)) ((ef_int).v)).v) ((ef_int).v)).v)).v) ((ef_mul ((ef_int).v) (ev_ixA (fun _ _ => rfl) ((ef_var (i := 0)).v) ((ef_int).v))).v)).v) ((ef_sub ((ef_pow ((ef_int).v) ((ef_int).v)).v) ((ef_int).v)).v))) ?_
  exact ess_one (es_ret (ef_mod ((ef_div ((ef_mod ((ef_pow ((ef_var (i := 2)).v) ((ef_int).v)).v) ((ef_add ((ef_pow ((ef_int).v) ((ef_int).v)).v) ((ef_int).v)).v)).v) ((ef_int).v)).v) ((ef_var (i := 1)).v)))
def b__law_worth : S :=
  seqS (setF 1 (callM F__law_draw [] (consM (get (slotV 0)) (consM (ret (.int 6)) nilM))))
  (seqS (iteS (tst (bin cLt (get (slotV 1)) (ret (.int 3)))) (retS (bin cIx (fz (lstM (consM (ret (.int 0)) (consM (ret (.int 1)) (consM (ret (.int 4294967295)) nilM))))) (get (slotV 1)))) nxt)
  (seqS (iteS (tst (bin cEq (get (slotV 1)) (ret (.int 3)))) (retS (callM F__law_draw [] (consM (get (slotV 0)) (consM (ret (.int 20)) nilM)))) nxt)
  (retS (callM F__law_draw [] (consM (get (slotV 0)) (consM (ret (.int 4294967296)) nilM))))))
def F__law_worth : Fn := runF b__law_worth 2 1
theorem ar__law_worth : Ary F__law_worth 1 := runF_ary
set_option maxHeartbeats 1000000 in
theorem ok__law_worth (T : Txt K mg) (c__law_draw : Callee P w K mg base 1 "_law_draw" ["tray", "many"] F__law_draw) : Callee P w K mg base 2 "_law_worth" ["tray"] F__law_worth := by
  refine callee_of T.d__law_worth sc__law_worth fun f cdv A outer s H E B bd => ?_
  refine ess_cons (es_setF (i := 1) bd.nd (ef_callK c__law_draw ar__law_draw bd (efs_cons (ef_var (i := 0)) (efs_cons ef_int efs_nil)))) ?_
  refine ess_cons (es_if (et_lt ((ef_var (i := 1)).v) ((ef_int).v)) (ess_one (es_ret (ef_ix (fun _ _ => rfl) (((eg_lst (efs_cons ef_int (efs_cons ef_int (efs_cons ef_int efs_nil)))).f).v) ((ef_var (i := 1)).v)))) ess_nil) ?_
  refine ess_cons (es_if (et_eq bd ((ef_var (i := 1)).v) ((ef_int).v)) (ess_one (es_ret (ef_callK c__law_draw ar__law_draw bd (efs_cons (ef_var (i := 0)) (efs_cons ef_int efs_nil))))) ess_nil) ?_
  exact ess_one (es_ret (ef_callK c__law_draw ar__law_draw bd (efs_cons (ef_var (i := 0)) (efs_cons ef_int efs_nil))))
def b__law_row : S :=
  seqS (setF 2 (fz (lstM (consM (ret (.str "put")) (consM (ret (.str "sum")) (consM (ret (.str "mul")) (consM (ret (.str "less")) (consM (ret (.str "take")) (consM (ret (.str "lay")) (consM (ret (.str "go")) (consM (ret (.str "shut")) (consM (ret (.str "open")) (consM (ret (.str "home")) nilM)))))))))))))
  (seqS (setF 3 (bin cIx (get (slotV 2)) (callM F__law_draw [] (consM (get (slotV 0)) (consM (ret (.int 10)) nilM)))))
  (seqS (iteS (tst (bin cEq (get (slotV 3)) (ret (.str "put")))) (retS (tupM (consM (get (slotV 3)) (consM (callM F__law_draw [] (consM (get (slotV 0)) (consM (ret (.int 8)) nilM))) (consM (callM F__law_worth [] (consM (get (slotV 0)) nilM)) nilM))))) nxt)
  (seqS (iteS (orT (tst (bin cEq (get (slotV 3)) (ret (.str "sum")))) (orT (tst (bin cEq (get (slotV 3)) (ret (.str "mul")))) (tst (bin cEq (get (slotV 3)) (ret (.str "less")))))) (retS (tupM (consM (get (slotV 3)) (consM (callM F__law_draw [] (consM (get (slotV 0)) (consM (ret (.int 8)) nilM))) (consM (callM F__law_draw [] (consM (get (slotV 0)) (consM (ret (.int 8)) nilM))) (consM (callM F__law_draw [] (consM (get (slotV 0)) (consM (ret (.int 8)) nilM))) nilM)))))) nxt)
  (seqS (iteS (orT (tst (bin cEq (get (slotV 3)) (ret (.str "take")))) (tst (bin cEq (get (slotV 3)) (ret (.str "lay"))))) (retS (tupM (consM (get (slotV 3)) (consM (callM F__law_draw [] (consM (get (slotV 0)) (consM (ret (.int 8)) nilM))) (consM (callM F__law_draw [] (consM (get (slotV 0)) (consM (ret (.int 8)) nilM))) (consM (callM F__law_draw [] (consM (get (slotV 0)) (consM (ret (.int 16)) nilM))) nilM)))))) nxt)
  (seqS (iteS (tst (bin cEq (get (slotV 3)) (ret (.str "go")))) (retS (tupM (consM (get (slotV 3)) (consM (callM F__law_draw [] (consM (get (slotV 0)) (consM (ret (.int 8)) nilM))) (consM (callM F__law_draw [] (consM (get (slotV 0)) (consM (bin cAdd (get (slotV 1)) (ret (.int 1))) nilM))) nilM))))) nxt)
  (retS (tupM (consM (get (slotV 3)) nilM))))))))
def F__law_row : Fn := runF b__law_row 4 2
theorem ar__law_row : Ary F__law_row 2 := runF_ary
set_option maxHeartbeats 1000000 in
theorem ok__law_row (T : Txt K mg) (c__law_draw : Callee P w K mg base 1 "_law_draw" ["tray", "many"] F__law_draw) (c__law_worth : Callee P w K mg base 2 "_law_worth" ["tray"] F__law_worth) : Callee P w K mg base 3 "_law_row" ["tray", "many"] F__law_row := by
  refine callee_of T.d__law_row sc__law_row fun f cdv A outer s H E B bd => ?_
  refine ess_cons (es_setF (i := 2) bd.nd ((eg_lst (efs_cons ef_str (efs_cons ef_str (efs_cons ef_str (efs_cons ef_str (efs_cons ef_str (efs_cons ef_str (efs_cons ef_str (efs_cons ef_str (efs_cons ef_str (efs_cons ef_str efs_nil))))))))))).f)) ?_
  refine ess_cons (es_setF (i := 3) bd.nd (ef_ix (fun _ _ => rfl) ((ef_var (i := 2)).v) ((ef_callK c__law_draw ar__law_draw bd (efs_cons (ef_var (i := 0)) (efs_cons ef_int efs_nil))).v))) ?_
  refine ess_cons (es_if (et_eq bd ((ef_var (i := 3)).v) ((ef_str).v)) (ess_one (es_ret (ef_tup (efs_cons (ef_var (i := 3)) (efs_cons (ef_callK c__law_draw ar__law_draw bd (efs_cons (ef_var (i := 0)) (efs_cons ef_int efs_nil))) (efs_cons (ef_callK c__law_worth ar__law_worth bd (efs_cons (ef_var (i := 0)) efs_nil)) efs_nil)))))) ess_nil) ?_
  refine ess_cons (es_if (et_w (ew_or (et_eq bd ((ef_var (i := 3)).v) ((ef_str).v)) (ew_or (et_eq bd ((ef_var (i := 3)).v) ((ef_str).v)) (ew_or1 (et_eq bd ((ef_var (i := 3)).v) ((ef_str).v)))))) (ess_one (es_ret (ef_tup (efs_cons (ef_var (i := 3)) (efs_cons (ef_callK c__law_draw ar__law_draw bd (efs_cons (ef_var (i := 0)) (efs_cons ef_int efs_nil))) (efs_cons (ef_callK c__law_draw ar__law_draw bd (efs_cons (ef_var (i := 0)) (efs_cons ef_int efs_nil))) (efs_cons (ef_callK c__law_draw ar__law_draw bd (efs_cons (ef_var (i := 0)) (efs_cons ef_int efs_nil))) efs_nil))))))) ess_nil) ?_
  refine ess_cons (es_if (et_w (ew_or (et_eq bd ((ef_var (i := 3)).v) ((ef_str).v)) (ew_or1 (et_eq bd ((ef_var (i := 3)).v) ((ef_str).v))))) (ess_one (es_ret (ef_tup (efs_cons (ef_var (i := 3)) (efs_cons (ef_callK c__law_draw ar__law_draw bd (efs_cons (ef_var (i := 0)) (efs_cons ef_int efs_nil))) (efs_cons (ef_callK c__law_draw ar__law_draw bd (efs_cons (ef_var (i := 0)) (efs_cons ef_int efs_nil))) (efs_cons (ef_callK c__law_draw ar__law_draw bd (efs_cons (ef_var (i := 0)) (efs_cons ef_int efs_nil))) efs_nil))))))) ess_nil) ?_
  refine ess_cons (es_if (et_eq bd ((ef_var (i := 3)).v) ((ef_str).v)) (ess_one (es_ret (ef_tup (efs_cons (ef_var (i := 3)) (efs_cons (ef_callK c__law_draw ar__law_draw bd (efs_cons (ef_var (i := 0)) (efs_cons ef_int efs_nil))) (efs_cons (ef_callK c__law_draw ar__law_draw bd (efs_cons (ef_var (i := 0)) (efs_cons (ef_add ((ef_var (i := 1)).v) ((ef_int).v)) efs_nil))) efs_nil)))))) ess_nil) ?_
  exact ess_one (es_ret (ef_tup (efs_cons (ef_var (i := 3)) efs_nil)))
def b__law_mill : S :=
  seqS (setF 1 (callM F__law_draw [] (consM (get (slotV 0)) (consM (ret (.int 16)) nilM))))
  (seqS (setF 2 (bin cAdd (ret (.int 1)) (callM F__law_draw [] (consM (get (slotV 0)) (consM (ret (.int 12)) nilM)))))
  (seqS (iteS (tst (bin cEq (bin cDiv (get (slotV 1)) (ret (.int 2))) (ret (.int 7)))) (setF 2 (bin cAdd (ret (.int 13)) (callM F__law_draw [] (consM (get (slotV 0)) (consM (ret (.int 28)) nilM))))) nxt)
  (seqS (setC 3 (lcM (rngM (una rngC (get (slotV 2)))) (gNameS 6) [6] tYesM (callM F__law_row [] (consM (get (slotV 0)) (consM (get (slotV 2)) nilM)))))
  (seqS (setC 4 (lcM (rngM (una rngC (callM F__law_draw [] (consM (get (slotV 0)) (consM (ret (.int 5)) nilM))))) (gNameS 6) [6] tYesM (callM F__law_draw [] (consM (get (slotV 0)) (consM (bin cAdd (get (slotV 2)) (ret (.int 1))) nilM)))))
  (seqS (iteS (tst (bin cEq (bin cMod (get (slotV 1)) (ret (.int 2))) (ret (.int 1)))) (seqS (setF 5 (callM F__law_draw [] (consM (get (slotV 0)) (consM (get (slotV 2)) nilM)))) (seqS (setIx (.slot 3) (tupM (consM (ret (.str "home")) nilM)) (get (slotV 5))) (iteS (tst (bin cNe (get (slotD 4)) (fz (lstM nilM)))) (setIx (.slot 4) (bin cMax (ret (.int 0)) (bin cSub (get (slotV 5)) (callM F__law_draw [] (consM (get (slotV 0)) (consM (ret (.int 3)) nilM))))) (ret (.int 0))) nxt))) nxt)
  (retS (tupM (consM (una cTup (get (slotD 3))) (consM (una cTup (get (slotD 4))) nilM)))))))))
def F__law_mill : Fn := runF b__law_mill 7 1
theorem ar__law_mill : Ary F__law_mill 1 := runF_ary
set_option maxHeartbeats 1000000 in
theorem ok__law_mill (T : Txt K mg) (c__law_draw : Callee P w K mg base 1 "_law_draw" ["tray", "many"] F__law_draw) (c__law_row : Callee P w K mg base 3 "_law_row" ["tray", "many"] F__law_row) : Callee P w K mg base 4 "_law_mill" ["tray"] F__law_mill := by
  refine callee_of T.d__law_mill sc__law_mill fun f cdv A outer s H E B bd => ?_
  refine ess_cons (es_setF (i := 1) bd.nd (ef_callK c__law_draw ar__law_draw bd (efs_cons (ef_var (i := 0)) (efs_cons ef_int efs_nil)))) ?_
  refine ess_cons (es_setF (i := 2) bd.nd (ef_add ((ef_int).v) ((ef_callK c__law_draw ar__law_draw bd (efs_cons (ef_var (i := 0)) (efs_cons ef_int efs_nil))).v))) ?_
  refine ess_cons (es_if (et_eq bd ((ef_div ((ef_var (i := 1)).v) ((ef_int).v)).v) ((ef_int).v)) (ess_one (es_setF (i := 2) bd.nd (ef_add ((ef_int).v) ((ef_callK c__law_draw ar__law_draw bd (efs_cons (ef_var (i := 0)) (efs_cons ef_int efs_nil))).v)))) ess_nil) ?_
  refine ess_cons (es_setLc (i := 3) bd.calm bd.nd (it_rng T.z_range ((ef_var (i := 2)).v)) (own := [("k", 6)]) (blkOk_by rfl) (ect_nm bd.nd) (fun s_ H_ _ _ fp_ => ets_nil) (fun s_ H_ _ _ fp_ => ef_callK c__law_row ar__law_row (bd.blk s_ H_ _ _ fp_) (efs_cons (ef_var (i := 0)) (efs_cons (ef_var (i := 2)) efs_nil)))) ?_
  refine ess_cons (es_setLc (i := 4) bd.calm bd.nd (it_rng T.z_range ((ef_callK c__law_draw ar__law_draw bd (efs_cons (ef_var (i := 0)) (efs_cons ef_int efs_nil))).v)) (own := [("k", 6)]) (blkOk_by rfl) (ect_nm bd.nd) (fun s_ H_ _ _ fp_ => ets_nil) (fun s_ H_ _ _ fp_ => ef_callK c__law_draw ar__law_draw (bd.blk s_ H_ _ _ fp_) (efs_cons (ef_var (i := 0)) (efs_cons (ef_add ((ef_var (i := 2)).v) ((ef_int).v)) efs_nil)))) ?_
  refine ess_cons (es_if (et_eq bd ((ef_mod ((ef_var (i := 1)).v) ((ef_int).v)).v) ((ef_int).v)) (ess_cons (es_setF (i := 5) bd.nd (ef_callK c__law_draw ar__law_draw bd (efs_cons (ef_var (i := 0)) (efs_cons (ef_var (i := 2)) efs_nil)))) (ess_cons (es_setIx (ef_tup (efs_cons ef_str efs_nil)) (epl_slot (i := 3)) ((ef_var (i := 5)).v)) (ess_one (es_if (et_ne bd (ev_var (i := 4)) (((eg_lst efs_nil).f).v)) (ess_one (es_setIx (ef_max2 bd.calm T.z_max ((ef_int).v) ((ef_sub ((ef_var (i := 5)).v) ((ef_callK c__law_draw ar__law_draw bd (efs_cons (ef_var (i := 0)) (efs_cons ef_int efs_nil))).v)).v)) (epl_slot (i := 4)) ((ef_int).v))) ess_nil)))) ess_nil) ?_
  exact ess_one (es_ret (ef_tup (efs_cons (ef_tup1 T.z_tuple (ev_var (i := 3))) (efs_cons (ef_tup1 T.z_tuple (ev_var (i := 4))) efs_nil))))
def b__law_alike (F : Fn) : S :=
  seqS (iteS (tst (una cIsN (get (slotV 1)))) (retS (una cIsN (get (slotV 0)))) nxt)
  (seqS (iteS (tst (una (cIsi "bool") (get (slotV 1)))) (retS (andV (una (cIsi "bool") (get (slotV 0))) (bin cEq (get (slotV 0)) (get (slotV 1))))) nxt)
  (seqS (iteS (tst (una (cIsi "int") (get (slotV 1)))) (retS (andV (una (cIsi "int") (get (slotV 0))) (andV (notV (una (cIsi "bool") (get (slotV 0)))) (bin cEq (get (slotV 0)) (get (slotV 1)))))) nxt)
  (seqS (iteS (tst (una (cIsi "str") (get (slotV 1)))) (retS (andV (una (cIsi "str") (get (slotV 0))) (bin cEq (get (slotV 0)) (get (slotV 1))))) nxt)
  (seqS (iteS (orT (tst (bin cNe (una (cIsi "list") (get (slotV 0))) (una (cIsi "list") (get (slotV 1))))) (tst (bin cNe (una (cIsi "tuple") (get (slotV 0))) (una (cIsi "tuple") (get (slotV 1)))))) (retS (ret (.bl false))) nxt)
  (seqS (iteS (tst (bin cNe (una cLen (get (slotV 0))) (una cLen (get (slotV 1))))) (retS (ret (.bl false))) nxt)
  (seqS (forI (rngM (una rngC (una cLen (get (slotV 1))))) (gNameS 2) (iteS (notT (tst (callM F [] (consM (bin cIx (get (slotV 0)) (get (slotV 2))) (consM (bin cIx (get (slotV 1)) (get (slotV 2))) nilM))))) (retS (ret (.bl false))) nxt))
  (retS (ret (.bl true)))))))))
def F__law_alike_ : Nat → Fn
  | 0 => noFn
  | n + 1 => runF (b__law_alike (F__law_alike_ n)) 3 2
theorem ar__law_alike_ : ∀ n, Ary (F__law_alike_ n) 2
  | 0 => ary_none
  | _ + 1 => runF_ary
set_option maxHeartbeats 1000000 in
theorem ok__law_alike_ (T : Txt K mg)  : ∀ n, Callee P w K mg base (n + 0) "_law_alike" ["found", "due"] (F__law_alike_ n)
  | 0 => callee_no T.d__law_alike
  | n + 1 => by
    have c__law_alike := ok__law_alike_ T  n
    have ar := ar__law_alike_ n
    refine callee_of T.d__law_alike sc__law_alike fun f cdv A outer s H E B bd => ?_
    refine ess_cons (es_if (et_isN ((ef_var (i := 1)).v)) (ess_one (es_ret (ef_isN ((ef_var (i := 0)).v)))) ess_nil) ?_
    refine ess_cons (es_if (et_val (ef_isi (T := "bool") T.z_isinstance T.z_bool (by decide +kernel) ((ef_var (i := 1)).v))) (ess_one (es_ret (ef_and (ef_isi (T := "bool") T.z_isinstance T.z_bool (by decide +kernel) ((ef_var (i := 0)).v)) (ef_one (ef_eq bd ((ef_var (i := 0)).v) ((ef_var (i := 1)).v)))))) ess_nil) ?_
    refine ess_cons (es_if (et_val (ef_isi (T := "int") T.z_isinstance T.z_int (by decide +kernel) ((ef_var (i := 1)).v))) (ess_one (es_ret (ef_and (ef_isi (T := "int") T.z_isinstance T.z_int (by decide +kernel) ((ef_var (i := 0)).v)) (ef_and (ef_not (ef_isi (T := "bool") T.z_isinstance T.z_bool (by decide +kernel) ((ef_var (i := 0)).v))) (ef_one (ef_eq bd ((ef_var (i := 0)).v) ((ef_var (i := 1)).v))))))) ess_nil) ?_
    refine ess_cons (es_if (et_val (ef_isi (T := "str") T.z_isinstance T.z_str (by decide +kernel) ((ef_var (i := 1)).v))) (ess_one (es_ret (ef_and (ef_isi (T := "str") T.z_isinstance T.z_str (by decide +kernel) ((ef_var (i := 0)).v)) (ef_one (ef_eq bd ((ef_var (i := 0)).v) ((ef_var (i := 1)).v)))))) ess_nil) ?_
    refine ess_cons (es_if (et_w (ew_or (et_ne bd ((ef_isi (T := "list") T.z_isinstance T.z_list (by decide +kernel) ((ef_var (i := 0)).v)).v) ((ef_isi (T := "list") T.z_isinstance T.z_list (by decide +kernel) ((ef_var (i := 1)).v)).v)) (ew_or1 (et_ne bd ((ef_isi (T := "tuple") T.z_isinstance T.z_tuple (by decide +kernel) ((ef_var (i := 0)).v)).v) ((ef_isi (T := "tuple") T.z_isinstance T.z_tuple (by decide +kernel) ((ef_var (i := 1)).v)).v))))) (ess_one (es_ret ef_bl)) ess_nil) ?_
    refine ess_cons (es_if (et_ne bd ((ef_len T.z_len ((ef_var (i := 0)).v)).v) ((ef_len T.z_len ((ef_var (i := 1)).v)).v)) (ess_one (es_ret ef_bl)) ess_nil) ?_
    refine ess_cons (es_forI (passes_of rfl) bd.calm (it_rng T.z_range ((ef_len T.z_len ((ef_var (i := 1)).v)).v)) (ept_name (i := 2) bd.nd) (ess_one (es_if (et_not (et_val (ef_callK c__law_alike ar bd (efs_cons (ef_ix (fun _ _ => rfl) ((ef_var (i := 0)).v) ((ef_var (i := 2)).v)) (efs_cons (ef_ix (fun _ _ => rfl) ((ef_var (i := 1)).v) ((ef_var (i := 2)).v)) efs_nil)) (Nat.le_refl _)))) (ess_one (es_ret ef_bl)) ess_nil))) ?_
    exact ess_one (es_ret ef_bl)
def F__law_alike : Fn := F__law_alike_ 8
theorem ar__law_alike : Ary F__law_alike 2 := ar__law_alike_ 8
theorem ok__law_alike (T : Txt K mg)  : Callee P w K mg base 8 "_law_alike" ["found", "due"] F__law_alike := ok__law_alike_ T  8
def b__law_shown : S :=
  seqS (setF 1 (binS cJoin (ret (.str "; ")) (fz (lcM (itemsM (bin cIx (get (slotV 0)) (ret (.int 0)))) (gNameS 2) [2] tYesM (binS cJoin (ret (.str " ")) (fz (bin cCat (fz (lstM (consM (bin cIx (get (slotV 2)) (ret (.int 0))) nilM))) (fz (lcM (itemsM (fz (slM (get (slotV 2)) (una toI (ret (.int 1))) (ret none)))) (gNameS 4) [4] tYesM (una cStr (get (slotV 4))))))))))))
  (seqS (iteS (tst (bin cEq (bin cIx (get (slotV 0)) (ret (.int 1))) (tupM nilM))) (retS (get (slotV 1))) nxt)
  (retS (bin cAdd (bin cAdd (get (slotV 1)) (ret (.str " | "))) (binS cJoin (ret (.str " ")) (fz (lcM (itemsM (bin cIx (get (slotV 0)) (ret (.int 1)))) (gNameS 3) [3] tYesM (una cStr (get (slotV 3)))))))))
def F__law_shown : Fn := runF b__law_shown 5 1
theorem ar__law_shown : Ary F__law_shown 1 := runF_ary
set_option maxHeartbeats 1000000 in
theorem ok__law_shown (T : Txt K mg)  : Callee P w K mg base 1 "_law_shown" ["mill"] F__law_shown := by
  refine callee_of T.d__law_shown sc__law_shown fun f cdv A outer s H E B bd => ?_
  refine ess_cons (es_setF (i := 1) bd.nd (ef_mt PySem.F.slot_str_join PySem.F.type_str_join mt_join o2_join ((ef_str).v) (((eg_lc bd.calm bd.nd (it_seq (ef_ix (fun _ _ => rfl) ((ef_var (i := 0)).v) ((ef_int).v))) (own := [("row", 2)]) (blkOk_by rfl) (ect_nm bd.nd) (fun s_ H_ _ _ fp_ => ets_nil) (fun s_ H_ _ _ fp_ => ef_mt PySem.F.slot_str_join PySem.F.type_str_join mt_join o2_join ((ef_str).v) (((eg_cat (((eg_lst (efs_cons (ef_ix (fun _ _ => rfl) ((ef_var (i := 2)).v) ((ef_int).v)) efs_nil)).f).v) (((eg_lc (bd.blk s_ H_ _ _ fp_).calm (bd.blk s_ H_ _ _ fp_).nd (it_seq ((eg_slice ((ef_var (i := 2)).v) (eo_some ((ef_int).v)) eo_none).f)) (own := [("number", 4)]) (blkOk_by rfl) (ect_nm (bd.blk s_ H_ _ _ fp_).nd) (fun s_ H_ _ _ fp_ => ets_nil) (fun s_ H_ _ _ fp_ => ef_str1 T.z_str ((ef_var (i := 4)).v))).f).v)).f).v))).f).v))) ?_
  refine ess_cons (es_if (et_eq bd ((ef_ix (fun _ _ => rfl) ((ef_var (i := 0)).v) ((ef_int).v)).v) ((ef_tup efs_nil).v)) (ess_one (es_ret (ef_var (i := 1)))) ess_nil) ?_
  exact ess_one (es_ret (ef_add ((ef_add ((ef_var (i := 1)).v) ((ef_str).v)).v) ((ef_mt PySem.F.slot_str_join PySem.F.type_str_join mt_join o2_join ((ef_str).v) (((eg_lc bd.calm bd.nd (it_seq (ef_ix (fun _ _ => rfl) ((ef_var (i := 0)).v) ((ef_int).v))) (own := [("place", 3)]) (blkOk_by rfl) (ect_nm bd.nd) (fun s_ H_ _ _ fp_ => ets_nil) (fun s_ H_ _ _ fp_ => ef_str1 T.z_str ((ef_var (i := 3)).v))).f).v)).v)))
def b_law : S :=
  seqS (setF 1 (callM F__law_tray [] (consM (get (slotV 0)) nilM)))
  (seqS (forI (rngM (una rngC (bin cAdd (ret (.int 1)) (una cLen (fz (slM (get (slotV 0)) (ret none) (una toI (ret (.int 8))))))))) (gNameS 2) (seqS (setF 3 (callM F__law_mill [] (consM (get (slotV 1)) nilM))) (seqS (setF 4 (callM F__law_shown [] (consM (get (slotV 3)) nilM))) (iteS (orT (notT (tst (callM F__law_alike [] (consM (callM F_show_mill [] (consM (get (slotV 3)) nilM)) (consM (get (slotV 4)) nilM))))) (notT (tst (callM F__law_alike [] (consM (callM F_read_mill [] (consM (get (slotV 4)) nilM)) (consM (get (slotV 3)) nilM)))))) (retS (ret (.bl false))) nxt))))
  (retS (ret (.bl true))))
def F_law : Fn := runF b_law 5 1
theorem ar_law : Ary F_law 1 := runF_ary
set_option maxHeartbeats 1000000 in
theorem ok_law (T : Txt K mg) {f : Addr} {fd : FuncData} (D : Fun K "law" "law" s_law f fd) (c__law_alike : Callee P w K mg base 8 "_law_alike" ["found", "due"] F__law_alike) (c__law_mill : Callee P w K mg base 4 "_law_mill" ["tray"] F__law_mill) (c__law_shown : Callee P w K mg base 1 "_law_shown" ["mill"] F__law_shown) (c__law_tray : Callee P w K mg base 1 "_law_tray" ["script"] F__law_tray) (c_read_mill : Callee P w K mg base 4 "read_mill" ["text"] F_read_mill) (c_show_mill : Callee P w K mg base 2 "show_mill" ["mill"] F_show_mill) : FnOk P w K mg base (L2.CX P w) 9 f fd ["script"] (spF K mg F_law 1) := by
  refine fn_ok D sc_law fun cdv A outer s H E B bd => ?_
  refine ess_cons (es_setF (i := 1) bd.nd (ef_callK c__law_tray ar__law_tray bd (efs_cons (ef_var (i := 0)) efs_nil))) ?_
  refine ess_cons (es_forI (passes_of rfl) bd.calm (it_rng T.z_range ((ef_add ((ef_int).v) ((ef_len T.z_len (((eg_slice ((ef_var (i := 0)).v) eo_none (eo_some ((ef_int).v))).f).v)).v)).v)) (ept_name (i := 2) bd.nd) (ess_cons (es_setF (i := 3) bd.nd (ef_callK c__law_mill ar__law_mill bd (efs_cons (ef_var (i := 1)) efs_nil))) (ess_cons (es_setF (i := 4) bd.nd (ef_callK c__law_shown ar__law_shown bd (efs_cons (ef_var (i := 3)) efs_nil))) (ess_one (es_if (et_w (ew_or (et_not (et_val (ef_callK c__law_alike ar__law_alike bd (efs_cons (ef_callK c_show_mill ar_show_mill bd (efs_cons (ef_var (i := 3)) efs_nil)) (efs_cons (ef_var (i := 4)) efs_nil))))) (ew_or1 (et_not (et_val (ef_callK c__law_alike ar__law_alike bd (efs_cons (ef_callK c_read_mill ar_read_mill bd (efs_cons (ef_var (i := 4)) efs_nil)) (efs_cons (ef_var (i := 3)) efs_nil)))))))) (ess_one (es_ret ef_bl)) ess_nil))))) ?_
  exact ess_one (es_ret ef_bl)
end
end Tw
namespace Tw
open PySem PySem.Spec PyProof.Rows L2 Ev
/-! ## the draws -/
/-- the tray as it lies; c: no more draws than that so far -/
def Tray (c : Int) (st : List SO) : Prop := ∃ (g : List Int) (l f k : Int), st = [.lst [.lst (g.map .int), .val (.int l), .val (.int f), .val (.int k)]] ∧ g.length ≤ 63 ∧ 0 ≤ l ∧ (0 ≤ f ∧ f < 2 ^ 61) ∧ 0 ≤ k ∧ k ≤ c ∧ ∀ x ∈ g, 0 ≤ x
theorem tray_mono {c d : Int} {st : List SO} (h : Tray c st) (hl : c ≤ d) : Tray d st := by
  obtain ⟨g, l, f, k, e, h1, h2, h3, h4, h5, h6⟩ := h
  exact ⟨g, l, f, k, e, h1, h2, h3, h4, by omega, h6⟩
def NoE : Str → List SO → Prop := fun _ _ => False
theorem draw_ok {c m : Int} {st : List SO} (T : Tray c st) (hc : c < 2 ^ 60) (h0 : 0 < m) (h1 : m < 2 ^ 60) {E : Str → List SO → Prop} {Q : D → List SO → Prop}
    (hq : ∀ v st', 0 ≤ v → v < m → Tray (c + 1) st' → Q (.int v) st') : okF F__law_draw [.obj 0, .int m] st E Q := by
  obtain ⟨g, l, f, k, e, hg, hl, hf, hk, hkc, hg0⟩ := T
  subst e
  unfold F__law_draw
  rw [okF_run]
  refine ⟨rfl, ?_⟩
  show okS b__law_draw ⟨[some (.val (.obj 0)), some (.val (.int m)), none, none], _⟩ _
  unfold b__law_draw
  refine seq_cut (fun s => ∃ (g : List Int) (l : Int), s = ⟨[some (.val (.obj 0)), some (.val (.int m)), none, none], [.lst [.lst (g.map .int), .val (.int l), .val (.int f), .val (.int k)]]⟩ ∧ g.length ≤ 63 ∧ 0 ≤ l ∧ ∀ x ∈ g, 0 ≤ x) ?_ ?_
  · refine okS_whileS (fun n s => ∃ (g : List Int) (l : Int), s = ⟨[some (.val (.obj 0)), some (.val (.int m)), none, none], [.lst [.lst (g.map .int), .val (.int l), .val (.int f), .val (.int k)]]⟩ ∧ n = g.length ∧ g.length ≤ 63 ∧ 0 ≤ l ∧ ∀ x ∈ g, 0 ≤ x) g.length (by show _ < 10 ^ 9; omega) ⟨g, l, rfl, rfl, hg, hl, hg0⟩ ?_
    rintro n s ⟨g, l, e, hn, hg, hl, hg0⟩
    subst e
    walk_at "evs"; walk_at "evt"
    by_cases h2 : l < 2
    · rw [if_pos (decide_eq_true h2)]
      refine ⟨by decide, ?_⟩
      rw [x_neNil (fins_int g), x_toB]
      cases g with
      | nil =>
        simp only [List.map_nil, List.isEmpty_nil]
        exact ⟨[], l, rfl, by simp, hl, by simp⟩
      | cons a r =>
        simp only [List.map_cons, List.isEmpty_cons, Bool.not_false, if_true]
        refine ⟨(r.map .int, .int a), pop0, r.length, by rw [hn]; simp, r, a, rfl, rfl, by simp at hg; omega, hg0 a (by simp), fun x hx => hg0 x (by simp [hx])⟩
    · rw [if_neg (by simpa using h2)]
      exact ⟨g, l, rfl, hg, hl, hg0⟩
  · rintro s ⟨g, l, e, hg, hl, hg0⟩
    subst e
    walk_at "evx"
    have e61 : (2 : Int) ^ Int.toNat 61 - 1 = 2305843009213693951 := by decide
    have e18 : (10 : Int) ^ Int.toNat 18 + 9 = 1000000000000000009 := by decide
    rw [e61, e18]
    by_cases h2 : 2 ≤ l
    · rw [if_pos (decide_eq_true h2)]
      exact ⟨h0, ⟨h0, h1⟩, hq _ _ (Int.emod_nonneg _ (by omega)) (Int.emod_lt_of_pos _ h0) ⟨g, l / m, f, k, rfl, hg, Int.ediv_nonneg hl (by omega), hf, hk, by omega, hg0⟩⟩
    · rw [if_neg (by simpa using h2)]
      have hm := Int.emod_lt_of_pos ((f + 5) * (k + 1 + 2) ^ Int.toNat 3 + 1000003 * (k + 1)) (show (0 : Int) < 2305843009213693951 by decide)
      have hm0 := Int.emod_nonneg ((f + 5) * (k + 1 + 2) ^ Int.toNat 3 + 1000003 * (k + 1)) (show (2305843009213693951 : Int) ≠ 0 by decide)
      refine ⟨⟨by decide, by decide, by omega⟩, .inl (by omega), .inl (by decide), ⟨by decide, by decide, by decide⟩, by decide, ⟨by decide, by decide, by omega⟩, ⟨by decide, by decide, by decide⟩, by decide, ⟨by decide, by decide⟩, h0, ?_⟩
      exact hq _ _ (Int.emod_nonneg _ (by omega)) (Int.emod_lt_of_pos _ h0) ⟨g, l, f, k + 1, rfl, hg, hl, hf, by omega, by omega, hg0⟩
theorem worth_ok {c : Int} {st : List SO} (T : Tray c st) (hc : c + 2 < 2 ^ 60) {E : Str → List SO → Prop} {Q : D → List SO → Prop}
    (hq : ∀ v st', 0 ≤ v → v < 4294967296 → Tray (c + 2) st' → Q (.int v) st') : okF F__law_worth [.obj 0] st E Q := by
  unfold F__law_worth
  rw [okF_run]
  refine ⟨rfl, ?_⟩
  show okS b__law_worth ⟨[some (.val (.obj 0)), none], _⟩ _
  unfold b__law_worth
  walk_at "evx"
  refine draw_ok T (by omega) (by decide) (by decide) fun v st' v0 v1 T1 => ?_
  walk_at "evx"
  by_cases h3 : v < 3
  · rw [if_pos (decide_eq_true h3)]
    refine ⟨by decide, ?_⟩
    have hv : v = 0 ∨ v = 1 ∨ v = 2 := by omega
    rcases hv with e | e | e <;> subst e
    · exact ⟨.int 0, rfl, hq _ _ (by decide) (by decide) (tray_mono T1 (by omega))⟩
    · exact ⟨.int 1, rfl, hq _ _ (by decide) (by decide) (tray_mono T1 (by omega))⟩
    · exact ⟨.int 4294967295, rfl, hq _ _ (by decide) (by decide) (tray_mono T1 (by omega))⟩
  · rw [if_neg (by simpa using h3)]
    by_cases e3 : v = 3
    · rw [if_pos (decide_eq_true e3)]
      exact draw_ok T1 (by omega) (by decide) (by decide) fun u st2 u0 u1 T2 => hq u st2 u0 (by omega) (tray_mono T2 (by omega))
    · rw [if_neg (by simpa using e3)]
      exact draw_ok T1 (by omega) (by decide) (by decide) fun u st2 u0 u1 T2 => hq u st2 u0 u1 (tray_mono T2 (by omega))
/-! ## rows -/
theorem szl {n : Nat} (h : Nat.ble n 1000 = true) : n ≤ sizeLine := Nat.le_trans (Nat.le_of_ble_eq_true h) (by decide)
def lims (n : Int) (w : Str) : Option (List Int) :=
  if w = "put" then some [8, 4294967296] else if w = "sum" ∨ w = "mul" ∨ w = "less" then some [8, 8, 8] else if w = "take" ∨ w = "lay" then some [8, 8, 16] else if w = "go" then some [8, n + 1]
  else if w = "shut" ∨ w = "open" ∨ w = "home" then some [] else none
theorem lims_put {n : Int} : lims n "put" = some [8, 4294967296] := by simp [lims, ofString_inj]
theorem lims_sum {n : Int} : lims n "sum" = some [8, 8, 8] := by simp [lims, ofString_inj]
theorem lims_mul {n : Int} : lims n "mul" = some [8, 8, 8] := by simp [lims, ofString_inj]
theorem lims_less {n : Int} : lims n "less" = some [8, 8, 8] := by simp [lims, ofString_inj]
theorem lims_take {n : Int} : lims n "take" = some [8, 8, 16] := by simp [lims, ofString_inj]
theorem lims_lay {n : Int} : lims n "lay" = some [8, 8, 16] := by simp [lims, ofString_inj]
theorem lims_go {n : Int} : lims n "go" = some [8, n + 1] := by simp [lims, ofString_inj]
theorem lims_shut {n : Int} : lims n "shut" = some [] := by simp [lims, ofString_inj]
theorem lims_open {n : Int} : lims n "open" = some [] := by simp [lims, ofString_inj]
theorem lims_home {n : Int} : lims n "home" = some [] := by simp [lims, ofString_inj]
inductive Fits : List Int → List Int → Prop
  | nil : Fits [] []
  | cons {x l : Int} {xs ls : List Int} : 0 ≤ x → x < l → Fits xs ls → Fits (x :: xs) (l :: ls)
def rowD (w : Str) (ns : List Int) : D := .tup (.str w :: ns.map .int)
def IsRow (n : Int) (d : D) : Prop := ∃ w ns ls, d = rowD w ns ∧ lims n w = some ls ∧ Fits ns ls
set_option maxHeartbeats 2000000 in
theorem row_ok {c n : Int} {st : List SO} (T : Tray c st) (hc : c + 5 < 2 ^ 60) (h0 : 0 < n) (h1 : n < 1000) {E : Str → List SO → Prop} {Q : D → List SO → Prop}
    (hq : ∀ d st', IsRow n d → Tray (c + 5) st' → Q d st') : okF F__law_row [.obj 0, .int n] st E Q := by
  unfold F__law_row
  rw [okF_run]
  refine ⟨rfl, ?_⟩
  show okS b__law_row ⟨[some (.val (.obj 0)), some (.val (.int n)), none, none], _⟩ _
  unfold b__law_row
  walk_at "evx"
  refine ⟨by decide, draw_ok T (by omega) (by decide) (by decide) fun v st1 v0 v1 T1 => ?_⟩
  have hv : v = 0 ∨ v = 1 ∨ v = 2 ∨ v = 3 ∨ v = 4 ∨ v = 5 ∨ v = 6 ∨ v = 7 ∨ v = 8 ∨ v = 9 := by omega
  rcases hv with e | e | e | e | e | e | e | e | e | e <;> subst e <;> refine ⟨_, rfl, ?_⟩ <;> walk_at "evx"
  · exact draw_ok T1 (by omega) (by decide) (by decide) fun a s2 a0 a1 T2 => worth_ok T2 (by omega) fun b s3 b0 b1 T3 => ⟨szl rfl, hq _ s3 ⟨"put", [a, b], _, rfl, lims_put, .cons a0 a1 (.cons b0 b1 .nil)⟩ (tray_mono T3 (by omega))⟩
  · exact draw_ok T1 (by omega) (by decide) (by decide) fun a s2 a0 a1 T2 => draw_ok T2 (by omega) (by decide) (by decide) fun b s3 b0 b1 T3 => draw_ok T3 (by omega) (by decide) (by decide) fun d s4 d0 d1 T4 => ⟨szl rfl, hq _ s4 ⟨"sum", [a, b, d], _, rfl, lims_sum, .cons a0 a1 (.cons b0 b1 (.cons d0 d1 .nil))⟩ (tray_mono T4 (by omega))⟩
  · exact draw_ok T1 (by omega) (by decide) (by decide) fun a s2 a0 a1 T2 => draw_ok T2 (by omega) (by decide) (by decide) fun b s3 b0 b1 T3 => draw_ok T3 (by omega) (by decide) (by decide) fun d s4 d0 d1 T4 => ⟨szl rfl, hq _ s4 ⟨"mul", [a, b, d], _, rfl, lims_mul, .cons a0 a1 (.cons b0 b1 (.cons d0 d1 .nil))⟩ (tray_mono T4 (by omega))⟩
  · exact draw_ok T1 (by omega) (by decide) (by decide) fun a s2 a0 a1 T2 => draw_ok T2 (by omega) (by decide) (by decide) fun b s3 b0 b1 T3 => draw_ok T3 (by omega) (by decide) (by decide) fun d s4 d0 d1 T4 => ⟨szl rfl, hq _ s4 ⟨"less", [a, b, d], _, rfl, lims_less, .cons a0 a1 (.cons b0 b1 (.cons d0 d1 .nil))⟩ (tray_mono T4 (by omega))⟩
  · exact draw_ok T1 (by omega) (by decide) (by decide) fun a s2 a0 a1 T2 => draw_ok T2 (by omega) (by decide) (by decide) fun b s3 b0 b1 T3 => draw_ok T3 (by omega) (by decide) (by decide) fun d s4 d0 d1 T4 => ⟨szl rfl, hq _ s4 ⟨"take", [a, b, d], _, rfl, lims_take, .cons a0 a1 (.cons b0 b1 (.cons d0 d1 .nil))⟩ (tray_mono T4 (by omega))⟩
  · exact draw_ok T1 (by omega) (by decide) (by decide) fun a s2 a0 a1 T2 => draw_ok T2 (by omega) (by decide) (by decide) fun b s3 b0 b1 T3 => draw_ok T3 (by omega) (by decide) (by decide) fun d s4 d0 d1 T4 => ⟨szl rfl, hq _ s4 ⟨"lay", [a, b, d], _, rfl, lims_lay, .cons a0 a1 (.cons b0 b1 (.cons d0 d1 .nil))⟩ (tray_mono T4 (by omega))⟩
  · exact draw_ok T1 (by omega) (by decide) (by decide) fun a s2 a0 a1 T2 => draw_ok T2 (by omega) (by omega) (by omega) fun b s3 b0 b1 T3 => ⟨szl rfl, hq _ s3 ⟨"go", [a, b], _, rfl, lims_go, .cons a0 a1 (.cons b0 b1 .nil)⟩ (tray_mono T3 (by omega))⟩
  · exact ⟨szl rfl, hq _ _ ⟨"shut", [], _, rfl, lims_shut, .nil⟩ (tray_mono T1 (by omega))⟩
  · exact ⟨szl rfl, hq _ _ ⟨"open", [], _, rfl, lims_open, .nil⟩ (tray_mono T1 (by omega))⟩
  · exact ⟨szl rfl, hq _ _ ⟨"home", [], _, rfl, lims_home, .nil⟩ (tray_mono T1 (by omega))⟩
/-! ## mills -/
structure IsMill (d : D) : Prop where
  ex : ∃ (rows : List D) (bs : List Int), d = .tup [.tup rows, .tup (bs.map .int)] ∧ 1 ≤ rows.length ∧ rows.length ≤ 40 ∧ (∀ r ∈ rows, IsRow rows.length r) ∧ bs.length ≤ 4 ∧ ∀ b ∈ bs, 0 ≤ b ∧ b ≤ rows.length
theorem rng_item {n x : Int} {d : D} (h : d ∈ rngD 0 n) : ∃ i, d = .int i := by
  unfold rngD at h
  obtain ⟨k, _, e⟩ := List.mem_map.mp h
  exact ⟨_, e.symm⟩
theorem rng_len {n : Int} : (rngD 0 n).length = n.toNat := by simp [rngD]
set_option maxHeartbeats 2000000 in
theorem mill_ok {c : Int} {st : List SO} (T : Tray c st) (hc : c + 300 < 2 ^ 60) (c0 : 0 ≤ c) {E : Str → List SO → Prop} {Q : D → List SO → Prop}
    (hq : ∀ d st', IsMill d → Tray (c + 300) st' → Q d st') : okF F__law_mill [.obj 0] st E Q := by
  unfold F__law_mill
  rw [okF_run]
  refine ⟨rfl, ?_⟩
  show okS b__law_mill ⟨[some (.val (.obj 0)), none, none, none, none, none, none], _⟩ _
  unfold b__law_mill
  refine seq_cut (fun s => ∃ wy, 0 ≤ wy ∧ wy < 16 ∧ ∃ t, s = ⟨[some (.val (.obj 0)), some (.val (.int wy)), none, none, none, none, none], t⟩ ∧ Tray (c + 1) t) ?_ ?_
  · walk_at "evx"
    exact draw_ok T (by omega) (by decide) (by decide) fun v s' v0 v1 T1 => ⟨v, v0, v1, _, rfl, T1⟩
  rintro _ ⟨wy, w0, w1, st1, rfl, T1⟩
  refine seq_cut (fun s => ∃ n, 1 ≤ n ∧ n ≤ 12 ∧ ∃ t, s = ⟨[some (.val (.obj 0)), some (.val (.int wy)), some (.val (.int n)), none, none, none, none], t⟩ ∧ Tray (c + 2) t) ?_ ?_
  · walk_at "evx"
    exact draw_ok T1 (by omega) (by decide) (by decide) fun v s' v0 v1 T1 => by
      walk_at "evx"
      exact ⟨1 + v, by omega, by omega, _, rfl, tray_mono T1 (by omega)⟩
  rintro _ ⟨n0, n1, n2, st2, rfl, T2⟩
  refine seq_cut (fun s => ∃ n, 1 ≤ n ∧ n ≤ 40 ∧ ∃ t, s = ⟨[some (.val (.obj 0)), some (.val (.int wy)), some (.val (.int n)), none, none, none, none], t⟩ ∧ Tray (c + 3) t) ?_ ?_
  · walk_at "evx"
    refine ⟨by decide, ?_⟩
    by_cases h7 : wy / 2 = 7
    · rw [if_pos (decide_eq_true h7)]
      exact draw_ok T2 (by omega) (by decide) (by decide) fun v s' v0 v1 T1 => by
        walk_at "evx"
        exact ⟨13 + v, by omega, by omega, _, rfl, tray_mono T1 (by omega)⟩
    · rw [if_neg (by simpa using h7)]
      exact ⟨n0, n1, by omega, _, rfl, tray_mono T2 (by omega)⟩
  rintro _ ⟨n, n3, n4, st3, rfl, T3⟩
  refine seq_cut (fun s => ∃ rows : List D, rows.length = n.toNat ∧ (∀ r ∈ rows, IsRow n r) ∧ ∃ t, s = ⟨[some (.val (.obj 0)), some (.val (.int wy)), some (.val (.int n)), some (.lst rows), none, none, none], t⟩ ∧ Tray (c + 203) t) ?_ ?_
  · rw [okS_setC]
    refine okM_lc ?_
    walk_at "evx"
    refine ⟨⟨by omega, by omega⟩, fun j ys st => (∀ r ∈ ys, IsRow n r) ∧ Tray (c + 3 + 5 * j) st, ?_, ⟨by simp, by simpa using T3⟩, ?_, ?_⟩
    · rw [rng_len]
      exact Nat.lt_of_le_of_lt (show n.toNat ≤ 40 by omega) (by decide)
    · rintro j x ys st hx ⟨hr, hT⟩ hl
      have hj : j < n.toNat := by
        have := (List.getElem?_eq_some_iff.mp hx).1
        rwa [rng_len] at this
      walk_at "evx"
      refine row_ok hT (by omega) (by omega) (by omega) fun d s' hd hT' => ⟨?_, tray_mono hT' (by omega)⟩
      intro r hr'
      rcases List.mem_append.mp hr' with z | z
      · exact hr r z
      · rw [List.mem_singleton.mp z]; exact hd
    · rintro ys st ⟨hr, hT⟩ hl
      rw [rng_len] at hl hT
      walk_at "evx"
      exact ⟨ys, hl, hr, _, rfl, tray_mono hT (by omega)⟩
  rintro _ ⟨rows, hrl, hrs, st4, rfl, T4⟩
  refine seq_cut (fun s => ∃ bs : List Int, bs.length ≤ 4 ∧ (∀ b ∈ bs, 0 ≤ b ∧ b ≤ n) ∧ ∃ t, s = ⟨[some (.val (.obj 0)), some (.val (.int wy)), some (.val (.int n)), some (.lst rows), some (.lst (bs.map .int)), none, none], t⟩ ∧ Tray (c + 220) t) ?_ ?_
  · rw [okS_setC]
    refine okM_lc ?_
    walk_at "evx"
    refine draw_ok T4 (by omega) (by decide) (by decide) fun v s5 v0 v1 T5 => ?_
    walk_at "evx"
    refine ⟨⟨by omega, by omega⟩, fun j ys st => (∃ bs : List Int, ys = bs.map .int ∧ ∀ b ∈ bs, 0 ≤ b ∧ b ≤ n) ∧ Tray (c + 204 + j) st, ?_, ⟨⟨[], rfl, by simp⟩, by simpa using tray_mono T5 (by omega)⟩, ?_, ?_⟩
    · rw [rng_len]
      exact Nat.lt_of_le_of_lt (show v.toNat ≤ 40 by omega) (by decide)
    · rintro j x ys st hx ⟨⟨bs, eb, hb⟩, hT⟩ hl
      have hj : j < v.toNat := by
        have := (List.getElem?_eq_some_iff.mp hx).1
        rwa [rng_len] at this
      walk_at "evx"
      refine draw_ok hT (by omega) (by omega) (by omega) fun u s' u0 u1 hT' => ⟨⟨bs ++ [u], by rw [eb]; simp, ?_⟩, tray_mono hT' (by omega)⟩
      intro b hb'
      rcases List.mem_append.mp hb' with z | z
      · exact hb b z
      · rw [List.mem_singleton.mp z]; omega
    · rintro ys st ⟨⟨bs, eb, hb⟩, hT⟩ hl
      rw [rng_len] at hl hT
      subst eb
      walk_at "evx"
      exact ⟨bs, by rw [List.length_map] at hl; omega, hb, _, rfl, tray_mono hT (by omega)⟩
  rintro _ ⟨bs, hbl, hbs, st5, rfl, T5⟩
  walk_at "evx"
  refine ⟨by decide, ?_⟩
  have hn : (rows.length : Int) = n := by omega
  have fin : ∀ (rows' : List D) (bs' : List Int) (s' : List SO), rows'.length = rows.length → (∀ r ∈ rows', IsRow n r) → bs'.length ≤ 4 → (∀ b ∈ bs', 0 ≤ b ∧ b ≤ n) → Tray (c + 300) s' → Q (.tup [.tup rows', .tup (bs'.map .int)]) s' := fun rows' bs' s' h1 h2 h3 h4 h5 =>
    hq _ s' ⟨rows', bs', rfl, by omega, by omega, by rw [h1, hn]; exact h2, h3, by rw [h1, hn]; exact h4⟩ h5
  by_cases hw : wy % 2 = 1
  · rw [if_pos (decide_eq_true hw)]
    refine draw_ok T5 (by omega) (by omega) (by omega) fun a s6 a0 a1 T6 => ⟨szl rfl, ?_⟩
    walk_at "evx"
    refine ⟨a.toNat, ixN_nat a0 (by omega), szl rfl, ?_⟩
    rw [x_neNil (fins_int bs), x_toB]
    have hset : ∀ r ∈ rows.set a.toNat (.tup [.str "home"]), IsRow n r := fun r hr => by
      rcases List.mem_or_eq_of_mem_set hr with z | z
      · exact hrs r z
      · exact ⟨"home", [], _, z, lims_home, .nil⟩
    cases bs with
    | nil =>
      simp only [List.map_nil, List.isEmpty_nil, Bool.not_true, Bool.false_eq_true, if_false]
      exact ⟨szl rfl, fin _ [] _ (by simp) hset (by simp) (by simp) (tray_mono T6 (by omega))⟩
    | cons b0 br =>
      simp only [List.map_cons, List.isEmpty_cons, Bool.not_false, if_true]
      refine draw_ok T6 (by omega) (by decide) (by decide) fun u s7 u0 u1 T7 => ?_
      walk_at "evx"
      refine ⟨0, ixN_nat (by decide) (by rw [List.length_cons]; omega), szl rfl, ?_⟩
      refine fin _ ((if a - u > 0 then a - u else 0) :: br) _ (by simp) hset hbl (fun b hb => ?_) (tray_mono T7 (by omega))
      rcases List.mem_cons.mp hb with z | z
      · rw [z]
        split <;> omega
      · exact hbs b (by simp [z])
  · rw [if_neg (by simpa using hw)]
    exact ⟨szl rfl, fin rows bs _ rfl hrs hbl hbs (tray_mono T5 (by omega))⟩
end Tw

namespace Tw
open PySem PySem.Spec PyProof.Rows L2 Ev
/-! ## the writing -/
def rowS (w : Str) (ns : List Int) : Str := Str.join " " (w :: ns.map intS)
def isWord (w : Str) : Prop := ∃ n ls, lims n w = some ls
theorem word_cases {w : Str} {n : Int} {ls : List Int} (h : lims n w = some ls) : w = "put" ∨ (w = "sum" ∨ w = "mul" ∨ w = "less") ∨ (w = "take" ∨ w = "lay") ∨ w = "go" ∨ w = "shut" ∨ w = "open" ∨ w = "home" := by
  unfold lims at h
  split at h
  · exact .inl (by assumption)
  · split at h
    · exact .inr (.inl (by assumption))
    · split at h
      · exact .inr (.inr (.inl (by assumption)))
      · split at h
        · exact .inr (.inr (.inr (.inl (by assumption))))
        · split at h
          · exact .inr (.inr (.inr (.inr (by assumption))))
          · cases h
def okWord (w : Str) : Bool := w.cps.toList.all (fun c => decide (97 ≤ c ∧ c ≤ 122)) && decide (w.length ≤ 4) && decide (1 ≤ w.length)
theorem word_ok {w : Str} {n : Int} {ls : List Int} (h : lims n w = some ls) : okWord w = true := by
  rcases word_cases h with e | (e | e | e) | (e | e) | e | e | e | e <;> subst e <;> decide +kernel
theorem word_letters {w : Str} (h : okWord w = true) : ∀ c ∈ w.cps.toList, 97 ≤ c ∧ c ≤ 122 := fun c hc => by
  unfold okWord at h
  rw [Bool.and_eq_true, Bool.and_eq_true, List.all_eq_true] at h
  exact of_decide_eq_true (h.1.1 c hc)
theorem word_len {w : Str} (h : okWord w = true) : w.length ≤ 4 := by
  unfold okWord at h
  rw [Bool.and_eq_true, Bool.and_eq_true] at h
  exact of_decide_eq_true h.1.2
theorem lims_big {n : Int} {w : Str} {ls : List Int} (h : lims n w = some ls) (hn : n ≤ 40) : ls.length ≤ 3 ∧ ∀ l ∈ ls, l ≤ 4294967296 := by
  unfold lims at h
  split at h
  · cases h; simp
  · split at h
    · cases h; simp
    · split at h
      · cases h; simp
      · split at h
        · cases h; simp; omega
        · split at h
          · cases h; simp
          · cases h
theorem fits_len {ns ls : List Int} (h : Fits ns ls) : ns.length = ls.length := by
  induction h with
  | nil => rfl
  | cons _ _ _ ih => simp [ih]
theorem fits_mem {ns ls : List Int} (h : Fits ns ls) : ∀ x ∈ ns, 0 ≤ x ∧ ∃ l ∈ ls, x < l := by
  induction h with
  | nil => simp
  | cons h0 h1 _ ih =>
    intro x hx
    rcases List.mem_cons.mp hx with z | z
    · subst z; exact ⟨h0, _, by simp, h1⟩
    · obtain ⟨a, l, hl, b⟩ := ih x z
      exact ⟨a, l, by simp [hl], b⟩
structure RowP (n : Int) (p : Str × List Int) : Prop where
  ex : ∃ ls, lims n p.1 = some ls ∧ Fits p.2 ls
theorem rows_pairs {n : Int} : ∀ {rows : List D}, (∀ r ∈ rows, IsRow n r) → ∃ ps : List (Str × List Int), rows = ps.map (fun p => rowD p.1 p.2) ∧ ∀ p ∈ ps, RowP n p
  | [], _ => ⟨[], rfl, by simp⟩
  | r :: rows, h => by
    obtain ⟨ps, e, hp⟩ := rows_pairs (rows := rows) fun x hx => h x (by simp [hx])
    obtain ⟨w, ns, ls, e1, e2, e3⟩ := h r (by simp)
    refine ⟨(w, ns) :: ps, by rw [e, e1]; rfl, fun p hp' => ?_⟩
    rcases List.mem_cons.mp hp' with z | z
    · subst z; exact ⟨ls, e2, e3⟩
    · exact hp p z
theorem rowp_num {n : Int} {p : Str × List Int} (h : RowP n p) (hn : n ≤ 40) : p.2.length ≤ 3 ∧ ∀ x ∈ p.2, 0 ≤ x ∧ x < 10 ^ 10 := by
  obtain ⟨ls, h1, h2⟩ := h.ex
  obtain ⟨a, b⟩ := lims_big h1 hn
  refine ⟨by rw [fits_len h2]; exact a, fun x hx => ?_⟩
  obtain ⟨c, l, hl, d⟩ := fits_mem h2 x hx
  have := b l hl
  exact ⟨c, by omega⟩
theorem len_nums {ns : List Int} (h : ∀ x ∈ ns, 0 ≤ x ∧ x < 10 ^ 10) : ((ns.map intS).map (·.length)).sum ≤ ns.length * 10 := by
  induction ns with
  | nil => simp
  | cons a r ih =>
    have := ih fun x hx => h x (by simp [hx])
    have ha := (num_text (h a (by simp)).1 (h a (by simp)).2).len
    simp only [List.map_cons, List.sum_cons, List.length_cons]
    omega
theorem log_ok {x : Int} (h0 : 0 ≤ x) (h1 : x < 10 ^ 10) : x.natAbs.log2 < 1920 := by
  have : x.natAbs < 2 ^ 64 := by omega
  by_cases hz : x.natAbs = 0
  · rw [hz]; decide
  · have := (Nat.log2_lt hz).mpr this
    omega
def intD : D → D
  | .int i => .str (intS i)
  | _ => .non
theorem map_intD (ns : List Int) : (ns.map D.int).map intD = (ns.map intS).map D.str := by
  rw [List.map_map, List.map_map]; rfl
def NoX : Str → FSt → Prop := fun _ _ => False
/-- ' '.join([row[0]] + [str(number) for number in row[1:]]) -/
theorem show_num {E : Str → FSt → Prop} {j : Nat} {ns : List Int} {s : FSt} {m : M (List D)} {Q : C → FSt → Prop} (hj : j < s.sl.length) (hn : ∀ x ∈ ns, 0 ≤ x ∧ x < 10 ^ 10) (hl : ns.length ≤ 1000) (hm : ∀ Q', Q' (ns.map D.int) s → okM E m s Q')
    (hq : Q (.lst ((ns.map intS).map D.str)) ⟨(s.sl.set j none).set j (keepC (s.sl.getD j none)), s.st⟩) : okM E (lcM m (gNameS j) [j] tYesM (una cStr (get (slotV j)))) s Q := by
  refine okM_lcMap (hm _ ⟨intD, ?_, ?_, ?_⟩)
  · rw [List.length_map]; exact Nat.lt_of_le_of_lt hl (by decide)
  · intro x hx
    obtain ⟨i, hi, e⟩ := List.mem_map.mp hx
    subst e
    rw [okM_una, okM_get, slotV_set (by rw [List.length_set]; exact hj), x_some, x_str (log_ok (hn i hi).1 (hn i hi).2)]
    exact ⟨by simp only [List.set_set], rfl, rfl⟩
  · rw [map_intD]; exact hq
theorem show_row_code {E : Str → FSt → Prop} {i j : Nat} {n : Int} {w : Str} {ns : List Int} {s : FSt} {Q : D → FSt → Prop} (hi : slotV i s = some (rowD w ns)) (hj : j < s.sl.length) (hp : RowP n (w, ns)) (h40 : n ≤ 40)
    (hq : Q (.str (rowS w ns)) ⟨(s.sl.set j none).set j (keepC (s.sl.getD j none)), s.st⟩) :
    okM E (binS cJoin (ret (.str " ")) (fz (bin cCat (fz (lstM (consM (bin cIx (get (slotV i)) (ret (.int 0))) nilM))) (fz (lcM (itemsM (fz (slM (get (slotV i)) (una toI (ret (.int 1))) (ret none)))) (gNameS j) [j] tYesM (una cStr (get (slotV j)))))))) s Q := by
  obtain ⟨h3, hn⟩ := rowp_num hp h40
  have h3 : ns.length ≤ 3 := h3
  have hn : ∀ x ∈ ns, 0 ≤ x ∧ x < 10 ^ 10 := hn
  have hw := word_len (word_ok hp.ex.choose_spec.1)
  have hw : w.length ≤ 4 := hw
  walk_at "evs"
  rw [hi]
  simp only [x_some]
  unfold rowD
  rw [x_ix0T]
  refine ⟨szl rfl, show_num hj hn (by omega) (fun Q' h => ?_) ?_⟩
  · walk_at "evs"
    rw [hi]
    simp only [x_some]
    unfold rowD
    rw [x_sl1T]
    walk_at "evs"
    exact h
  · walk_at "evs"
    refine ⟨?_, ?_⟩
    · simp only [List.length_map, List.length_cons, List.length_nil]
      exact Nat.le_trans (show 0 + 1 + ns.length ≤ 1000 by omega) (by decide)
    · have e : D.str w :: (ns.map intS).map D.str = (w :: ns.map intS).map D.str := rfl
      rw [e, x_join]
      · exact hq
      · have := len_nums hn
        have e1 : (" " : Str).length = 1 := by decide +kernel
        rw [e1]
        simp only [List.map_cons, List.sum_cons, List.length_cons, List.length_map] at this ⊢
        omega
def numS : D → Str
  | .int i => intS i
  | _ => ""
def showD : D → D
  | .tup (.str w :: xs) => .str (Str.join " " (w :: xs.map numS))
  | _ => .non
theorem showD_row (w : Str) (ns : List Int) : showD (rowD w ns) = .str (rowS w ns) := by
  show D.str (Str.join " " (w :: (ns.map D.int).map numS)) = _
  rw [List.map_map]; rfl
def rowsS (ps : List (Str × List Int)) : List Str := ps.map fun p => rowS p.1 p.2
def millS (ps : List (Str × List Int)) (bs : List Int) : Str := if bs = [] then Str.join "; " (rowsS ps) else Str.join "; " (rowsS ps) ++ " | " ++ Str.join " " (bs.map intS)
theorem map_showD (ps : List (Str × List Int)) : (ps.map fun p => rowD p.1 p.2).map showD = (rowsS ps).map D.str := by
  unfold rowsS
  rw [List.map_map, List.map_map]
  congr 1
  funext p
  exact showD_row p.1 p.2
theorem rowS_len {n : Int} {p : Str × List Int} (h : RowP n p) (hn : n ≤ 40) : (rowS p.1 p.2).length ≤ 40 := by
  obtain ⟨h3, hx⟩ := rowp_num h hn
  have hw := word_len (word_ok h.ex.choose_spec.1)
  have := StrLaws.join_length_le " " (p.1 :: p.2.map intS)
  have h2 := len_nums hx
  have e1 : (" " : Str).length = 1 := by decide +kernel
  rw [e1] at this
  unfold rowS
  simp only [List.map_cons, List.sum_cons, List.length_cons, List.length_map] at this h2 ⊢
  omega
theorem rowsS_sum {n : Int} {ps : List (Str × List Int)} (h : ∀ p ∈ ps, RowP n p) (hn : n ≤ 40) : ((rowsS ps).map (·.length)).sum ≤ ps.length * 40 := by
  induction ps with
  | nil => simp [rowsS]
  | cons p r ih =>
    have := ih fun x hx => h x (by simp [hx])
    have hp := rowS_len (h p (by simp)) hn
    simp only [rowsS, List.map_cons, List.sum_cons, List.length_cons] at this ⊢
    omega
structure Mill (ps : List (Str × List Int)) (bs : List Int) : Prop where
  one : 1 ≤ ps.length
  most : ps.length ≤ 40
  rows : ∀ p ∈ ps, RowP ps.length p
  few : bs.length ≤ 4
  to : ∀ b ∈ bs, 0 ≤ b ∧ b ≤ ps.length
def millD (ps : List (Str × List Int)) (bs : List Int) : D := .tup [.tup (ps.map fun p => rowD p.1 p.2), .tup (bs.map .int)]
theorem mill_of_is {d : D} (h : IsMill d) : ∃ ps bs, d = millD ps bs ∧ Mill ps bs := by
  obtain ⟨rows, bs, e, h1, h2, h3, h4, h5⟩ := h.ex
  obtain ⟨ps, e2, hp⟩ := rows_pairs h3
  subst e2
  rw [List.length_map] at h1 h2 hp h5
  exact ⟨ps, bs, e, h1, h2, hp, h4, h5⟩
theorem Mill.bell {ps : List (Str × List Int)} {bs : List Int} (M : Mill ps bs) : ∀ x ∈ bs, 0 ≤ x ∧ x < 10 ^ 10 := fun x hx => by
  have := M.to x hx
  have := M.most
  omega
theorem join_rows_len {ps : List (Str × List Int)} {bs : List Int} (M : Mill ps bs) : (Str.join "; " (rowsS ps)).length ≤ 2000 := by
  have h0 := StrLaws.join_length_le "; " (rowsS ps)
  have h2 := rowsS_sum M.rows (by have := M.most; omega)
  have e1 : ("; " : Str).length = 2 := by decide +kernel
  have e2 : (rowsS ps).length = ps.length := by simp [rowsS]
  have := M.most
  rw [e1, e2] at h0
  omega
theorem join_bells_len {ps : List (Str × List Int)} {bs : List Int} (M : Mill ps bs) : (Str.join " " (bs.map intS)).length ≤ 100 := by
  have h0 := StrLaws.join_length_le " " (bs.map intS)
  have h2 := len_nums M.bell
  have e1 : (" " : Str).length = 1 := by decide +kernel
  have := M.few
  rw [e1, List.length_map] at h0
  omega
theorem rows_join_ok {ps : List (Str × List Int)} {bs : List Int} (M : Mill ps bs) : ((rowsS ps).map (·.length)).sum + (rowsS ps).length * ("; " : Str).length ≤ 16777216 := by
  have h2 := rowsS_sum M.rows (by have := M.most; omega)
  have e1 : ("; " : Str).length = 2 := by decide +kernel
  have e2 : (rowsS ps).length = ps.length := by simp [rowsS]
  have := M.most
  rw [e1, e2]
  omega
theorem bells_join_ok {ps : List (Str × List Int)} {bs : List Int} (M : Mill ps bs) : ((bs.map intS).map (·.length)).sum + (bs.map intS).length * (" " : Str).length ≤ 16777216 := by
  have h2 := len_nums M.bell
  have e1 : (" " : Str).length = 1 := by decide +kernel
  have := M.few
  rw [e1, List.length_map]
  omega
theorem add_len (a b : Str) : (a ++ b).length = a.length + b.length := PySem.Str.length_append a b
theorem fins_rows : ∀ bs : List Int, D.fins (bs.map .int) = true := fins_int
theorem shown_ok {ps : List (Str × List Int)} {bs : List Int} (M : Mill ps bs) {st : List SO} {E : Str → List SO → Prop} {Q : D → List SO → Prop} (hq : Q (.str (millS ps bs)) st) : okF F__law_shown [millD ps bs] st E Q := by
  unfold F__law_shown
  rw [okF_run]
  refine ⟨rfl, ?_⟩
  show okS b__law_shown ⟨[some (.val (millD ps bs)), none, none, none, none], st⟩ _
  unfold b__law_shown
  rw [okS_seq, okS_setF, okM_binS, okM_ret]
  refine ⟨rfl, ?_⟩
  rw [okM_fz]
  refine okM_lcMap' (ps.map fun p => rowD p.1 p.2) ⟨[some (.val (millD ps bs)), none, none, none, none], st⟩ showD (fun Q' h => ?_) ?_ ?_ ?_
  · unfold millD
    walk_at "evs"
    rw [x_ix0T, x_itemsT]
    exact h
  · rw [List.length_map]; exact Nat.lt_of_le_of_lt M.most (by decide)
  · intro x hx
    obtain ⟨p, hp, e⟩ := List.mem_map.mp hx
    subst e
    exact show_row_code rfl (by simp) (M.rows p hp) (by have := M.most; omega) ⟨rfl, rfl, (showD_row _ _).symm⟩
  rw [map_showD]
  unfold millD
  walk_at "evs"
  rw [x_join (rows_join_ok M)]
  walk_at "evs"
  rw [x_ix1T]
  refine ⟨szl rfl, ?_⟩
  rw [x_eqNilT (fins_int bs), x_toB]
  cases bs with
  | nil =>
    simp only [List.map_nil, List.isEmpty_nil, if_true]
    try walk_at "evs"
    have e : millS ps [] = Str.join "; " (rowsS ps) := if_pos rfl
    rw [← e]
    exact hq
  | cons b br =>
    simp only [List.map_cons, List.isEmpty_cons, Bool.false_eq_true, if_false]
    try walk_at "evs"
    have e3 : (" | " : Str).length = 3 := by decide +kernel
    refine ⟨?_, ?_⟩
    · have := join_rows_len M
      rw [e3]
      exact Nat.le_trans (show _ ≤ 3000 by omega) (by decide)
    · refine show_num (ns := b :: br) (by simp) M.bell (by have := M.few; omega) (fun Q' h => ?_) ?_
      · walk_at "evs"
        rw [x_ix1T, x_itemsT]
        exact h
      · walk_at "evs"
        rw [x_join (bells_join_ok M)]
        walk_at "evs"
        refine ⟨?_, ?_⟩
        · have := join_rows_len M
          have := join_bells_len M
          rw [add_len, e3]
          exact Nat.le_trans (show _ ≤ 3000 by omega) (by decide)
        · have e : millS ps (b :: br) = Str.join "; " (rowsS ps) ++ " | " ++ Str.join " " ((b :: br).map intS) := if_neg (by simp)
          rw [← e]
          exact hq
end Tw

namespace Tw
open PySem PySem.Spec PyProof.Rows L2 Ev
theorem show_row_ok {n : Int} {w : Str} {ns : List Int} (hp : RowP n (w, ns)) (h40 : n ≤ 40) {st : List SO} {E : Str → List SO → Prop} {Q : D → List SO → Prop} (hq : Q (.str (rowS w ns)) st) : okF F_show_row [rowD w ns] st E Q := by
  unfold F_show_row
  rw [okF_run]
  refine ⟨rfl, ?_⟩
  show okS b_show_row ⟨[some (.val (rowD w ns)), none], st⟩ _
  unfold b_show_row
  rw [okS_ret]
  exact show_row_code rfl (by simp) hp h40 hq
theorem show_mill_ok {ps : List (Str × List Int)} {bs : List Int} (M : Mill ps bs) {st : List SO} {E : Str → List SO → Prop} {Q : D → List SO → Prop} (hq : Q (.str (millS ps bs)) st) : okF F_show_mill [millD ps bs] st E Q := by
  unfold F_show_mill
  rw [okF_run]
  refine ⟨rfl, ?_⟩
  show okS b_show_mill ⟨[some (.val (millD ps bs)), none, none, none, none, none], st⟩ _
  unfold b_show_mill millD
  walk_at "evs"
  refine okM_lcMap' (ps.map fun p => rowD p.1 p.2) ⟨[some (.val (millD ps bs)), none, some (.val (.tup (ps.map fun p => rowD p.1 p.2))), some (.val (.tup (bs.map .int))), none, none], st⟩ showD (fun Q' h => ?_) ?_ ?_ ?_
  · walk_at "evs"
    exact h
  · rw [List.length_map]; exact Nat.lt_of_le_of_lt M.most (by decide)
  · intro x hx
    obtain ⟨p, hp, e⟩ := List.mem_map.mp hx
    subst e
    walk_at "evs"
    exact show_row_ok (M.rows p hp) (by have := M.most; omega) ⟨rfl, (showD_row _ _).symm⟩
  rw [map_showD]
  unfold millD
  walk_at "evs"
  rw [x_join (rows_join_ok M)]
  try walk_at "evs"
  cases bs with
  | nil =>
    have e : millS ps [] = Str.join "; " (rowsS ps) := if_pos rfl
    rw [← e]
    simp
    exact hq
  | cons b br =>
    rw [if_pos (by simp)]
    have e3 : (" | " : Str).length = 3 := by decide +kernel
    refine ⟨?_, ?_⟩
    · have := join_rows_len M
      rw [e3]
      exact Nat.le_trans (show _ ≤ 3000 by omega) (by decide)
    · refine show_num (ns := b :: br) (by simp) M.bell (by have := M.few; omega) (fun Q' h => ?_) ?_
      · walk_at "evs"
        exact h
      · walk_at "evs"
        rw [x_join (bells_join_ok M)]
        walk_at "evs"
        refine ⟨?_, ?_⟩
        · have := join_rows_len M
          have := join_bells_len M
          rw [add_len, e3]
          exact Nat.le_trans (show _ ≤ 3000 by omega) (by decide)
        · have e : millS ps (b :: br) = Str.join "; " (rowsS ps) ++ " | " ++ Str.join " " ((b :: br).map intS) := if_neg (by simp)
          rw [← e]
          exact hq
/-! ## numbers read -/
theorem is_number_ok {n : Int} {s : Str} (h : NumText n s) {st : List SO} {E : Str → List SO → Prop} {Q : D → List SO → Prop} (hq : Q (.bl true) st) : okF F_is_number [.str s] st E Q := by
  unfold F_is_number
  rw [okF_run]
  refine ⟨rfl, ?_⟩
  show okS b_is_number ⟨[some (.val (.str s)), none], st⟩ _
  unfold b_is_number
  have hne : ¬ s = "" := fun e => h.ne (by rw [e]; decide +kernel)
  have hl := h.len
  have hz : s.length ≤ sizeLine := Nat.le_trans (show s.length ≤ 1000 by omega) (by decide)
  refine seq_cut (fun s' => s' = ⟨[some (.val (.str s)), none], st⟩) ?_ ?_
  · walk_at "evs"
    rw [if_neg (by simpa using hne)]
    refine ⟨hz, ?_⟩
    rw [if_neg (by simp; omega)]
    trivial
  rintro _ rfl
  refine seq_cut (fun s' => ∃ x, s' = ⟨[some (.val (.str s)), x], st⟩) ?_ ?_
  · walk_at "evs"
    refine ⟨_, rfl, okS_forL (fun _ s' => ∃ x, s' = ⟨[some (.val (.str s)), x], st⟩) _ ⟨none, rfl⟩ ?_ ?_⟩
    · rintro i x _ hx ⟨y, rfl⟩
      obtain ⟨c, hc, e⟩ := List.mem_map.mp (List.mem_of_getElem? hx)
      subst e
      walk_at "evs"
      have hd := h.dig c hc
      have e : cIn true (.str ⟨#[c]⟩) (.str "0123456789") = some (.bl false) := by
        have : c = 48 ∨ c = 49 ∨ c = 50 ∨ c = 51 ∨ c = 52 ∨ c = 53 ∨ c = 54 ∨ c = 55 ∨ c = 56 ∨ c = 57 := by omega
        rcases this with e | e | e | e | e | e | e | e | e | e <;> subst e <;> rfl
      rw [e]
      walk_at "evs"
      exact ⟨_, rfl⟩
    · rintro _ ⟨x, rfl⟩
      exact ⟨x, rfl⟩
  rintro _ ⟨x, rfl⟩
  walk_at "evs"
  refine ⟨hz, ?_⟩
  have e1 : ("0" : Str).cps.toList = [48] := by decide +kernel
  rcases h.one with e | ⟨c, r, e, hc⟩
  · rw [if_pos (by rw [e]; decide)]
    exact hq
  · by_cases e1 : s.length = 1
    · rw [if_pos (by rw [e1]; decide)]
      exact hq
    · rw [if_neg (by simp; omega)]
      have ei : cIx (.str s) (.int 0) = some (.str ⟨#[c]⟩) := by
        show (if s.length ≤ sizeLine then (atI s.cps.toList 0).map _ else none) = _
        rw [if_pos hz, e]
        unfold atI
        rw [ixN_nat (by decide) (by rw [List.length_cons]; omega)]
        rfl
      rw [ei]
      walk_at "evs"
      have : ¬ (⟨#[c]⟩ : Str) = "0" := fun z => by
        have := congrArg (fun x : Str => x.cps.toList) z
        simp only at this
        rw [show ("0" : Str).cps.toList = [48] by decide +kernel] at this
        exact hc (by simpa using this)
      rw [decide_eq_false this]
      exact hq
theorem number_in_ok {n : Int} {s : Str} (h : NumText n s) {st : List SO} {E : Str → List SO → Prop} {Q : D → List SO → Prop} (hq : Q (.int n) st) : okF F_number_in [.str s] st E Q := by
  unfold F_number_in
  rw [okF_run]
  refine ⟨rfl, ?_⟩
  show okS b_number_in ⟨[some (.val (.str s))], st⟩ _
  unfold b_number_in
  walk_at "evs"
  refine is_number_ok h ?_
  walk_at "evs"
  have e : cInt (.str s) = some (.int n) := by
    show (if s.length ≤ 640 then (PySem.intText? s).map D.int else none) = _
    rw [if_pos (by have := h.len; omega), h.val]
    rfl
  rw [e]
  walk_at "evs"
  exact hq
/-! ## rows read -/
theorem space_c : (" " : Str).cps.toList = 32 :: [] := by decide +kernel
theorem semi_c : ("; " : Str).cps.toList = 59 :: [32] := by decide +kernel
theorem bar_c : (" | " : Str).cps.toList = [32] ++ 124 :: [32] := by decide +kernel
theorem row_in_ok {n : Int} {w : Str} {ns : List Int} (hp : RowP n (w, ns)) (h40 : n ≤ 40) {st : List SO} {E : Str → List SO → Prop} {Q : D → List SO → Prop} (hq : Q (rowD w ns) st) : okF F_row_in [.str (rowS w ns)] st E Q := by
  obtain ⟨h3, hn⟩ := rowp_num hp h40
  have h3 : ns.length ≤ 3 := h3
  have hn : ∀ x ∈ ns, 0 ≤ x ∧ x < 10 ^ 10 := hn
  have hw := word_ok hp.ex.choose_spec.1
  have hw : okWord w = true := hw
  have hlen : (rowS w ns).length ≤ 40 := rowS_len hp h40
  unfold F_row_in
  rw [okF_run]
  refine ⟨rfl, ?_⟩
  show okS b_row_in ⟨[some (.val (.str (rowS w ns))), none, none], st⟩ _
  unfold b_row_in
  have es : cSplit (.str (rowS w ns)) (.str " ") = some (.lst ((w :: ns.map intS).map D.str)) := by
    show (if _ ∧ _ then some (C.lst ((Txt.split (rowS w ns) " ").map D.str)) else none) = _
    rw [if_pos ⟨by decide +kernel, Nat.le_trans (show _ ≤ 1000 by omega) (by decide)⟩]
    unfold rowS
    rw [split_join space_c (by decide +kernel) (by simp) (fun p hp' => ?_)]
    rcases List.mem_cons.mp hp' with z | z
    · subst z
      exact fun hc => by have := word_letters hw 32 hc; omega
    · obtain ⟨x, hx, e⟩ := List.mem_map.mp z
      subst e
      exact fun hc => by have := (num_text (hn x hx).1 (hn x hx).2).dig 32 hc; omega
  walk_at "evs"
  rw [es]
  simp only [List.map_cons]
  walk_at "evs"
  rw [x_ix0L]
  try walk_at "evs"
  refine ⟨szl rfl, ?_⟩
  refine okM_lcMap' ((ns.map intS).map D.str) ⟨[some (.val (.str (rowS w ns))), some (.val (.lst (D.str w :: (ns.map intS).map D.str))), none], st⟩ (fun d => match d with | .str s => .int ((PySem.intText? s).getD 0) | _ => .non) (fun Q' h => ?_) ?_ ?_ ?_
  · walk_at "evs"
    rw [x_sl1L]
    walk_at "evs"
    exact h
  · rw [List.length_map, List.length_map]; exact Nat.lt_of_le_of_lt (show _ ≤ 1000 by omega) (by decide)
  · intro x hx
    obtain ⟨y, hy, e⟩ := List.mem_map.mp hx
    obtain ⟨z, hz, e2⟩ := List.mem_map.mp hy
    subst e e2
    have nt := num_text (hn z hz).1 (hn z hz).2
    walk_at "evs"
    refine number_in_ok nt ⟨rfl, ?_⟩
    show _ = D.int ((PySem.intText? (intS z)).getD 0)
    rw [nt.val]
    rfl
  have em : ((ns.map intS).map D.str).map (fun d => match d with | .str s => D.int ((PySem.intText? s).getD 0) | _ => .non) = ns.map D.int := by
    rw [List.map_map, List.map_map]
    refine List.map_congr_left fun z hz => ?_
    show D.int ((PySem.intText? (intS z)).getD 0) = _
    rw [(num_text (hn z hz).1 (hn z hz).2).val]
    rfl
  rw [em]
  try walk_at "evs"
  refine ⟨?_, hq⟩
  simp only [List.length_cons, List.length_nil, List.length_map]
  exact Nat.le_trans (show 0 + 1 + ns.length ≤ 1000 by omega) (by decide)
end Tw

namespace Tw
open PySem PySem.Spec PyProof.Rows L2 Ev
set_option maxHeartbeats 1000000 in
theorem limits_of_ok {n : Int} {w : Str} {ls : List Int} (h : lims n w = some ls) {st : List SO} {E : Str → List SO → Prop} {Q : D → List SO → Prop} (hq : Q (.lst (ls.map .int)) st) : okF F_limits_of [.str w, .int n] st E Q := by
  unfold F_limits_of
  rw [okF_run]
  refine ⟨rfl, ?_⟩
  show okS b_limits_of ⟨[some (.val (.str w)), some (.val (.int n))], st⟩ _
  unfold b_limits_of
  rcases word_cases h with e | (e | e | e) | (e | e) | e | e | e | e <;> subst e
  · rw [lims_put] at h; cases h; walk_at "evx"; exact ⟨szl rfl, hq⟩
  · rw [lims_sum] at h; cases h; walk_at "evx"; exact ⟨szl rfl, hq⟩
  · rw [lims_mul] at h; cases h; walk_at "evx"; exact ⟨szl rfl, hq⟩
  · rw [lims_less] at h; cases h; walk_at "evx"; exact ⟨szl rfl, hq⟩
  · rw [lims_take] at h; cases h; walk_at "evx"; exact ⟨szl rfl, hq⟩
  · rw [lims_lay] at h; cases h; walk_at "evx"; exact ⟨szl rfl, hq⟩
  · rw [lims_go] at h; cases h; walk_at "evx"; exact ⟨szl rfl, hq⟩
  · rw [lims_shut] at h; cases h; walk_at "evx"; exact ⟨szl rfl, hq⟩
  · rw [lims_open] at h; cases h; walk_at "evx"; exact ⟨szl rfl, hq⟩
  · rw [lims_home] at h; cases h; walk_at "evx"; exact ⟨szl rfl, hq⟩
theorem fits_get {ns ls : List Int} (h : Fits ns ls) : ∀ (i : Nat) (x : D), (zipD (ns.map .int) (ls.map .int))[i]? = some x → ∃ a l, x = .tup [.int a, .int l] ∧ 0 ≤ a ∧ a < l := by
  induction h with
  | nil => intro i x hx; cases hx
  | cons h0 h1 _ ih =>
    intro i x hx
    cases i with
    | zero =>
      cases hx
      exact ⟨_, _, rfl, h0, h1⟩
    | succ i => exact ih i x hx
theorem is_row_ok {n : Int} {w : Str} {ns : List Int} (hp : RowP n (w, ns)) {st : List SO} {E : Str → List SO → Prop} {Q : D → List SO → Prop} (hq : Q (.bl true) st) : okF F_is_row [rowD w ns, .int n] st E Q := by
  obtain ⟨ls, hl, hf⟩ := hp.ex
  have hl : lims n w = some ls := hl
  have hf : Fits ns ls := hf
  unfold F_is_row
  rw [okF_run]
  refine ⟨rfl, ?_⟩
  show okS b_is_row ⟨[some (.val (rowD w ns)), some (.val (.int n)), none, none, none], st⟩ _
  unfold b_is_row
  unfold rowD
  walk_at "evs"
  rw [x_ix0T]
  try walk_at "evs"
  refine limits_of_ok hl ?_
  walk_at "evs"
  have hlen := fits_len hf
  rw [if_neg (by simp only [List.length_cons, List.length_map, hlen]; simp)]
  rw [x_sl1T]
  walk_at "evs"
  refine okS_forL (fun _ s' => ∃ x y, s' = ⟨[some (.val (.tup (.str w :: ns.map .int))), some (.val (.int n)), some (.val (.lst (ls.map .int))), x, y], st⟩) _ ⟨_, _, rfl⟩ ?_ ?_
  · rintro i x _ hx ⟨u, v, rfl⟩
    obtain ⟨a, l, e, h0, h1⟩ := fits_get hf i x hx
    subst e
    walk_at "evs"
    rw [if_neg (by simp; omega), if_neg (by simp; omega)]
    exact ⟨_, _, rfl⟩
  · rintro _ ⟨u, v, rfl⟩
    walk_at "evs"
    exact hq
theorem mill_of_ok {ps : List (Str × List Int)} {bs : List Int} (M : Mill ps bs) {st : List SO} {E : Str → List SO → Prop} {Q : D → List SO → Prop} (hq : Q (millD ps bs) st) : okF F_mill_of [.lst (ps.map fun p => rowD p.1 p.2), .lst (bs.map .int)] st E Q := by
  unfold F_mill_of
  rw [okF_run]
  refine ⟨rfl, ?_⟩
  show okS b_mill_of ⟨[some (.val (.lst (ps.map fun p => rowD p.1 p.2))), some (.val (.lst (bs.map .int))), none, none, none], st⟩ _
  unfold b_mill_of
  have h1 := M.one
  have h2 := M.most
  have h4 := M.few
  walk_at "evs"
  rw [if_neg (by simp only [List.length_map]; simp; omega), if_neg (by simp only [List.length_map]; simp; omega), if_neg (by simp only [List.length_map]; simp; omega)]
  refine okS_forL (fun _ s' => ∃ x, s' = ⟨[some (.val (.lst (ps.map fun p => rowD p.1 p.2))), some (.val (.lst (bs.map .int))), some (.val (.int ps.length)), x, none], st⟩) _ ⟨none, by rw [List.length_map]⟩ ?_ ?_
  · rintro i x _ hx ⟨u, rfl⟩
    obtain ⟨p, hp, e⟩ := List.mem_map.mp (List.mem_of_getElem? hx)
    subst e
    walk_at "evs"
    refine is_row_ok (M.rows p hp) ?_
    walk_at "evs"
    exact ⟨_, rfl⟩
  · rintro _ ⟨u, rfl⟩
    walk_at "evs"
    refine okS_forL (fun _ s' => ∃ x, s' = ⟨[some (.val (.lst (ps.map fun p => rowD p.1 p.2))), some (.val (.lst (bs.map .int))), some (.val (.int ps.length)), u, x], st⟩) _ ⟨none, rfl⟩ ?_ ?_
    · rintro i x _ hx ⟨v, rfl⟩
      obtain ⟨b, hb, e⟩ := List.mem_map.mp (List.mem_of_getElem? hx)
      subst e
      have := M.to b hb
      walk_at "evs"
      rw [if_neg (by simp; omega), if_neg (by simp; omega)]
      exact ⟨_, rfl⟩
    · rintro _ ⟨v, rfl⟩
      walk_at "evs"
      exact ⟨szl rfl, hq⟩
end Tw

namespace Tw
open PySem PySem.Spec PyProof.Rows L2 Ev
theorem mem_join {y : Str} {c : Nat} : ∀ {ps : List Str}, c ∈ (Str.join y ps).cps.toList → c ∈ y.cps.toList ∨ ∃ p ∈ ps, c ∈ p.cps.toList
  | [], h => by
    have : (Str.join y []).cps.toList = [] := rfl
    rw [this] at h; simp at h
  | [p], h => .inr ⟨p, by simp, h⟩
  | p :: q :: r, h => by
    rw [join_cons, List.mem_append, List.mem_append] at h
    rcases h with h | h | h
    · exact .inr ⟨p, by simp, h⟩
    · exact .inl h
    · rcases mem_join h with h | ⟨z, hz, h⟩
      · exact .inl h
      · exact .inr ⟨z, by simp [List.mem_cons.mp hz |> fun x => x], h⟩
theorem rowS_signs {n : Int} {p : Str × List Int} (h : RowP n p) (hn : n ≤ 40) : ∀ c ∈ (rowS p.1 p.2).cps.toList, c = 32 ∨ (48 ≤ c ∧ c ≤ 57) ∨ (97 ≤ c ∧ c ≤ 122) := fun c hc => by
  obtain ⟨h3, hx⟩ := rowp_num h hn
  have hw := word_ok h.ex.choose_spec.1
  rcases mem_join hc with z | ⟨q, hq, z⟩
  · rw [space_c] at z
    exact .inl (by simpa using z)
  · rcases List.mem_cons.mp hq with e | hq
    · subst e; exact .inr (.inr (word_letters hw c z))
    · obtain ⟨x, hx', e⟩ := List.mem_map.mp hq
      subst e
      exact .inr (.inl ((num_text (hx x hx').1 (hx x hx').2).dig c z))
theorem rows_signs {ps : List (Str × List Int)} {bs : List Int} (M : Mill ps bs) : ∀ c ∈ (Str.join "; " (rowsS ps)).cps.toList, c ≠ 124 := fun c hc e => by
  rcases mem_join hc with z | ⟨q, hq, z⟩
  · rw [semi_c] at z
    simp at z
    omega
  · obtain ⟨p, hp, e2⟩ := List.mem_map.mp hq
    subst e2
    have := rowS_signs (M.rows p hp) (by have := M.most; omega) c z
    omega
theorem split_rows {ps : List (Str × List Int)} {bs : List Int} (M : Mill ps bs) : Txt.split (Str.join "; " (rowsS ps)) "; " = rowsS ps := by
  refine split_join semi_c (by decide +kernel) ?_ fun q hq => ?_
  · have := M.one
    intro e
    have e2 : (rowsS ps).length = ps.length := by simp [rowsS]
    rw [e] at e2
    have e2 : 0 = ps.length := e2
    omega
  · obtain ⟨p, hp, e2⟩ := List.mem_map.mp hq
    subst e2
    exact fun hc => by
      have := rowS_signs (M.rows p hp) (by have := M.most; omega) 59 hc
      omega
theorem split_bells {ps : List (Str × List Int)} {bs : List Int} (M : Mill ps bs) (hne : bs ≠ []) : Txt.split (Str.join " " (bs.map intS)) " " = bs.map intS := by
  refine split_join space_c (by decide +kernel) (by simpa using hne) fun q hq => ?_
  obtain ⟨b, hb, e2⟩ := List.mem_map.mp hq
  subst e2
  have hb' := M.bell b hb
  exact fun hc => by
    have := (num_text hb'.1 hb'.2).dig 32 hc
    omega
/-- what reading a number gives -/
def rdN : D → D
  | .str s => .int ((PySem.intText? s).getD 0)
  | _ => .non
theorem map_rdN {ns : List Int} (h : ∀ x ∈ ns, 0 ≤ x ∧ x < 10 ^ 10) : ((ns.map intS).map D.str).map rdN = ns.map .int := by
  rw [List.map_map, List.map_map]
  refine List.map_congr_left fun z hz => ?_
  show D.int ((PySem.intText? (intS z)).getD 0) = _
  rw [(num_text (h z hz).1 (h z hz).2).val]
  rfl
section
variable {ps : List (Str × List Int)} {bs : List Int} (M : Mill ps bs)
include M
/-- the rows of the head -/
theorem rows_read {t x1 x2 x4 x5 x6 x7 : Option C} {st : List SO} {E : Str → FSt → Prop} {Q : C → FSt → Prop}
    (hq : Q (.lst (ps.map fun p => rowD p.1 p.2)) ⟨[t, x1, x2, some (.val (.str (Str.join "; " (rowsS ps)))), x4, x5, keepC x6, x7], st⟩) :
    okM E (lcM (itemsM (fz (binS cSplit (get (slotV 3)) (ret (.str "; "))))) (gNameS 6) [6] tYesM (callM F_row_in [] (consM (get (slotV 6)) nilM))) ⟨[t, x1, x2, some (.val (.str (Str.join "; " (rowsS ps)))), x4, x5, x6, x7], st⟩ Q := by
  refine okM_lc' ((rowsS ps).map D.str) ⟨[t, x1, x2, some (.val (.str (Str.join "; " (rowsS ps)))), x4, x5, x6, x7], st⟩ (fun j ys st' => st' = st ∧ ys = (ps.take j).map fun p => rowD p.1 p.2) (fun Q' h => ?_) ?_ ⟨rfl, rfl⟩ ?_ ?_
  · walk_at "evs"
    have e : cSplit (.str (Str.join "; " (rowsS ps))) (.str "; ") = some (.lst ((rowsS ps).map D.str)) := by
      show (if _ ∧ _ then some (C.lst ((Txt.split (Str.join "; " (rowsS ps)) "; ").map D.str)) else none) = _
      rw [if_pos ⟨by decide +kernel, Nat.le_trans (show _ ≤ 3000 by have := join_rows_len M; omega) (by decide)⟩, split_rows M]
    rw [e]
    walk_at "evs"
    exact h
  · rw [List.length_map]
    unfold rowsS
    rw [List.length_map]
    exact Nat.lt_of_le_of_lt M.most (by decide)
  · rintro j x ys st' hx ⟨e1, e2⟩ hl
    subst e1 e2
    rw [List.getElem?_map] at hx
    cases hp : ps[j]? with
    | none =>
      unfold rowsS at hx
      rw [List.getElem?_map, hp] at hx
      cases hx
    | some p =>
      unfold rowsS at hx
      rw [List.getElem?_map, hp] at hx
      cases hx
      walk_at "evs"
      refine row_in_ok (M.rows p (List.mem_of_getElem? hp)) (by have := M.most; omega) ⟨rfl, ?_⟩
      rw [List.take_add_one, hp]
      simp
  · rintro ys st' ⟨e1, e2⟩ hl
    subst e1
    have el : ((rowsS ps).map D.str).length = ps.length := by simp [rowsS]
    rw [e2, el, List.take_length]
    walk_at "evs"
    exact hq
theorem bells_read (hne : bs ≠ []) {t x1 x2 x3 x4 x6 x7 : Option C} {st : List SO} {E : Str → FSt → Prop} {Q : C → FSt → Prop}
    (hq : Q (.lst (bs.map .int)) ⟨[t, x1, x2, x3, x4, some (.val (.str (Str.join " " (bs.map intS)))), x6, keepC x7], st⟩) :
    okM E (lcM (itemsM (fz (binS cSplit (get (slotV 5)) (ret (.str " "))))) (gNameS 7) [7] tYesM (callM F_number_in [] (consM (get (slotV 7)) nilM))) ⟨[t, x1, x2, x3, x4, some (.val (.str (Str.join " " (bs.map intS)))), x6, x7], st⟩ Q := by
  refine okM_lcMap' ((bs.map intS).map D.str) ⟨[t, x1, x2, x3, x4, some (.val (.str (Str.join " " (bs.map intS)))), x6, x7], st⟩ rdN (fun Q' h => ?_) ?_ ?_ ?_
  · walk_at "evs"
    have e : cSplit (.str (Str.join " " (bs.map intS))) (.str " ") = some (.lst ((bs.map intS).map D.str)) := by
      show (if _ ∧ _ then some (C.lst ((Txt.split (Str.join " " (bs.map intS)) " ").map D.str)) else none) = _
      rw [if_pos ⟨by decide +kernel, Nat.le_trans (show _ ≤ 3000 by have := join_bells_len M; omega) (by decide)⟩, split_bells M hne]
    rw [e]
    walk_at "evs"
    exact h
  · rw [List.length_map, List.length_map]
    exact Nat.lt_of_le_of_lt M.few (by decide)
  · intro x hx
    obtain ⟨y, hy, e⟩ := List.mem_map.mp hx
    obtain ⟨z, hz, e2⟩ := List.mem_map.mp hy
    subst e e2
    have nt := num_text (M.bell z hz).1 (M.bell z hz).2
    walk_at "evs"
    refine number_in_ok nt ⟨rfl, ?_⟩
    show _ = D.int ((PySem.intText? (intS z)).getD 0)
    rw [nt.val]
    rfl
  · rw [map_rdN M.bell]
    walk_at "evs"
    exact hq
theorem read_mill_ok {st : List SO} {E : Str → List SO → Prop} {Q : D → List SO → Prop} (hq : Q (millD ps bs) st) : okF F_read_mill [.str (millS ps bs)] st E Q := by
  unfold F_read_mill
  rw [okF_run]
  refine ⟨rfl, ?_⟩
  show okS b_read_mill ⟨[some (.val (.str (millS ps bs))), none, none, none, none, none, none, none], st⟩ _
  unfold b_read_mill
  have e3 : (" | " : Str).length = 3 := by decide +kernel
  have l1 := join_rows_len M
  have l2 := join_bells_len M
  by_cases hne : bs = []
  · have em : millS ps bs = Str.join "; " (rowsS ps) := if_pos hne
    rw [em]
    have ep : cPart (.str (Str.join "; " (rowsS ps))) (.str " | ") = some (.tup [.str (Str.join "; " (rowsS ps)), .str "", .str ""]) := by
      show (if _ ∧ _ then some (D.tup [.str (Txt.partition (Str.join "; " (rowsS ps)) " | ").1, .str (Txt.partition (Str.join "; " (rowsS ps)) " | ").2.1, .str (Txt.partition (Str.join "; " (rowsS ps)) " | ").2.2]) else none) = _
      rw [if_pos ⟨by decide +kernel, Nat.le_trans (show _ ≤ 3000 by omega) (by decide)⟩, part_no bar_c fun h => rows_signs M 124 h rfl]
      rfl
    walk_at "evs"
    rw [ep]
    walk_at "evs"
    refine rows_read M ?_
    walk_at "evs"
    refine ⟨szl rfl, ?_⟩
    subst hne
    exact mill_of_ok M hq
  · have em : millS ps bs = Str.join "; " (rowsS ps) ++ " | " ++ Str.join " " (bs.map intS) := if_neg hne
    rw [em]
    have ep : cPart (.str (Str.join "; " (rowsS ps) ++ " | " ++ Str.join " " (bs.map intS))) (.str " | ") = some (.tup [.str (Str.join "; " (rowsS ps)), .str " | ", .str (Str.join " " (bs.map intS))]) := by
      have hp : Txt.partition (Str.join "; " (rowsS ps) ++ " | " ++ Str.join " " (bs.map intS)) " | " = (Str.join "; " (rowsS ps), (" | " : Str), Str.join " " (bs.map intS)) :=
        part_at bar_c (by rw [toList_app, toList_app, List.append_assoc]) (fun h => rows_signs M 124 h rfl) (by simp)
      show (if _ ∧ _ then some (D.tup [.str (Txt.partition _ " | ").1, .str (Txt.partition _ " | ").2.1, .str (Txt.partition _ " | ").2.2]) else none) = _
      rw [if_pos ⟨by decide +kernel, by rw [add_len, add_len, e3]; exact Nat.le_trans (show _ ≤ 3000 by omega) (by decide)⟩, hp]
    walk_at "evs"
    rw [ep]
    walk_at "evs"
    refine rows_read M ?_
    walk_at "evs"
    refine ⟨szl rfl, ?_⟩
    have hs : ¬ (" | " : Str) = "" := by decide +kernel
    refine bells_read M hne ?_
    walk_at "evs"
    exact mill_of_ok M hq
end
end Tw

namespace Tw
open PySem PySem.Spec PyProof.Rows L2 Ev
/-! ## alike -/
mutual
inductive Pl : Nat → D → Prop
  | int {k : Nat} (i : Int) : Pl (k + 1) (.int i)
  | str {k : Nat} (s : Str) : Pl (k + 1) (.str s)
  | tup {k : Nat} {xs : List D} : Pls k xs → xs.length < 2 ^ 60 → Pl (k + 1) (.tup xs)
inductive Pls : Nat → List D → Prop
  | nil {k : Nat} : Pls k []
  | cons {k : Nat} {x : D} {xs : List D} : Pl k x → Pls k xs → Pls k (x :: xs)
end
theorem pls_mem {k : Nat} : ∀ {xs : List D}, Pls k xs → ∀ x ∈ xs, Pl k x
  | [], _, x, h => by simp at h
  | y :: ys, h, x, hx => by
    cases h with
    | cons h1 h2 =>
      rcases List.mem_cons.mp hx with z | z
      · subst z; exact h1
      · exact pls_mem h2 x z
theorem pls_of {k : Nat} : ∀ {xs : List D}, (∀ x ∈ xs, Pl k x) → Pls k xs
  | [], _ => .nil
  | y :: ys, h => .cons (h y (by simp)) (pls_of fun x hx => h x (by simp [hx]))
theorem isi {T t : String} {d : D} {Q : D → Prop} (h : tyN d = some t) : (∃ r, cIsi T d = some r ∧ Q r) = Q (.bl (isB t T)) := by
  unfold cIsi
  rw [h]
  simp
theorem bl_ne {a b : Bool} {Q : D → Prop} : (∃ r, cNe (.bl a) (.bl b) = some r ∧ Q r) = Q (.bl (!(D.eqv (.bl a) (.bl b)))) := by
  simp [cNe, D.fin, D.dep]
theorem alike_ok : ∀ (k : Nat) {d : D}, Pl k d → ∀ {st : List SO} {E : Str → List SO → Prop} {Q : D → List SO → Prop}, Q (.bl true) st → okF (F__law_alike_ k) [d, d] st E Q
  | 0, d, h, _, _, _, _ => by cases h
  | k + 1, d, h, st, E, Q, hq => by
    show okF (runF (b__law_alike (F__law_alike_ k)) 3 2) _ _ _ _
    rw [okF_run]
    refine ⟨rfl, ?_⟩
    show okS _ ⟨[some (.val d), some (.val d), none], st⟩ _
    unfold b__law_alike
    cases h with
    | int i =>
      walk_at "evs"
      rw [isi (t := "int") rfl]
      walk_at "evs"
      rw [if_neg (by decide)]
      rw [isi (t := "int") rfl]
      walk_at "evs"
      rw [if_pos (by decide), isi (t := "int") rfl]
      walk_at "evs"
      rw [if_pos (by decide), isi (t := "int") rfl]
      walk_at "evs"
      rw [if_pos (by decide)]
      exact hq
    | str s =>
      walk_at "evs"
      rw [isi (t := "str") rfl]
      walk_at "evs"
      rw [if_neg (by decide)]
      rw [isi (t := "str") rfl]
      walk_at "evs"
      rw [if_neg (by decide)]
      rw [isi (t := "str") rfl]
      walk_at "evs"
      rw [if_pos (by decide), isi (t := "str") rfl]
      walk_at "evs"
      rw [if_pos (by decide)]
      exact hq
    | tup hp hl =>
      rename_i xs
      walk_at "evs"
      rw [isi (t := "tuple") rfl]
      walk_at "evs"
      rw [if_neg (by decide)]
      rw [isi (t := "tuple") rfl]
      walk_at "evs"
      rw [if_neg (by decide)]
      rw [isi (t := "tuple") rfl]
      walk_at "evs"
      rw [if_neg (by decide)]
      rw [isi (t := "tuple") rfl, isi (t := "tuple") rfl]
      rw [bl_ne]
      walk_at "evs"
      rw [if_neg (by decide), isi (t := "tuple") rfl, isi (t := "tuple") rfl, bl_ne]
      walk_at "evs"
      rw [if_neg (by decide)]
      try walk_at "evs"
      refine ⟨⟨by omega, by have : (xs.length : Int) < 2 ^ 60 := by exact_mod_cast hl
                            omega⟩, ?_⟩
      refine okS_forL (fun _ s' => ∃ x, s' = ⟨[some (.val (.tup xs)), some (.val (.tup xs)), x], st⟩) _ ⟨_, rfl⟩ ?_ ?_
      · rintro i x _ hx ⟨u, rfl⟩
        have hi : i < xs.length := by
          have := (List.getElem?_eq_some_iff.mp hx).1
          simpa [rngD] using this
        have ex : x = .int i := by
          have : (rngD 0 xs.length)[i]? = some (.int (0 + i)) := by simp [rngD, hi]
          rw [this] at hx
          have := Option.some.inj hx
          rw [← this]; simp
        subst ex
        walk_at "evs"
        have ei : cIx (.tup xs) (.int i) = some xs[i] := by
          show atI xs i = _
          unfold atI
          rw [ixN_nat (by omega) (by omega)]
          simp [hi]
        rw [ei]
        walk_at "evs"
        refine alike_ok k (pls_mem hp _ (List.getElem_mem hi)) ?_
        walk_at "evs"
        exact ⟨_, rfl⟩
      · rintro _ ⟨u, rfl⟩
        walk_at "evs"
        exact hq
end Tw

namespace Tw
open PySem PySem.Spec PyProof.Rows L2 Ev
theorem x_append {d : D} {xs : List D} (h : xs.length < sizeLine) : mAppend xs [d] = some (xs ++ [d], .non) := by
  show (if xs.length < sizeLine then _ else _) = _
  rw [if_pos h]
theorem tray_ok {ns : List Int} (hn : ns.length ≤ 63) {E : Str → List SO → Prop} {Q : D → List SO → Prop} (hq : ∀ st, Tray 0 st → Q (.obj 0) st) : okF F__law_tray [.lst (ns.map .int)] [] E Q := by
  unfold F__law_tray
  rw [okF_run]
  refine ⟨rfl, ?_⟩
  show okS b__law_tray ⟨[some (.val (.lst (ns.map .int))), none, none, none, none], []⟩ _
  unfold b__law_tray
  try walk_at "evs"
  refine ⟨szl rfl, ?_⟩
  refine okS_forL (fun j s => ∃ (f : Int) (g : List Int) (x y : Option C), s = ⟨[some (.val (.lst (ns.map .int))), some (.val (.int f)), some (.lst (g.map .int)), x, y], []⟩ ∧ 0 ≤ f ∧ f < 2 ^ 61 ∧ g.length ≤ j ∧ ∀ z ∈ g, 0 ≤ z) _ ⟨_, [], _, _, rfl, by decide, by decide, by simp, by simp⟩ ?_ ?_
  · rintro j x _ hx ⟨f, g, u, v, rfl, f0, f1, hg, hz⟩
    obtain ⟨c, hc, e⟩ := List.mem_map.mp (List.mem_of_getElem? hx)
    subst e
    have hj : j < 63 := by
      have := (List.getElem?_eq_some_iff.mp hx).1
      rw [List.length_map] at this
      omega
    try walk_at "evs"
    have e61 : (2 : Int) ^ Int.toNat 61 - 1 = 2305843009213693951 := by decide
    have e18 : (10 : Int) ^ Int.toNat 18 = 1000000000000000000 := by decide
    rw [e61, e18]
    have m0 := Int.emod_nonneg (f * 1000003 + c) (show (2305843009213693951 : Int) ≠ 0 by decide)
    have m1 := Int.emod_lt_of_pos (f * 1000003 + c) (show (0 : Int) < 2305843009213693951 by decide)
    refine ⟨.inl (by omega), ⟨by decide, by decide, by decide⟩, by decide, ⟨by decide, by decide, by decide⟩, ?_⟩
    by_cases hs : (1000000000000000000 : Int) ≤ (if 0 - c > c then 0 - c else c)
    · rw [if_pos (decide_eq_true hs)]
      walk_at "evt"
      try walk_at "evs"
      generalize hsz : (if 0 - c > c then 0 - c else c) = z at hs ⊢
      refine ⟨⟨_, rfl⟩, ⟨by decide, by decide, by decide⟩, _, x_append (Nat.lt_of_le_of_lt (show _ ≤ 100 by rw [List.length_map]; omega) (by decide)), _, g ++ [z - 1000000000000000000], _, _, by rw [List.map_append]; rfl, m0, by omega, by rw [List.length_append, List.length_singleton]; omega, fun x hx => ?_⟩
      rcases List.mem_append.mp hx with q | q
      · exact hz x q
      · rw [List.mem_singleton.mp q]; omega
    · rw [if_neg (by simpa using hs)]
      exact ⟨_, g, _, _, rfl, m0, by omega, by omega, hz⟩
  · rintro _ ⟨f, g, u, v, rfl, f0, f1, hg, hz⟩
    try walk_at "evs"
    refine ⟨szl rfl, hq _ ⟨g, 0, f, 0, rfl, ?_, by decide, ⟨f0, f1⟩, by decide, by decide, hz⟩⟩
    rw [List.length_map] at hg
    omega
theorem pl_row {k : Nat} {w : Str} {ns : List Int} (h : ns.length < 1000) : Pl (k + 2) (rowD w ns) := by
  refine .tup (pls_of fun x hx => ?_) (by rw [List.length_cons, List.length_map]; omega)
  rcases List.mem_cons.mp hx with z | z
  · subst z; exact .str w
  · obtain ⟨i, _, e⟩ := List.mem_map.mp z
    subst e; exact .int i
theorem pl_mill {k : Nat} {ps : List (Str × List Int)} {bs : List Int} (M : Mill ps bs) : Pl (k + 4) (millD ps bs) := by
  refine .tup (.cons (.tup (pls_of fun x hx => ?_) (by rw [List.length_map]; have := M.most; omega)) (.cons (.tup (pls_of fun x hx => ?_) (by rw [List.length_map]; have := M.few; omega)) .nil)) (by show 2 < 2 ^ 60; decide)
  · obtain ⟨p, hp, e⟩ := List.mem_map.mp hx
    subst e
    exact pl_row (by have := (rowp_num (M.rows p hp) (by have := M.most; omega)).1; omega)
  · obtain ⟨i, _, e⟩ := List.mem_map.mp hx
    subst e; exact .int i
theorem x_slTo {xs : List D} {k : Int} {QC : C → Prop} : (∃ r, cSl (.lst xs) none (some k) = some r ∧ QC r) = QC (.lst (cutL xs none (some k))) := by
  show (∃ r, some (C.lst (cutL xs none (some k))) = some r ∧ QC r) = _
  rw [x_some]
theorem cut_len {α : Type} {xs : List α} {a b : Option Int} : (cutL xs a b).length ≤ xs.length := by
  unfold cutL
  rw [List.length_take, List.length_drop]
  omega
theorem alike8_ok {d : D} (h : Pl 8 d) {st : List SO} {E : Str → List SO → Prop} {Q : D → List SO → Prop} (hq : Q (.bl true) st) : okF F__law_alike [d, d] st E Q := by
  unfold F__law_alike
  exact alike_ok 8 h hq
theorem says_law : Says F_law := by
  intro ns hn _
  have h : okF F_law [.lst (ns.map .int)] [] (fun _ _ => False) fun d _ => d = .bl true := by
    unfold F_law
    rw [okF_run]
    refine ⟨rfl, ?_⟩
    show okS b_law ⟨[some (.val (.lst (ns.map .int))), none, none, none, none], []⟩ _
    unfold b_law
    try walk_at "evs"
    refine tray_ok hn fun st T => ?_
    try walk_at "evs"
    rw [x_slTo]
    try walk_at "evs"
    have hl := cut_len (xs := ns.map D.int) (a := none) (b := some 8)
    rw [List.length_map] at hl
    refine ⟨⟨by omega, by omega⟩, ?_⟩
    refine okS_forL (fun j s => ∃ (x y z : Option C) (st : List SO), s = ⟨[some (.val (.lst (ns.map .int))), some (.val (.obj 0)), x, y, z], st⟩ ∧ Tray (300 * j) st) _ ⟨_, _, _, _, rfl, by simpa using T⟩ ?_ ?_
    · rintro j x _ hx ⟨u, v, w, st, rfl, T⟩
      have hj : j < 64 := by
        have := (List.getElem?_eq_some_iff.mp hx).1
        rw [rng_len] at this
        omega
      try walk_at "evs"
      refine mill_ok T (by omega) (by omega) fun d st1 hd T1 => ?_
      obtain ⟨ps, bs, e, M⟩ := mill_of_is hd
      subst e
      try walk_at "evs"
      refine shown_ok M ?_
      try walk_at "evs"
      refine show_mill_ok M ?_
      refine alike8_ok (.str _) ?_
      try walk_at "evs"
      refine read_mill_ok M ?_
      have pm : Pl 8 (millD ps bs) := pl_mill (k := 4) M
      generalize millD ps bs = md at pm ⊢
      refine alike8_ok pm ?_
      try walk_at "evs"
      exact ⟨_, _, _, _, rfl, tray_mono T1 (by omega)⟩
    · rintro _ ⟨u, v, w, st, rfl, T⟩
      try walk_at "evs"
  obtain ⟨d, st, e, hd⟩ := h.ok
  exact ⟨st, by rw [e, hd]⟩
end Tw

namespace Tw
open PySem PySem.Spec PyProof.Rows L2 Ev
/-! ### the end -/
set_option maxHeartbeats 0 in
theorem all_mk {l : PySem.W.OpenLaw} {w : World} {K : PySem.W.Frag} {h : Heap} {mg : Str → Option Value} {fa : Addr} (X : K.In h) (G : h.Ns mainGlobals mg) (hfa : mg "law" = some (.ref fa))
    {f_limits_of : Addr} {oc_limits_of : Value} {od_limits_of an_limits_of : Option Addr} {sl_limits_of : Array (Option Value)} {kV_limits_of dc_limits_of pm_limits_of cd_limits_of ct_limits_of : Value}
    {f_is_row : Addr} {oc_is_row : Value} {od_is_row an_is_row : Option Addr} {sl_is_row : Array (Option Value)} {kV_is_row dc_is_row pm_is_row cd_is_row ct_is_row : Value}
    {f_mill_of : Addr} {oc_mill_of : Value} {od_mill_of an_mill_of : Option Addr} {sl_mill_of : Array (Option Value)} {kV_mill_of dc_mill_of pm_mill_of cd_mill_of ct_mill_of : Value}
    {f_show_row : Addr} {oc_show_row : Value} {od_show_row an_show_row : Option Addr} {sl_show_row : Array (Option Value)} {kV_show_row dc_show_row pm_show_row cd_show_row ct_show_row : Value}
    {f_show_mill : Addr} {oc_show_mill : Value} {od_show_mill an_show_mill : Option Addr} {sl_show_mill : Array (Option Value)} {kV_show_mill dc_show_mill pm_show_mill cd_show_mill ct_show_mill : Value}
    {f_is_number : Addr} {oc_is_number : Value} {od_is_number an_is_number : Option Addr} {sl_is_number : Array (Option Value)} {kV_is_number dc_is_number pm_is_number cd_is_number ct_is_number : Value}
    {f_number_in : Addr} {oc_number_in : Value} {od_number_in an_number_in : Option Addr} {sl_number_in : Array (Option Value)} {kV_number_in dc_number_in pm_number_in cd_number_in ct_number_in : Value}
    {f_row_in : Addr} {oc_row_in : Value} {od_row_in an_row_in : Option Addr} {sl_row_in : Array (Option Value)} {kV_row_in dc_row_in pm_row_in cd_row_in ct_row_in : Value}
    {f_read_mill : Addr} {oc_read_mill : Value} {od_read_mill an_read_mill : Option Addr} {sl_read_mill : Array (Option Value)} {kV_read_mill dc_read_mill pm_read_mill cd_read_mill ct_read_mill : Value}
    {f__law_tray : Addr} {oc__law_tray : Value} {od__law_tray an__law_tray : Option Addr} {sl__law_tray : Array (Option Value)} {kV__law_tray dc__law_tray pm__law_tray cd__law_tray ct__law_tray : Value}
    {f__law_draw : Addr} {oc__law_draw : Value} {od__law_draw an__law_draw : Option Addr} {sl__law_draw : Array (Option Value)} {kV__law_draw dc__law_draw pm__law_draw cd__law_draw ct__law_draw : Value}
    {f__law_worth : Addr} {oc__law_worth : Value} {od__law_worth an__law_worth : Option Addr} {sl__law_worth : Array (Option Value)} {kV__law_worth dc__law_worth pm__law_worth cd__law_worth ct__law_worth : Value}
    {f__law_row : Addr} {oc__law_row : Value} {od__law_row an__law_row : Option Addr} {sl__law_row : Array (Option Value)} {kV__law_row dc__law_row pm__law_row cd__law_row ct__law_row : Value}
    {f__law_mill : Addr} {oc__law_mill : Value} {od__law_mill an__law_mill : Option Addr} {sl__law_mill : Array (Option Value)} {kV__law_mill dc__law_mill pm__law_mill cd__law_mill ct__law_mill : Value}
    {f__law_alike : Addr} {oc__law_alike : Value} {od__law_alike an__law_alike : Option Addr} {sl__law_alike : Array (Option Value)} {kV__law_alike dc__law_alike pm__law_alike cd__law_alike ct__law_alike : Value}
    {f__law_shown : Addr} {oc__law_shown : Value} {od__law_shown an__law_shown : Option Addr} {sl__law_shown : Array (Option Value)} {kV__law_shown dc__law_shown pm__law_shown cd__law_shown ct__law_shown : Value}
    {f_law : Addr} {oc_law : Value} {od_law an_law : Option Addr} {sl_law : Array (Option Value)} {kV_law dc_law pm_law cd_law ct_law : Value}
    {t_CELLS : Tok}
    {t_FIGURES : Tok}
    {t_MOST_BELLS : Tok}
    {t_MOST_FIGURES : Tok}
    {t_MOST_ROWS : Tok}
    {t_SPOTS : Tok}
    {t_WORTHS : Tok}
    {x_NoMill : Addr}
    {x_NoText : Addr}
    (a_limits_of : PySem.W.nsIn K mainGlobals "limits_of" = some (some (.ref f_limits_of))) (l_limits_of : K.lookup f_limits_of = some ⟨oc_limits_of, od_limits_of, .func (PySem.W.fnOf "limits_of" "limits_of" (defArgs s_limits_of) (defBody s_limits_of) (defScope s_limits_of) .none kV_limits_of dc_limits_of pm_limits_of an_limits_of cd_limits_of ct_limits_of), sl_limits_of⟩) (c_limits_of : PySem.W.codeIn K cd_limits_of "limits_of" = true) (k_limits_of : PySem.W.keepIn K (.ref f_limits_of) = true)
    (a_is_row : PySem.W.nsIn K mainGlobals "is_row" = some (some (.ref f_is_row))) (l_is_row : K.lookup f_is_row = some ⟨oc_is_row, od_is_row, .func (PySem.W.fnOf "is_row" "is_row" (defArgs s_is_row) (defBody s_is_row) (defScope s_is_row) .none kV_is_row dc_is_row pm_is_row an_is_row cd_is_row ct_is_row), sl_is_row⟩) (c_is_row : PySem.W.codeIn K cd_is_row "is_row" = true) (k_is_row : PySem.W.keepIn K (.ref f_is_row) = true)
    (a_mill_of : PySem.W.nsIn K mainGlobals "mill_of" = some (some (.ref f_mill_of))) (l_mill_of : K.lookup f_mill_of = some ⟨oc_mill_of, od_mill_of, .func (PySem.W.fnOf "mill_of" "mill_of" (defArgs s_mill_of) (defBody s_mill_of) (defScope s_mill_of) .none kV_mill_of dc_mill_of pm_mill_of an_mill_of cd_mill_of ct_mill_of), sl_mill_of⟩) (c_mill_of : PySem.W.codeIn K cd_mill_of "mill_of" = true) (k_mill_of : PySem.W.keepIn K (.ref f_mill_of) = true)
    (a_show_row : PySem.W.nsIn K mainGlobals "show_row" = some (some (.ref f_show_row))) (l_show_row : K.lookup f_show_row = some ⟨oc_show_row, od_show_row, .func (PySem.W.fnOf "show_row" "show_row" (defArgs s_show_row) (defBody s_show_row) (defScope s_show_row) .none kV_show_row dc_show_row pm_show_row an_show_row cd_show_row ct_show_row), sl_show_row⟩) (c_show_row : PySem.W.codeIn K cd_show_row "show_row" = true) (k_show_row : PySem.W.keepIn K (.ref f_show_row) = true)
    (a_show_mill : PySem.W.nsIn K mainGlobals "show_mill" = some (some (.ref f_show_mill))) (l_show_mill : K.lookup f_show_mill = some ⟨oc_show_mill, od_show_mill, .func (PySem.W.fnOf "show_mill" "show_mill" (defArgs s_show_mill) (defBody s_show_mill) (defScope s_show_mill) .none kV_show_mill dc_show_mill pm_show_mill an_show_mill cd_show_mill ct_show_mill), sl_show_mill⟩) (c_show_mill : PySem.W.codeIn K cd_show_mill "show_mill" = true) (k_show_mill : PySem.W.keepIn K (.ref f_show_mill) = true)
    (a_is_number : PySem.W.nsIn K mainGlobals "is_number" = some (some (.ref f_is_number))) (l_is_number : K.lookup f_is_number = some ⟨oc_is_number, od_is_number, .func (PySem.W.fnOf "is_number" "is_number" (defArgs s_is_number) (defBody s_is_number) (defScope s_is_number) .none kV_is_number dc_is_number pm_is_number an_is_number cd_is_number ct_is_number), sl_is_number⟩) (c_is_number : PySem.W.codeIn K cd_is_number "is_number" = true) (k_is_number : PySem.W.keepIn K (.ref f_is_number) = true)
    (a_number_in : PySem.W.nsIn K mainGlobals "number_in" = some (some (.ref f_number_in))) (l_number_in : K.lookup f_number_in = some ⟨oc_number_in, od_number_in, .func (PySem.W.fnOf "number_in" "number_in" (defArgs s_number_in) (defBody s_number_in) (defScope s_number_in) .none kV_number_in dc_number_in pm_number_in an_number_in cd_number_in ct_number_in), sl_number_in⟩) (c_number_in : PySem.W.codeIn K cd_number_in "number_in" = true) (k_number_in : PySem.W.keepIn K (.ref f_number_in) = true)
    (a_row_in : PySem.W.nsIn K mainGlobals "row_in" = some (some (.ref f_row_in))) (l_row_in : K.lookup f_row_in = some ⟨oc_row_in, od_row_in, .func (PySem.W.fnOf "row_in" "row_in" (defArgs s_row_in) (defBody s_row_in) (defScope s_row_in) .none kV_row_in dc_row_in pm_row_in an_row_in cd_row_in ct_row_in), sl_row_in⟩) (c_row_in : PySem.W.codeIn K cd_row_in "row_in" = true) (k_row_in : PySem.W.keepIn K (.ref f_row_in) = true)
    (a_read_mill : PySem.W.nsIn K mainGlobals "read_mill" = some (some (.ref f_read_mill))) (l_read_mill : K.lookup f_read_mill = some ⟨oc_read_mill, od_read_mill, .func (PySem.W.fnOf "read_mill" "read_mill" (defArgs s_read_mill) (defBody s_read_mill) (defScope s_read_mill) .none kV_read_mill dc_read_mill pm_read_mill an_read_mill cd_read_mill ct_read_mill), sl_read_mill⟩) (c_read_mill : PySem.W.codeIn K cd_read_mill "read_mill" = true) (k_read_mill : PySem.W.keepIn K (.ref f_read_mill) = true)
    (a__law_tray : PySem.W.nsIn K mainGlobals "_law_tray" = some (some (.ref f__law_tray))) (l__law_tray : K.lookup f__law_tray = some ⟨oc__law_tray, od__law_tray, .func (PySem.W.fnOf "_law_tray" "_law_tray" (defArgs s__law_tray) (defBody s__law_tray) (defScope s__law_tray) .none kV__law_tray dc__law_tray pm__law_tray an__law_tray cd__law_tray ct__law_tray), sl__law_tray⟩) (c__law_tray : PySem.W.codeIn K cd__law_tray "_law_tray" = true) (k__law_tray : PySem.W.keepIn K (.ref f__law_tray) = true)
    (a__law_draw : PySem.W.nsIn K mainGlobals "_law_draw" = some (some (.ref f__law_draw))) (l__law_draw : K.lookup f__law_draw = some ⟨oc__law_draw, od__law_draw, .func (PySem.W.fnOf "_law_draw" "_law_draw" (defArgs s__law_draw) (defBody s__law_draw) (defScope s__law_draw) .none kV__law_draw dc__law_draw pm__law_draw an__law_draw cd__law_draw ct__law_draw), sl__law_draw⟩) (c__law_draw : PySem.W.codeIn K cd__law_draw "_law_draw" = true) (k__law_draw : PySem.W.keepIn K (.ref f__law_draw) = true)
    (a__law_worth : PySem.W.nsIn K mainGlobals "_law_worth" = some (some (.ref f__law_worth))) (l__law_worth : K.lookup f__law_worth = some ⟨oc__law_worth, od__law_worth, .func (PySem.W.fnOf "_law_worth" "_law_worth" (defArgs s__law_worth) (defBody s__law_worth) (defScope s__law_worth) .none kV__law_worth dc__law_worth pm__law_worth an__law_worth cd__law_worth ct__law_worth), sl__law_worth⟩) (c__law_worth : PySem.W.codeIn K cd__law_worth "_law_worth" = true) (k__law_worth : PySem.W.keepIn K (.ref f__law_worth) = true)
    (a__law_row : PySem.W.nsIn K mainGlobals "_law_row" = some (some (.ref f__law_row))) (l__law_row : K.lookup f__law_row = some ⟨oc__law_row, od__law_row, .func (PySem.W.fnOf "_law_row" "_law_row" (defArgs s__law_row) (defBody s__law_row) (defScope s__law_row) .none kV__law_row dc__law_row pm__law_row an__law_row cd__law_row ct__law_row), sl__law_row⟩) (c__law_row : PySem.W.codeIn K cd__law_row "_law_row" = true) (k__law_row : PySem.W.keepIn K (.ref f__law_row) = true)
    (a__law_mill : PySem.W.nsIn K mainGlobals "_law_mill" = some (some (.ref f__law_mill))) (l__law_mill : K.lookup f__law_mill = some ⟨oc__law_mill, od__law_mill, .func (PySem.W.fnOf "_law_mill" "_law_mill" (defArgs s__law_mill) (defBody s__law_mill) (defScope s__law_mill) .none kV__law_mill dc__law_mill pm__law_mill an__law_mill cd__law_mill ct__law_mill), sl__law_mill⟩) (c__law_mill : PySem.W.codeIn K cd__law_mill "_law_mill" = true) (k__law_mill : PySem.W.keepIn K (.ref f__law_mill) = true)
    (a__law_alike : PySem.W.nsIn K mainGlobals "_law_alike" = some (some (.ref f__law_alike))) (l__law_alike : K.lookup f__law_alike = some ⟨oc__law_alike, od__law_alike, .func (PySem.W.fnOf "_law_alike" "_law_alike" (defArgs s__law_alike) (defBody s__law_alike) (defScope s__law_alike) .none kV__law_alike dc__law_alike pm__law_alike an__law_alike cd__law_alike ct__law_alike), sl__law_alike⟩) (c__law_alike : PySem.W.codeIn K cd__law_alike "_law_alike" = true) (k__law_alike : PySem.W.keepIn K (.ref f__law_alike) = true)
    (a__law_shown : PySem.W.nsIn K mainGlobals "_law_shown" = some (some (.ref f__law_shown))) (l__law_shown : K.lookup f__law_shown = some ⟨oc__law_shown, od__law_shown, .func (PySem.W.fnOf "_law_shown" "_law_shown" (defArgs s__law_shown) (defBody s__law_shown) (defScope s__law_shown) .none kV__law_shown dc__law_shown pm__law_shown an__law_shown cd__law_shown ct__law_shown), sl__law_shown⟩) (c__law_shown : PySem.W.codeIn K cd__law_shown "_law_shown" = true) (k__law_shown : PySem.W.keepIn K (.ref f__law_shown) = true)
    (a_law : PySem.W.nsIn K mainGlobals "law" = some (some (.ref f_law))) (l_law : K.lookup f_law = some ⟨oc_law, od_law, .func (PySem.W.fnOf "law" "law" (defArgs s_law) (defBody s_law) (defScope s_law) .none kV_law dc_law pm_law an_law cd_law ct_law), sl_law⟩) (c_law : PySem.W.codeIn K cd_law "law" = true) (k_law : PySem.W.keepIn K (.ref f_law) = true)
    (g_CELLS : PySem.W.nsIn K mainGlobals "CELLS" = some (some (.int 16 t_CELLS)))
    (g_FIGURES : PySem.W.nsIn K mainGlobals "FIGURES" = some (some (.str "0123456789" t_FIGURES)))
    (g_MOST_BELLS : PySem.W.nsIn K mainGlobals "MOST_BELLS" = some (some (.int 4 t_MOST_BELLS)))
    (g_MOST_FIGURES : PySem.W.nsIn K mainGlobals "MOST_FIGURES" = some (some (.int 10 t_MOST_FIGURES)))
    (g_MOST_ROWS : PySem.W.nsIn K mainGlobals "MOST_ROWS" = some (some (.int 40 t_MOST_ROWS)))
    (g_SPOTS : PySem.W.nsIn K mainGlobals "SPOTS" = some (some (.int 8 t_SPOTS)))
    (g_WORTHS : PySem.W.nsIn K mainGlobals "WORTHS" = some (some (.int 4294967296 t_WORTHS)))
    (a_NoMill : PySem.W.nsIn K mainGlobals "NoMill" = some (some (.ref x_NoMill))) (k_NoMill : PySem.W.keepIn K (.ref x_NoMill) = true) (e_NoMill : PySem.W.excIn K x_NoMill [.type "ValueError", .type "Exception", .type "BaseException", .type "object"] "ValueError.__new__" = true) (s_NoMill : PySem.W.subIn K (.ref x_NoMill) (.type "BaseException") = some true) (t_NoMill : PySem.W.typeIn K (.ref x_NoMill) = some (.type "type"))
    (a_NoText : PySem.W.nsIn K mainGlobals "NoText" = some (some (.ref x_NoText))) (k_NoText : PySem.W.keepIn K (.ref x_NoText) = true) (e_NoText : PySem.W.excIn K x_NoText [.type "ValueError", .type "Exception", .type "BaseException", .type "object"] "ValueError.__new__" = true) (s_NoText : PySem.W.subIn K (.ref x_NoText) (.type "BaseException") = some true) (t_NoText : PySem.W.typeIn K (.ref x_NoText) = some (.type "type"))
    (z_bool : PySem.W.nsIn K mainGlobals "bool" = some none)
    (z_int : PySem.W.nsIn K mainGlobals "int" = some none)
    (z_isinstance : PySem.W.nsIn K mainGlobals "isinstance" = some none)
    (z_len : PySem.W.nsIn K mainGlobals "len" = some none)
    (z_list : PySem.W.nsIn K mainGlobals "list" = some none)
    (z_max : PySem.W.nsIn K mainGlobals "max" = some none)
    (z_range : PySem.W.nsIn K mainGlobals "range" = some none)
    (z_str : PySem.W.nsIn K mainGlobals "str" = some none)
    (z_tuple : PySem.W.nsIn K mainGlobals "tuple" = some none)
    (z_zip : PySem.W.nsIn K mainGlobals "zip" = some none) :
    ∃ fd : FuncData, (∀ (s : Shared) (u : Value), BindsTo s fd ⟨[u], []⟩ [("script", u)]) ∧ ∀ base : Heap, K.In base → base.Ns mainGlobals mg → FnOk l.prog w K mg base (L2.CX l.prog w) 9 fa fd ["script"] (spF K mg F_law 1) := by
  have e := hfa.symm.trans (PySem.W.mg_of X G a_law)
  cases e
  have T : Txt K mg := {
    d_limits_of := def_mk X G a_limits_of l_limits_of c_limits_of k_limits_of (fun _ _ _ _ _ _ us hl => match us, hl with | [_, _], _ => rfl),
    d_is_row := def_mk X G a_is_row l_is_row c_is_row k_is_row (fun _ _ _ _ _ _ us hl => match us, hl with | [_, _], _ => rfl),
    d_mill_of := def_mk X G a_mill_of l_mill_of c_mill_of k_mill_of (fun _ _ _ _ _ _ us hl => match us, hl with | [_, _], _ => rfl),
    d_show_row := def_mk X G a_show_row l_show_row c_show_row k_show_row (fun _ _ _ _ _ _ us hl => match us, hl with | [_], _ => rfl),
    d_show_mill := def_mk X G a_show_mill l_show_mill c_show_mill k_show_mill (fun _ _ _ _ _ _ us hl => match us, hl with | [_], _ => rfl),
    d_is_number := def_mk X G a_is_number l_is_number c_is_number k_is_number (fun _ _ _ _ _ _ us hl => match us, hl with | [_], _ => rfl),
    d_number_in := def_mk X G a_number_in l_number_in c_number_in k_number_in (fun _ _ _ _ _ _ us hl => match us, hl with | [_], _ => rfl),
    d_row_in := def_mk X G a_row_in l_row_in c_row_in k_row_in (fun _ _ _ _ _ _ us hl => match us, hl with | [_], _ => rfl),
    d_read_mill := def_mk X G a_read_mill l_read_mill c_read_mill k_read_mill (fun _ _ _ _ _ _ us hl => match us, hl with | [_], _ => rfl),
    d__law_tray := def_mk X G a__law_tray l__law_tray c__law_tray k__law_tray (fun _ _ _ _ _ _ us hl => match us, hl with | [_], _ => rfl),
    d__law_draw := def_mk X G a__law_draw l__law_draw c__law_draw k__law_draw (fun _ _ _ _ _ _ us hl => match us, hl with | [_, _], _ => rfl),
    d__law_worth := def_mk X G a__law_worth l__law_worth c__law_worth k__law_worth (fun _ _ _ _ _ _ us hl => match us, hl with | [_], _ => rfl),
    d__law_row := def_mk X G a__law_row l__law_row c__law_row k__law_row (fun _ _ _ _ _ _ us hl => match us, hl with | [_, _], _ => rfl),
    d__law_mill := def_mk X G a__law_mill l__law_mill c__law_mill k__law_mill (fun _ _ _ _ _ _ us hl => match us, hl with | [_], _ => rfl),
    d__law_alike := def_mk X G a__law_alike l__law_alike c__law_alike k__law_alike (fun _ _ _ _ _ _ us hl => match us, hl with | [_, _], _ => rfl),
    d__law_shown := def_mk X G a__law_shown l__law_shown c__law_shown k__law_shown (fun _ _ _ _ _ _ us hl => match us, hl with | [_], _ => rfl),
    g_CELLS := int_mk X G g_CELLS,
    g_FIGURES := str_mk X G g_FIGURES,
    g_MOST_BELLS := int_mk X G g_MOST_BELLS,
    g_MOST_FIGURES := int_mk X G g_MOST_FIGURES,
    g_MOST_ROWS := int_mk X G g_MOST_ROWS,
    g_SPOTS := int_mk X G g_SPOTS,
    g_WORTHS := int_mk X G g_WORTHS,
    x_NoMill := err_mk X G a_NoMill k_NoMill e_NoMill s_NoMill t_NoMill,
    x_NoText := err_mk X G a_NoText k_NoText e_NoText s_NoText t_NoText,
    z_bool := PySem.W.mg_none_of X G z_bool,
    z_int := PySem.W.mg_none_of X G z_int,
    z_isinstance := PySem.W.mg_none_of X G z_isinstance,
    z_len := PySem.W.mg_none_of X G z_len,
    z_list := PySem.W.mg_none_of X G z_list,
    z_max := PySem.W.mg_none_of X G z_max,
    z_range := PySem.W.mg_none_of X G z_range,
    z_str := PySem.W.mg_none_of X G z_str,
    z_tuple := PySem.W.mg_none_of X G z_tuple,
    z_zip := PySem.W.mg_none_of X G z_zip }
  refine ⟨PySem.W.fnOf "law" "law" (defArgs s_law) (defBody s_law) (defScope s_law) .none kV_law dc_law pm_law an_law cd_law ct_law, fun s v => .of_eq rfl, fun base _ _ => ?_⟩
  have c_limits_of := ok_limits_of (P := l.prog) (w := w) (base := base) T 
  have c_is_row := ok_is_row (P := l.prog) (w := w) (base := base) T c_limits_of
  have c_mill_of := ok_mill_of (P := l.prog) (w := w) (base := base) T c_is_row
  have c_show_row := ok_show_row (P := l.prog) (w := w) (base := base) T 
  have c_show_mill := ok_show_mill (P := l.prog) (w := w) (base := base) T c_show_row
  have c_is_number := ok_is_number (P := l.prog) (w := w) (base := base) T 
  have c_number_in := ok_number_in (P := l.prog) (w := w) (base := base) T c_is_number
  have c_row_in := ok_row_in (P := l.prog) (w := w) (base := base) T c_number_in
  have c_read_mill := ok_read_mill (P := l.prog) (w := w) (base := base) T c_mill_of c_number_in c_row_in
  have c__law_tray := ok__law_tray (P := l.prog) (w := w) (base := base) T 
  have c__law_draw := ok__law_draw (P := l.prog) (w := w) (base := base) T 
  have c__law_worth := ok__law_worth (P := l.prog) (w := w) (base := base) T c__law_draw
  have c__law_row := ok__law_row (P := l.prog) (w := w) (base := base) T c__law_draw c__law_worth
  have c__law_mill := ok__law_mill (P := l.prog) (w := w) (base := base) T c__law_draw c__law_row
  have c__law_alike := ok__law_alike (P := l.prog) (w := w) (base := base) T 
  have c__law_shown := ok__law_shown (P := l.prog) (w := w) (base := base) T 
  exact ok_law T (fun_mk (st := s_law) l_law c_law k_law) c__law_alike c__law_mill c__law_shown c__law_tray c_read_mill c_show_mill
end Tw
open PySem PySem.W PyProof.Rows in
set_option maxRecDepth 100000 in
set_option maxHeartbeats 0 in
theorem PySem.Challenge.cw_twomakes_k04_written_and_read_holds : PySem.Challenge.rw_twomakes_k04_written_and_read.Holds := by
  w_on; o_law; k_head; (case hw => w_witness2)
  k_fill
  refine Ev.walk_says (l := PySem.Challenge.rw_twomakes_k04_written_and_read) (k := 9) Tw.says_law rfl rfl ⟨rfl, by decide, by decide⟩ (fun w h Y => PySem.W.kIn_of Y) ?F
  case F =>
    intro w mg fa h KX G hmg
    refine' Tw.all_mk KX G hmg ?a_limits_of ?l_limits_of ?c_limits_of ?k_limits_of ?a_is_row ?l_is_row ?c_is_row ?k_is_row ?a_mill_of ?l_mill_of ?c_mill_of ?k_mill_of ?a_show_row ?l_show_row ?c_show_row ?k_show_row ?a_show_mill ?l_show_mill ?c_show_mill ?k_show_mill ?a_is_number ?l_is_number ?c_is_number ?k_is_number ?a_number_in ?l_number_in ?c_number_in ?k_number_in ?a_row_in ?l_row_in ?c_row_in ?k_row_in ?a_read_mill ?l_read_mill ?c_read_mill ?k_read_mill ?a__law_tray ?l__law_tray ?c__law_tray ?k__law_tray ?a__law_draw ?l__law_draw ?c__law_draw ?k__law_draw ?a__law_worth ?l__law_worth ?c__law_worth ?k__law_worth ?a__law_row ?l__law_row ?c__law_row ?k__law_row ?a__law_mill ?l__law_mill ?c__law_mill ?k__law_mill ?a__law_alike ?l__law_alike ?c__law_alike ?k__law_alike ?a__law_shown ?l__law_shown ?c__law_shown ?k__law_shown ?a_law ?l_law ?c_law ?k_law ?g_CELLS ?g_FIGURES ?g_MOST_BELLS ?g_MOST_FIGURES ?g_MOST_ROWS ?g_SPOTS ?g_WORTHS ?a_NoMill ?k_NoMill ?e_NoMill ?s_NoMill ?t_NoMill ?a_NoText ?k_NoText ?e_NoText ?s_NoText ?t_NoText ?z_bool ?z_int ?z_isinstance ?z_len ?z_list ?z_max ?z_range ?z_str ?z_tuple ?z_zip
    (case a_limits_of => k_is)
    (case l_limits_of => k_is)
    (case c_limits_of => k_is)
    (case k_limits_of => k_is)
    (case a_is_row => k_is)
    (case l_is_row => k_is)
    (case c_is_row => k_is)
    (case k_is_row => k_is)
    (case a_mill_of => k_is)
    (case l_mill_of => k_is)
    (case c_mill_of => k_is)
    (case k_mill_of => k_is)
    (case a_show_row => k_is)
    (case l_show_row => k_is)
    (case c_show_row => k_is)
    (case k_show_row => k_is)
    (case a_show_mill => k_is)
    (case l_show_mill => k_is)
    (case c_show_mill => k_is)
    (case k_show_mill => k_is)
    (case a_is_number => k_is)
    (case l_is_number => k_is)
    (case c_is_number => k_is)
    (case k_is_number => k_is)
    (case a_number_in => k_is)
    (case l_number_in => k_is)
    (case c_number_in => k_is)
    (case k_number_in => k_is)
    (case a_row_in => k_is)
    (case l_row_in => k_is)
    (case c_row_in => k_is)
    (case k_row_in => k_is)
    (case a_read_mill => k_is)
    (case l_read_mill => k_is)
    (case c_read_mill => k_is)
    (case k_read_mill => k_is)
    (case a__law_tray => k_is)
    (case l__law_tray => k_is)
    (case c__law_tray => k_is)
    (case k__law_tray => k_is)
    (case a__law_draw => k_is)
    (case l__law_draw => k_is)
    (case c__law_draw => k_is)
    (case k__law_draw => k_is)
    (case a__law_worth => k_is)
    (case l__law_worth => k_is)
    (case c__law_worth => k_is)
    (case k__law_worth => k_is)
    (case a__law_row => k_is)
    (case l__law_row => k_is)
    (case c__law_row => k_is)
    (case k__law_row => k_is)
    (case a__law_mill => k_is)
    (case l__law_mill => k_is)
    (case c__law_mill => k_is)
    (case k__law_mill => k_is)
    (case a__law_alike => k_is)
    (case l__law_alike => k_is)
    (case c__law_alike => k_is)
    (case k__law_alike => k_is)
    (case a__law_shown => k_is)
    (case l__law_shown => k_is)
    (case c__law_shown => k_is)
    (case k__law_shown => k_is)
    (case a_law => k_is)
    (case l_law => k_is)
    (case c_law => k_is)
    (case k_law => k_is)
    (case g_CELLS => k_is)
    (case g_FIGURES => k_is)
    (case g_MOST_BELLS => k_is)
    (case g_MOST_FIGURES => k_is)
    (case g_MOST_ROWS => k_is)
    (case g_SPOTS => k_is)
    (case g_WORTHS => k_is)
    (case a_NoMill => k_is)
    (case k_NoMill => k_is)
    (case e_NoMill => k_exc)
    (case s_NoMill => k_is)
    (case t_NoMill => k_is)
    (case a_NoText => k_is)
    (case k_NoText => k_is)
    (case e_NoText => k_exc)
    (case s_NoText => k_is)
    (case t_NoText => k_is)
    (case z_bool => k_is)
    (case z_int => k_is)
    (case z_isinstance => k_is)
    (case z_len => k_is)
    (case z_list => k_is)
    (case z_max => k_is)
    (case z_range => k_is)
    (case z_str => k_is)
    (case z_tuple => k_is)
    (case z_zip => k_is)

