import PyProof.Rows.All
import Wide.All
import OpenK.AllK
import Wide.FinOn
import HandS.ForMost
import HandS.IsInst
import HandS.TupAny
import HandS.TupMul
import HandS.Style
import HandS.Zip
import HandS.Deep
import HandS.NoneIn
import HandS.HeadEnd
import HandS.Defaults
import HandS.Wide
import HandS.Conv
import HandS.Set
import HandS.Comp
import HandS.Strs
import HandS.More
import PyProof.Rows.SortShellAny
import HandS.DictComp
import PyProof.TupleIter
import PyProof.EnumMake
import HandS.SortKw
import PyProof.ZipIter
import PyProof.WalkInts
import PyProof.ReprRoads
import PyProof.ReprLen
import HandS.SortInts
import KE.KStateDown
import HandS.Head0
import HandS.Head1
import HandS.Head2
import HandS.HeadHook1
import HandS.HeadHook2
import PyProof.Rows.ReprOcc
import PyProof.Rows.StrJoinMade
import PySem.Challenge.RW_shelflikes_k02_shelves_put_together
set_option Elab.async false
set_option linter.all false
set_option autoImplicit false
set_option maxRecDepth 100000
set_option maxHeartbeats 0
namespace Sv
open PySem PySem.Spec PyProof.Rows L2
inductive D where
  | non | bl (b : Bool) | int (i : Int) | str (x : Str) | tup (xs : List D) | lst (xs : List D) | dK (kvs : List (Key × D)) | dT (kvs : List (List Key × D)) | scr (ns : List Int) | hid (ds : List D)
  deriving Inhabited
def SqF (K : PySem.W.Frag) (H : Hp) (a : Addr) (xs : List V) : Prop := ∃ o, H a = some (.frz o (.lst xs))
/-- the script: locked, or an object of the module -/
def SqS (K : PySem.W.Frag) (H : Hp) (a : Addr) (xs : List V) : Prop :=
  (∃ o, H a = some (.frz o (.lst xs))) ∨
    ∃ (o : Obj) (its : Array Value) (n : Nat), K.lookup a = some o ∧ o.cls = .type "list" ∧ o.dict = none ∧ o.data = .seq its n ∧ its.size ≤ sizeLine ∧ Vals xs its.toList
mutual
def Rp (K : PySem.W.Frag) (H : Hp) : D → V → Prop
  | .non, v => v = .non
  | .bl b, v => v = .bl b
  | .int i, v => v = .int i
  | .str x, v => v = .str x ∧ PyData.strOk x = true
  | .tup ds, v => ∃ a vs, v = .ref a ∧ SqT K H a vs ∧ RpL K H ds vs
  | .lst ds, v => ∃ a vs, v = .ref a ∧ SqF K H a vs ∧ RpL K H ds vs
  | .dK kvs, v => ∃ a o ws, v = .ref a ∧ H a = some (.frz o (.dK ws)) ∧ RpK K H kvs ws
  | .dT kvs, v => ∃ a o ws, v = .ref a ∧ H a = some (.frz o (.dT ws)) ∧ RpT K H kvs ws
  | .scr ns, v => ∃ a, v = .ref a ∧ SqS K H a (ns.map V.int)
  | .hid ds, v => ∃ a o vs, v = .ref a ∧ H a = some (.frz o (.frz o (.lst vs))) ∧ RpL K H ds vs
def RpL (K : PySem.W.Frag) (H : Hp) : List D → List V → Prop
  | [], vs => vs = []
  | d :: ds, vs => ∃ v r, vs = v :: r ∧ Rp K H d v ∧ RpL K H ds r
def RpK (K : PySem.W.Frag) (H : Hp) : List (Key × D) → List (Key × V) → Prop
  | [], vs => vs = []
  | (k, d) :: ds, vs => ∃ v r, vs = (k, v) :: r ∧ Rp K H d v ∧ RpK K H ds r
def RpT (K : PySem.W.Frag) (H : Hp) : List (List Key × D) → List (List Key × V) → Prop
  | [], vs => vs = []
  | (k, d) :: ds, vs => ∃ v r, vs = (k, v) :: r ∧ Rp K H d v ∧ RpT K H ds r
end
end Sv

namespace Sv
open PySem PySem.Spec PyProof.Rows L2
/-! what never changes -/
def Imm : HO → Prop
  | .tup _ => True
  | .frz _ _ => True
  | _ => False
def Per (H H' : Hp) : Prop := ∀ a o, Imm o → H a = some o → H' a = some o
theorem Per.refl (H : Hp) : Per H H := fun _ _ _ h => h
theorem Per.trans {H H1 H2 : Hp} (a : Per H H1) (b : Per H1 H2) : Per H H2 := fun x o i h => b x o i (a x o i h)
theorem Per.of_same {H H' : Hp} (s : ∀ a o, H a = some o → H' a = some o) : Per H H' := fun a o _ h => s a o h
section
variable {K : PySem.W.Frag} {H H' : Hp}
theorem sqT_per {a : Addr} {xs : List V} (p : Per H H') (h : SqT K H a xs) : SqT K H' a xs := by
  rcases h with (h | ⟨o, h⟩) | h
  · exact .inl (.inl (p _ _ trivial h))
  · exact .inl (.inr ⟨o, p _ _ trivial h⟩)
  · exact .inr h
theorem sqF_per {a : Addr} {xs : List V} (p : Per H H') (h : SqF K H a xs) : SqF K H' a xs := by
  obtain ⟨o, h⟩ := h
  exact ⟨o, p _ _ trivial h⟩
theorem sqF_sq {a : Addr} {xs : List V} (h : SqF K H a xs) : SqL K H a xs := by
  obtain ⟨o, h⟩ := h
  exact .inl (.inr ⟨o, h⟩)
theorem sqS_per {a : Addr} {xs : List V} (p : Per H H') (h : SqS K H a xs) : SqS K H' a xs := by
  rcases h with ⟨o, h⟩ | h
  · exact .inl ⟨o, p _ _ trivial h⟩
  · exact .inr h
theorem sqS_sq {a : Addr} {xs : List V} (h : SqS K H a xs) : SqL K H a xs := by
  rcases h with ⟨o, h⟩ | h
  · exact .inl (.inr ⟨o, h⟩)
  · exact .inr h
mutual
theorem Rp.per (p : Per H H') : ∀ (d : D) (v : V), Rp K H d v → Rp K H' d v
  | .non, _, h => by simpa only [Rp] using h
  | .bl _, _, h => by simpa only [Rp] using h
  | .int _, _, h => by simpa only [Rp] using h
  | .str _, _, h => by simpa only [Rp] using h
  | .tup ds, v, h => by
    simp only [Rp] at h ⊢
    obtain ⟨a, vs, e, hs, hl⟩ := h
    exact ⟨a, vs, e, sqT_per p hs, RpL.per p ds vs hl⟩
  | .lst ds, v, h => by
    simp only [Rp] at h ⊢
    obtain ⟨a, vs, e, hs, hl⟩ := h
    exact ⟨a, vs, e, sqF_per p hs, RpL.per p ds vs hl⟩
  | .dK ds, v, h => by
    simp only [Rp] at h ⊢
    obtain ⟨a, o, vs, e, hs, hl⟩ := h
    exact ⟨a, o, vs, e, p _ _ trivial hs, RpK.per p ds vs hl⟩
  | .dT ds, v, h => by
    simp only [Rp] at h ⊢
    obtain ⟨a, o, vs, e, hs, hl⟩ := h
    exact ⟨a, o, vs, e, p _ _ trivial hs, RpT.per p ds vs hl⟩
  | .scr ns, v, h => by
    simp only [Rp] at h ⊢
    obtain ⟨a, e, hs⟩ := h
    exact ⟨a, e, sqS_per p hs⟩
  | .hid ds, v, h => by
    simp only [Rp] at h ⊢
    obtain ⟨a, o, vs, e, hs, hl⟩ := h
    exact ⟨a, o, vs, e, p _ _ trivial hs, RpL.per p ds vs hl⟩
theorem RpL.per (p : Per H H') : ∀ (ds : List D) (vs : List V), RpL K H ds vs → RpL K H' ds vs
  | [], vs, h => by simpa only [RpL] using h
  | d :: ds, vs, h => by
    simp only [RpL] at h ⊢
    obtain ⟨v, r, e, h1, h2⟩ := h
    exact ⟨v, r, e, Rp.per p d v h1, RpL.per p ds r h2⟩
theorem RpK.per (p : Per H H') : ∀ (ds : List (Key × D)) (vs : List (Key × V)), RpK K H ds vs → RpK K H' ds vs
  | [], vs, h => by simpa only [RpK] using h
  | (k, d) :: ds, vs, h => by
    simp only [RpK] at h ⊢
    obtain ⟨v, r, e, h1, h2⟩ := h
    exact ⟨v, r, e, Rp.per p d v h1, RpK.per p ds r h2⟩
theorem RpT.per (p : Per H H') : ∀ (ds : List (List Key × D)) (vs : List (List Key × V)), RpT K H ds vs → RpT K H' ds vs
  | [], vs, h => by simpa only [RpT] using h
  | (k, d) :: ds, vs, h => by
    simp only [RpT] at h ⊢
    obtain ⟨v, r, e, h1, h2⟩ := h
    exact ⟨v, r, e, Rp.per p d v h1, RpT.per p ds r h2⟩
end
end
/-! a cell of one's own -/
def Cel (K : PySem.W.Frag) (H : Hp) : D → Addr → Prop
  | .lst ds, a => ∃ vs, H a = some (.lst vs) ∧ RpL K H ds vs
  | .dK kvs, a => ∃ ws, H a = some (.dK ws) ∧ RpK K H kvs ws
  | .dT kvs, a => ∃ ws, H a = some (.dT ws) ∧ RpT K H kvs ws
  | _, _ => False
/-- what is there of a cell: tracked, may change -/
theorem Cel.mut {K : PySem.W.Frag} {H : Hp} {d : D} {a : Addr} (h : Cel K H d a) : ∃ u, H a = some u ∧ ¬ Imm u := by
  cases d <;> simp only [Cel] at h
  · obtain ⟨vs, e, _⟩ := h; exact ⟨_, e, id⟩
  · obtain ⟨vs, e, _⟩ := h; exact ⟨_, e, id⟩
  · obtain ⟨vs, e, _⟩ := h; exact ⟨_, e, id⟩
theorem Cel.keep {K : PySem.W.Frag} {H H' : Hp} {d : D} {a : Addr} (p : Per H H') (k : ∀ o, H a = some o → H' a = some o) (h : Cel K H d a) : Cel K H' d a := by
  cases d <;> simp only [Cel] at h ⊢
  · obtain ⟨vs, e, r⟩ := h; exact ⟨vs, k _ e, RpL.per p _ _ r⟩
  · obtain ⟨vs, e, r⟩ := h; exact ⟨vs, k _ e, RpK.per p _ _ r⟩
  · obtain ⟨vs, e, r⟩ := h; exact ⟨vs, k _ e, RpT.per p _ _ r⟩
/-- readable: what never changes, or a cell as it stands -/
def RpR (K : PySem.W.Frag) (H : Hp) (d : D) (v : V) : Prop := Rp K H d v ∨ ∃ a, v = .ref a ∧ Cel K H d a
theorem RpR.lst {K : PySem.W.Frag} {H : Hp} {ds : List D} {v : V} (h : RpR K H (.lst ds) v) : ∃ a vs, v = .ref a ∧ SqL K H a vs ∧ RpL K H ds vs := by
  rcases h with h | ⟨a, e, h⟩
  · simp only [Rp] at h
    obtain ⟨a, vs, e, hs, hl⟩ := h
    exact ⟨a, vs, e, sqF_sq hs, hl⟩
  · simp only [Cel] at h
    obtain ⟨vs, e', r⟩ := h
    exact ⟨a, vs, e, SqL.of e', r⟩
theorem RpR.rd {K : PySem.W.Frag} {H : Hp} {ds : List D} {v : V} (h : RpR K H (.lst ds) v) : ∃ a vs, v = .ref a ∧ Rd H a (.lst vs) ∧ RpL K H ds vs := by
  rcases h with h | ⟨a, e, h⟩
  · simp only [Rp] at h
    obtain ⟨a, vs, e, ⟨o, hs⟩, hl⟩ := h
    exact ⟨a, vs, e, .inr ⟨o, hs⟩, hl⟩
  · simp only [Cel] at h
    obtain ⟨vs, e', r⟩ := h
    exact ⟨a, vs, e, .inl e', r⟩
theorem RpR.scr {K : PySem.W.Frag} {H : Hp} {ns : List Int} {v : V} (h : RpR K H (.scr ns) v) : ∃ a, v = .ref a ∧ SqL K H a (ns.map V.int) := by
  rcases h with h | ⟨a, e, h⟩
  · simp only [Rp] at h
    obtain ⟨a, e, hs⟩ := h
    exact ⟨a, e, sqS_sq hs⟩
  · exact absurd h (by simp [Cel])
theorem RpR.tup {K : PySem.W.Frag} {H : Hp} {ds : List D} {v : V} (h : RpR K H (.tup ds) v) : ∃ a vs, v = .ref a ∧ SqT K H a vs ∧ RpL K H ds vs := by
  rcases h with h | ⟨a, e, h⟩
  · simpa only [Rp] using h
  · exact absurd h (by simp [Cel])
theorem RpR.int {K : PySem.W.Frag} {H : Hp} {i : Int} {v : V} (h : RpR K H (.int i) v) : v = .int i := by
  rcases h with h | ⟨a, e, h⟩
  · simpa only [Rp] using h
  · exact absurd h (by simp [Cel])
theorem RpR.str {K : PySem.W.Frag} {H : Hp} {i : Str} {v : V} (h : RpR K H (.str i) v) : v = .str i ∧ PyData.strOk i = true := by
  rcases h with h | ⟨a, e, h⟩
  · simpa only [Rp] using h
  · exact absurd h (by simp [Cel])
theorem RpR.bl {K : PySem.W.Frag} {H : Hp} {i : Bool} {v : V} (h : RpR K H (.bl i) v) : v = .bl i := by
  rcases h with h | ⟨a, e, h⟩
  · simpa only [Rp] using h
  · exact absurd h (by simp [Cel])
theorem RpR.non {K : PySem.W.Frag} {H : Hp} {v : V} (h : RpR K H .non v) : v = .non := by
  rcases h with h | ⟨a, e, h⟩
  · simpa only [Rp] using h
  · exact absurd h (by simp [Cel])

/-! the slots -/
inductive Sl where
  | no | sh (d : D) | ow (d : D) | io (d : D)
  deriving Inhabited
abbrev Gm := List Sl
def Own (Γ : Gm) (i : Nat) (d : D) : Prop := Γ[i]? = some (.ow d) ∨ Γ[i]? = some (.io d)
def Cell (Γ : Gm) (σ : L2.St) (a : Addr) : Prop := ∃ i d, Own Γ i d ∧ σ[i]? = some (some (.ref a))
structure EnvOk (K : PySem.W.Frag) (Γ : Gm) (σ : L2.St) (H : Hp) : Prop where
  sh : ∀ (i : Nat) (d : D), Γ[i]? = some (Sl.sh d) → ∃ v, σ[i]? = some (some v) ∧ Rp K H d v
  mu : ∀ (i : Nat) (d : D), Own Γ i d → ∃ a, σ[i]? = some (some (.ref a)) ∧ Cel K H d a
  df : ∀ (i j : Nat) (d e : D) (a : Addr), Own Γ i d → Own Γ j e → σ[i]? = some (some (.ref a)) → σ[j]? = some (some (.ref a)) → i = j
  len : σ.length = Γ.length
section
variable {K : PySem.W.Frag} {Γ Γ' Γ1 Γ2 : Gm} {σ σ' σ1 σ2 : L2.St} {H H' H1 H2 : Hp} {a : Addr}
theorem EnvOk.cell (e : EnvOk K Γ σ H) (c : Cell Γ σ a) : ∃ d, Cel K H d a := by
  obtain ⟨i, d, o, h⟩ := c
  obtain ⟨b, h', c⟩ := e.mu i d o
  rw [h] at h'
  injection h' with h'
  injection h' with h'
  injection h' with h'
  subst h'
  exact ⟨d, c⟩
theorem EnvOk.cellMut (e : EnvOk K Γ σ H) (c : Cell Γ σ a) : ∃ u, H a = some u ∧ ¬ Imm u := by
  obtain ⟨d, c⟩ := e.cell c
  exact c.mut
/-- from one state to a later one -/
structure Ste (K : PySem.W.Frag) (Γ : Gm) (σ : L2.St) (H : Hp) (Γ' : Gm) (σ' : L2.St) (H' : Hp) : Prop where
  e0 : EnvOk K Γ σ H
  env : EnvOk K Γ' σ' H'
  keep : ∀ (a : Addr) (o : HO), H a = some o → ¬ Cell Γ σ a → H' a = some o
  live : ∀ a, H' a = none → H a = none
  sub : ∀ a, Cell Γ' σ' a → Cell Γ σ a ∨ H a = none
  io : ∀ (i : Nat) (d : D), Γ[i]? = some (Sl.io d) → (∃ d' : D, Γ'[i]? = some (Sl.io d')) ∧ σ'[i]? = σ[i]?
  gl : Γ'.length = Γ.length
  sl : σ'.length = σ.length
theorem Ste.refl (e : EnvOk K Γ σ H) : Ste K Γ σ H Γ σ H := ⟨e, e, fun _ _ h _ => h, fun _ h => h, fun _ h => .inl h, fun i d h => ⟨⟨d, h⟩, rfl⟩, rfl, rfl⟩
theorem Ste.trans (A : Ste K Γ σ H Γ1 σ1 H1) (B : Ste K Γ1 σ1 H1 Γ2 σ2 H2) : Ste K Γ σ H Γ2 σ2 H2 where
  e0 := A.e0
  env := B.env
  keep := fun a o h n => B.keep a o (A.keep a o h n) fun c => by
    rcases A.sub a c with c | c
    · exact n c
    · rw [c] at h; cases h
  live := fun a h => A.live a (B.live a h)
  sub := fun a c => by
    rcases B.sub a c with c | c
    · exact A.sub a c
    · exact .inr (A.live a c)
  io := fun i d h => by
    obtain ⟨⟨d1, h1⟩, e1⟩ := A.io i d h
    obtain ⟨h2, e2⟩ := B.io i d1 h1
    exact ⟨h2, e2.trans e1⟩
  gl := B.gl.trans A.gl
  sl := B.sl.trans A.sl
theorem Ste.per (A : Ste K Γ σ H Γ' σ' H') : Per H H' := fun a o i h => A.keep a o h fun c => by
  obtain ⟨u, e, n⟩ := A.e0.cellMut c
  rw [h] at e
  cases e
  exact n i
/-- the heap has only grown -/
theorem EnvOk.same (e : EnvOk K Γ σ H) (s : Same H H') : EnvOk K Γ σ H' where
  sh := fun i d h => by
    obtain ⟨v, h1, h2⟩ := e.sh i d h
    exact ⟨v, h1, Rp.per (Per.of_same s) d v h2⟩
  mu := fun i d h => by
    obtain ⟨a, h1, h2⟩ := e.mu i d h
    exact ⟨a, h1, h2.keep (Per.of_same s) (s a)⟩
  df := e.df
  len := e.len
theorem Ste.same (e : EnvOk K Γ σ H) (s : Same H H') : Ste K Γ σ H Γ σ H' where
  e0 := e
  env := e.same s
  keep := fun a o h _ => s a o h
  live := fun a h => by
    cases h1 : H a with
    | none => rfl
    | some o => rw [s a o h1] at h; cases h
  sub := fun _ c => .inl c
  io := fun i d h => ⟨⟨d, h⟩, rfl⟩
  gl := rfl
  sl := rfl
end
end Sv

namespace Sv
open PySem PySem.Spec PyProof.Rows L2
inductive Rs where
  | val (d : D) | new (d : D) | slot (i : Nat)
  deriving Inhabited
/-- a value that waits -/
def Pd (K : PySem.W.Frag) (Γ : Gm) (σ : L2.St) (H : Hp) : Rs → V → Prop
  | .val d, v => Rp K H d v
  | .new d, v => ∃ a, v = .ref a ∧ Cel K H d a ∧ ¬ Cell Γ σ a
  | .slot i, v => σ[i]? = some (some v)
def Orig (Γ : Gm) (σ : L2.St) (H : Hp) : Rs → V → Prop
  | .new _, v => ∀ a, v = .ref a → Cell Γ σ a ∨ H a = none
  | _, _ => True
section
variable {K : PySem.W.Frag} {Γ Γ' Γ0 Γ1 Γ2 : Gm} {σ σ' σ0 σ1 σ2 : L2.St} {H H' H0 H1 H2 : Hp} {a : Addr} {r : Rs} {v : V}
theorem Ste.noCell (A : Ste K Γ σ H Γ' σ' H') {u : HO} (h : H a = some u) (n : ¬ Cell Γ σ a) : ¬ Cell Γ' σ' a := fun c => by
  rcases A.sub a c with c | c
  · exact n c
  · rw [c] at h; cases h
theorem Pd.ste (A : Ste K Γ σ H Γ' σ H') (h : Pd K Γ σ H r v) : Pd K Γ' σ H' r v := by
  cases r with
  | val d => exact Rp.per A.per d v h
  | new d =>
    obtain ⟨a, e, c, n⟩ := h
    obtain ⟨u, hu, _⟩ := c.mut
    exact ⟨a, e, c.keep A.per (fun o ho => A.keep a o ho n), A.noCell hu n⟩
  | slot i => exact h
theorem Orig.ste (A : Ste K Γ0 σ0 H0 Γ σ H) (h : Orig Γ σ H r v) : Orig Γ0 σ0 H0 r v := by
  cases r with
  | val d => trivial
  | slot i => trivial
  | new d =>
    intro a e
    rcases h a e with c | c
    · exact A.sub a c
    · exact .inr (A.live a c)
def isNew : Rs → Bool
  | .new _ => true
  | _ => false
/-- values that wait, in a row; the new ones apart -/
def Pds (K : PySem.W.Frag) (Γ : Gm) (σ : L2.St) (H : Hp) : List Rs → List V → Prop
  | [], vs => vs = []
  | r :: rs, vs => ∃ v ws, vs = v :: ws ∧ Pd K Γ σ H r v ∧ Pds K Γ σ H rs ws ∧ (isNew r = true → ∀ p ∈ rs.zip ws, isNew p.1 = true → p.2 ≠ v)
def Origs (Γ : Gm) (σ : L2.St) (H : Hp) (rs : List Rs) (vs : List V) : Prop := ∀ p ∈ rs.zip vs, Orig Γ σ H p.1 p.2
theorem Pds.ste (A : Ste K Γ σ H Γ' σ H') : ∀ (rs : List Rs) (vs : List V), Pds K Γ σ H rs vs → Pds K Γ' σ H' rs vs
  | [], _, h => h
  | r :: rs, vs, h => by
    obtain ⟨v, ws, e, h1, h2, h3⟩ := h
    exact ⟨v, ws, e, h1.ste A, Pds.ste A rs ws h2, h3⟩
theorem Pds.length : ∀ (rs : List Rs) (vs : List V), Pds K Γ σ H rs vs → vs.length = rs.length
  | [], _, h => by cases h; rfl
  | r :: rs, vs, h => by
    obtain ⟨v, ws, e, h1, h2, h3⟩ := h
    rw [e, List.length_cons, List.length_cons, Pds.length rs ws h2]
/-! the readings -/
def rdE (K : PySem.W.Frag) (Γ : Gm) (r : Rs) (Γ' : Gm) : TE := fun σ H Q => EnvOk K Γ σ H ∧ ∀ v H', Ste K Γ σ H Γ' σ H' → Pd K Γ' σ H' r v → Orig Γ σ H r v → Q v H'
def rdA (K : PySem.W.Frag) (Γ : Gm) (rs : List Rs) (Γ' : Gm) : TA := fun σ H Q => EnvOk K Γ σ H ∧ ∀ vs H', Ste K Γ σ H Γ' σ H' → Pds K Γ' σ H' rs vs → Origs Γ σ H rs vs → Q vs H'
def rdC (K : PySem.W.Frag) (Γ : Gm) (ds : List D) (Γ' : Gm) : TA := fun σ H Q => EnvOk K Γ σ H ∧ ∀ vs H', Ste K Γ σ H Γ' σ H' → RpL K H' ds vs → Q vs H'
def rdT (K : PySem.W.Frag) (Γ : Gm) (b : Bool) (Γ' : Gm) : TT := fun σ H Q => EnvOk K Γ σ H ∧ ∀ H', Ste K Γ σ H Γ' σ H' → Q b H'
def DE (X : Cx) (e : Expr) (Γ : Gm) (r : Rs) (Γ' : Gm) : Prop := PE X e (rdE X.K Γ r Γ')
def DA (X : Cx) (es : List Expr) (Γ : Gm) (rs : List Rs) (Γ' : Gm) : Prop := PA X es (rdA X.K Γ rs Γ')
def DC (X : Cx) (es : List Expr) (Γ : Gm) (ds : List D) (Γ' : Gm) : Prop := PA X es (rdC X.K Γ ds Γ')
def DT (X : Cx) (e : Expr) (Γ : Gm) (b : Bool) (Γ' : Gm) : Prop := PT X e (rdT X.K Γ b Γ')
/-- the reading may be made weaker -/
theorem pe_sub {X : Cx} {e : Expr} {t t' : TE} (h : PE X e t) (w : ∀ σ H Q, t' σ H Q → t σ H Q) : PE X e t' := ⟨fun pins s σ H Q I q => h.run pins s σ H Q I (w σ H Q q)⟩
theorem pt_sub {X : Cx} {e : Expr} {t t' : TT} (h : PT X e t) (w : ∀ σ H Q, t' σ H Q → t σ H Q) : PT X e t' := ⟨fun pins s σ H Q I q => h.run pins s σ H Q I (w σ H Q q)⟩
theorem pa_sub {X : Cx} {e : List Expr} {t t' : TA} (h : PA X e t) (w : ∀ σ H Q, t' σ H Q → t σ H Q) : PA X e t' := ⟨fun pos pins s σ H Q I q => h.run pos pins s σ H Q I (w σ H Q q)⟩
theorem ps_sub {X : Cx} {e : Stmt} {t t' : TS} (h : PS X e t) (w : ∀ D σ H, t' D σ H → t D σ H) : PS X e t' := ⟨fun pins s σ H D I q => h.run pins s σ H D I (w D σ H q)⟩
theorem pss_sub {X : Cx} {e : List Stmt} {t t' : TS} (h : PSs X e t) (w : ∀ D σ H, t' D σ H → t D σ H) : PSs X e t' := ⟨fun pins s σ H D I q => h.run pins s σ H D I (w D σ H q)⟩
theorem da_nil {X : Cx} {Γ : Gm} : DA X [] Γ [] Γ := pa_sub pa_nil fun σ H Q q => q.2 [] H (Ste.refl q.1) rfl (fun _ h => by simp at h)
theorem da_cons {X : Cx} {e : Expr} {es : List Expr} {Γ Γ1 Γ2 : Gm} {r : Rs} {rs : List Rs} (h : DE X e Γ r Γ1) (hs : DA X es Γ1 rs Γ2)
    (st : starEach (e :: es) X.env = (false, eval e X.env) :: starEach es X.env) : DA X (e :: es) Γ (r :: rs) Γ2 := by
  refine pa_sub (pa_cons h hs st) fun σ H Q q => ⟨q.1, fun v H1 s1 p1 o1 => ⟨s1.env, fun vs H2 s2 p2 o2 => q.2 (v :: vs) H2 (s1.trans s2) ⟨v, vs, rfl, p1.ste s2, p2, fun n p hp np e => ?_⟩ fun p hp => ?_⟩⟩
  · cases r with
    | val d => cases n
    | slot i => cases n
    | new d =>
      obtain ⟨a, ea, c, nc⟩ := p1
      obtain ⟨u, hu, _⟩ := c.mut
      have oo := o2 p hp
      cases hr : p.1 with
      | val d => rw [hr] at np; cases np
      | slot i => rw [hr] at np; cases np
      | new d' =>
        rw [hr] at oo
        rcases oo a (e.trans ea) with c | c
        · exact nc c
        · rw [c] at hu; cases hu
  · rw [List.zip_cons_cons, List.mem_cons] at hp
    rcases hp with rfl | hp
    · exact o1
    · exact (o2 p hp).ste s1
end
end Sv

namespace Sv
open PySem PySem.Spec PyProof.Rows L2
section
variable {K : PySem.W.Frag} {Γ Γ' Γ0 Γ1 Γ2 : Gm} {σ σ' σ0 σ1 σ2 : L2.St} {H H' H0 H1 H2 : Hp} {a : Addr} {r : Rs} {v : V}
theorem per_frz {u : HO} {o : Obj} (h : H a = some u) (n : ¬ Imm u) : Per H (upd H a (.frz o u)) := fun b w i e => by
  by_cases z : b = a
  · subst z
    rw [h] at e
    cases e
    exact absurd i n
  · rw [upd_ne z]
    exact e
theorem Cel.frz {d : D} (c : Cel K H d a) : ∃ u, H a = some u ∧ L2.Mut (some u) ∧ ¬ Imm u ∧ ∀ o, Rp K (upd H a (.frz o u)) d (.ref a) := by
  cases d with
  | lst ds =>
    obtain ⟨vs, e, r⟩ := c
    refine ⟨_, e, trivial, id, fun o => ?_⟩
    simp only [Rp]
    exact ⟨a, vs, rfl, ⟨o, upd_same⟩, RpL.per (per_frz e id) _ _ r⟩
  | dK ds =>
    obtain ⟨vs, e, r⟩ := c
    refine ⟨_, e, trivial, id, fun o => ?_⟩
    simp only [Rp]
    exact ⟨a, o, vs, rfl, upd_same, RpK.per (per_frz e id) _ _ r⟩
  | dT ds =>
    obtain ⟨vs, e, r⟩ := c
    refine ⟨_, e, trivial, id, fun o => ?_⟩
    simp only [Rp]
    exact ⟨a, o, vs, rfl, upd_same, RpT.per (per_frz e id) _ _ r⟩
  | _ => exact absurd c (by simp [Cel])
/-- a cell elsewhere -/
theorem Cel.other {d : D} {b : Addr} {u : HO} {o : Obj} (h : H a = some u) (n : ¬ Imm u) (c : Cel K H d b) (ne : b ≠ a) : Cel K (upd H a (.frz o u)) d b :=
  c.keep (per_frz h n) fun w e => by rw [upd_ne ne]; exact e
/-- a new cell frozen -/
theorem Ste.frzNew {u : HO} {o : Obj} (A : Ste K Γ0 σ0 H0 Γ σ H) (h : H a = some u) (n : ¬ Imm u) (nc : ¬ Cell Γ σ a) (og : Cell Γ0 σ0 a ∨ H0 a = none) : Ste K Γ0 σ0 H0 Γ σ (upd H a (.frz o u)) where
  e0 := A.e0
  env := {
    sh := fun i d e => by
      obtain ⟨v, h1, h2⟩ := A.env.sh i d e
      exact ⟨v, h1, Rp.per (per_frz h n) d v h2⟩
    mu := fun i d e => by
      obtain ⟨b, h1, h2⟩ := A.env.mu i d e
      exact ⟨b, h1, h2.other h n fun z => nc (by subst z; exact ⟨i, d, e, h1⟩)⟩
    df := A.env.df
    len := A.env.len }
  keep := fun b w e nb => by
    have := A.keep b w e nb
    by_cases z : b = a
    · subst z
      rcases og with c | c
      · exact absurd c nb
      · rw [c] at e; cases e
    · rw [upd_ne z]; exact this
  live := fun b e => by
    by_cases z : b = a
    · subst z; rw [upd_same] at e; cases e
    · rw [upd_ne z] at e; exact A.live b e
  sub := A.sub
  io := A.io
  gl := A.gl
  sl := A.sl
theorem get_set_self {α : Type} {l : List α} {i : Nat} {x y : α} (h : l[i]? = some x) : (l.set i y)[i]? = some y := by
  rw [List.getElem?_set_self]
  exact (List.getElem?_eq_some_iff.1 h).1
theorem get_set_ne {α : Type} {l : List α} {i j : Nat} {y : α} (h : i ≠ j) : (l.set i y)[j]? = l[j]? := List.getElem?_set_ne h
theorem own_set_ne {i j : Nat} {s : Sl} {d : D} (h : i ≠ j) : Own (Γ.set i s) j d ↔ Own Γ j d := by
  unfold Own
  rw [get_set_ne h]
/-- a slot's own cell frozen -/
theorem Ste.frzSlot {u : HO} {o : Obj} {i : Nat} {d : D} (A : Ste K Γ0 σ0 H0 Γ σ H) (hg : Γ[i]? = some (.ow d)) (hs : σ[i]? = some (some (.ref a))) (h : H a = some u) (n : ¬ Imm u) (rp : Rp K (upd H a (.frz o u)) d (.ref a))
    : Ste K Γ0 σ0 H0 (Γ.set i (.sh d)) σ (upd H a (.frz o u)) where
  e0 := A.e0
  env := {
    sh := fun j e hj => by
      by_cases z : i = j
      · subst z
        rw [get_set_self hg] at hj
        cases hj
        exact ⟨_, hs, rp⟩
      · rw [get_set_ne z] at hj
        obtain ⟨v, h1, h2⟩ := A.env.sh j e hj
        exact ⟨v, h1, Rp.per (per_frz h n) e v h2⟩
    mu := fun j e hj => by
      by_cases z : i = j
      · subst z
        rcases hj with hj | hj
        · rw [get_set_self hg] at hj; cases hj
        · rw [get_set_self hg] at hj; cases hj
      · rw [own_set_ne z] at hj
        obtain ⟨b, h1, h2⟩ := A.env.mu j e hj
        refine ⟨b, h1, h2.other h n fun y => z ?_⟩
        subst y
        exact A.env.df i j d e b (.inl hg) hj hs h1
    df := fun j k e f b hj hk => by
      by_cases z : i = j
      · subst z
        rcases hj with hj | hj
        · rw [get_set_self hg] at hj; cases hj
        · rw [get_set_self hg] at hj; cases hj
      · by_cases y : i = k
        · subst y
          rcases hk with hk | hk
          · rw [get_set_self hg] at hk; cases hk
          · rw [get_set_self hg] at hk; cases hk
        · rw [own_set_ne z] at hj
          rw [own_set_ne y] at hk
          exact A.env.df j k e f b hj hk
    len := by rw [List.length_set]; exact A.env.len }
  keep := fun b w e nb => by
    have := A.keep b w e nb
    by_cases z : b = a
    · subst z
      rcases A.sub b ⟨i, d, .inl hg, hs⟩ with c | c
      · exact absurd c nb
      · rw [c] at e; cases e
    · rw [upd_ne z]; exact this
  live := fun b e => by
    by_cases z : b = a
    · subst z; rw [upd_same] at e; cases e
    · rw [upd_ne z] at e; exact A.live b e
  sub := fun b c => by
    obtain ⟨j, e, hj, hb⟩ := c
    by_cases z : i = j
    · subst z
      rcases hj with hj | hj
      · rw [get_set_self hg] at hj; cases hj
      · rw [get_set_self hg] at hj; cases hj
    · rw [own_set_ne z] at hj
      exact A.sub b ⟨j, e, hj, hb⟩
  io := fun j e hj => by
    obtain ⟨⟨e', h1⟩, h2⟩ := A.io j e hj
    have z : i ≠ j := fun z => by subst z; rw [hg] at h1; cases h1
    exact ⟨⟨e', by rw [get_set_ne z]; exact h1⟩, h2⟩
  gl := by rw [List.length_set]; exact A.gl
  sl := A.sl
/-! taking what waits -/
def takeR : Rs → Gm → Option (D × Gm)
  | .val d, Γ => some (d, Γ)
  | .new d, Γ => some (d, Γ)
  | .slot i, Γ => match Γ[i]? with
    | some (.sh d) => some (d, Γ)
    | some (.ow d) => some (d, Γ.set i (.sh d))
    | _ => none
def takeRs : List Rs → Gm → Option (List D × Gm)
  | [], Γ => some ([], Γ)
  | r :: rs, Γ => match takeR r Γ with
    | none => none
    | some (d, Γ1) => match takeRs rs Γ1 with
      | none => none
      | some (ds, Γ2) => some (d :: ds, Γ2)
/-- the other waiting ones stay, behind a slot's or a new cell's freezing -/
theorem Pds.frz {u : HO} {o : Obj} (h : H a = some u) (n : ¬ Imm u) (hc : ∀ b, Cell Γ' σ b → Cell Γ σ b) : ∀ (rs : List Rs) (vs : List V), (∀ p ∈ rs.zip vs, isNew p.1 = true → p.2 ≠ .ref a) → Pds K Γ σ H rs vs → Pds K Γ' σ (upd H a (.frz o u)) rs vs
  | [], _, _, q => q
  | r :: rs, vs, hn, q => by
    obtain ⟨v, ws, e, h1, h2, h3⟩ := q
    subst e
    refine ⟨v, ws, rfl, ?_, Pds.frz h n hc rs ws (fun p hp => hn p (by rw [List.zip_cons_cons]; exact List.mem_cons_of_mem _ hp)) h2, h3⟩
    cases r with
    | val d => exact Rp.per (per_frz h n) d v h1
    | slot i => exact h1
    | new d =>
      obtain ⟨b, e, c, nb⟩ := h1
      exact ⟨b, e, c.other h n (fun z => hn (.new d, v) (by rw [List.zip_cons_cons]; exact List.mem_cons_self) rfl (by rw [e, z])), fun cc => nb (hc b cc)⟩
end
section
variable {X : Cx} {pins : List (Addr × Obj)} {s : Shared} {K : PySem.W.Frag} {Γ Γ' Γ0 Γ1 Γ2 : Gm} {σ σ' σ0 σ1 σ2 : L2.St} {H H' H0 H1 H2 : Hp} {a : Addr} {r : Rs} {v : V}
theorem take_ok {d : D} {rs : List Rs} {vs : List V} (I : Inv X pins σ H s) (A : Ste K Γ0 σ0 H0 Γ σ H) (p : Pd K Γ σ H r v) (og : Orig Γ0 σ0 H0 r v) (ps : Pds K Γ σ H rs vs)
    (hd : isNew r = true → ∀ p ∈ rs.zip vs, isNew p.1 = true → p.2 ≠ v) (h : takeR r Γ = some (d, Γ')) :
    ∃ H', Inv X pins σ H' s ∧ Ste K Γ0 σ0 H0 Γ' σ H' ∧ Rp K H' d v ∧ Pds K Γ' σ H' rs vs ∧ Per H H' := by
  cases r with
  | val e =>
    simp only [takeR, Option.some.injEq, Prod.mk.injEq] at h
    obtain ⟨rfl, rfl⟩ := h
    exact ⟨H, I, A, p, ps, Per.refl H⟩
  | new e =>
    simp only [takeR, Option.some.injEq, Prod.mk.injEq] at h
    obtain ⟨rfl, rfl⟩ := h
    obtain ⟨a, rfl, c, nc⟩ := p
    obtain ⟨u, hu, mu, ni, rp⟩ := c.frz
    obtain ⟨o, I1⟩ := I.lock hu mu
    exact ⟨_, I1, A.frzNew hu ni nc (og a rfl), rp o, Pds.frz hu ni (fun _ h => h) rs vs (hd rfl) ps, per_frz hu ni⟩
  | slot i =>
    simp only [takeR] at h
    cases hg : Γ[i]? with
    | none => rw [hg] at h; cases h
    | some sl =>
      rw [hg] at h
      cases sl with
      | no => cases h
      | io e => cases h
      | sh e =>
        simp only [Option.some.injEq, Prod.mk.injEq] at h
        obtain ⟨rfl, rfl⟩ := h
        obtain ⟨w, h1, h2⟩ := A.env.sh i e hg
        rw [show σ[i]? = some (some v) from p] at h1
        cases h1
        exact ⟨H, I, A, h2, ps, Per.refl H⟩
      | ow e =>
        simp only [Option.some.injEq, Prod.mk.injEq] at h
        obtain ⟨rfl, rfl⟩ := h
        obtain ⟨a, h1, c⟩ := A.env.mu i e (.inl hg)
        have p' : σ[i]? = some (some v) := p
        rw [p'] at h1
        cases h1
        obtain ⟨u, hu, mu, ni, rp⟩ := c.frz
        obtain ⟨o, I1⟩ := I.lock hu mu
        have B := A.frzSlot hg p' hu ni (rp o)
        refine ⟨_, I1, B, rp o, Pds.frz hu ni (fun b cc => ?_) rs vs (fun p hp np z => ?_) ps, per_frz hu ni⟩
        · obtain ⟨j, f, hj, hb⟩ := cc
          by_cases z : i = j
          · subst z
            rcases hj with hj | hj
            · rw [get_set_self hg] at hj; cases hj
            · rw [get_set_self hg] at hj; cases hj
          · rw [own_set_ne z] at hj
            exact ⟨j, f, hj, hb⟩
        · have key : ∀ (rs : List Rs) (vs : List V), Pds K Γ σ H rs vs → ∀ q ∈ rs.zip vs, isNew q.1 = true → ∃ b, q.2 = .ref b ∧ ¬ Cell Γ σ b := by
            intro rs
            induction rs with
            | nil => intro vs _ q hq; simp at hq
            | cons r rs ih =>
              intro vs hh q hq nq
              obtain ⟨w, ws, e, h1, h2, h3⟩ := hh
              subst e
              rw [List.zip_cons_cons, List.mem_cons] at hq
              rcases hq with rfl | hq
              · cases r with
                | val d => cases nq
                | slot i => cases nq
                | new d =>
                  obtain ⟨b, e, _, nb⟩ := h1
                  exact ⟨b, e, nb⟩
              · exact ih ws h2 q hq nq
          obtain ⟨b, e, nb⟩ := key rs vs ps p hp np
          rw [z] at e
          cases e
          exact nb ⟨i, _, .inl hg, p'⟩
theorem takes_ok : ∀ {ds : List D} {rs : List Rs} {vs : List V} {Γ Γ' : Gm} {H : Hp}, Inv X pins σ H s → Ste K Γ0 σ0 H0 Γ σ H → Pds K Γ σ H rs vs → Origs Γ0 σ0 H0 rs vs → takeRs rs Γ = some (ds, Γ') →
    ∃ H', Inv X pins σ H' s ∧ Ste K Γ0 σ0 H0 Γ' σ H' ∧ RpL K H' ds vs ∧ Per H H' := by
  intro ds rs
  induction rs generalizing ds with
  | nil =>
    intro vs Γ Γ' H I A p og h
    simp only [takeRs, Option.some.injEq, Prod.mk.injEq] at h
    obtain ⟨rfl, rfl⟩ := h
    exact ⟨H, I, A, by simp only [RpL]; exact p, Per.refl H⟩
  | cons r rs ih =>
    intro vs Γ Γ' H I A p og h
    obtain ⟨v, ws, e, h1, h2, h3⟩ := p
    subst e
    simp only [takeRs] at h
    cases ht : takeR r Γ with
    | none => rw [ht] at h; cases h
    | some q =>
      obtain ⟨d, Γ1⟩ := q
      rw [ht] at h
      simp only at h
      cases ht2 : takeRs rs Γ1 with
      | none => rw [ht2] at h; cases h
      | some q =>
        obtain ⟨ds', Γ2⟩ := q
        rw [ht2] at h
        simp only [Option.some.injEq, Prod.mk.injEq] at h
        obtain ⟨rfl, rfl⟩ := h
        obtain ⟨H1, I1, A1, rp, ps1, pr1⟩ := take_ok I A h1 (og _ (by rw [List.zip_cons_cons]; exact List.mem_cons_self)) h2 h3 ht
        obtain ⟨H2, I2, A2, rps, pr2⟩ := ih I1 A1 ps1 (fun p hp => og p (by rw [List.zip_cons_cons]; exact List.mem_cons_of_mem _ hp)) ht2
        refine ⟨H2, I2, A2, ?_, pr1.trans pr2⟩
        simp only [RpL]
        exact ⟨v, ws, rfl, Rp.per pr2 d v rp, rps⟩
end
/-- what waits is taken: an argument list -/
theorem dc_take {X : Cx} {es : List Expr} {Γ Γ1 Γ2 : Gm} {rs : List Rs} {ds : List D} (h : DA X es Γ rs Γ1) (ht : takeRs rs Γ1 = some (ds, Γ2)) : DC X es Γ ds Γ2 := by
  refine ⟨fun pos pins s σ H Q I q => ?_⟩
  refine thn (h.run pos pins s σ H (fun vs H1 => Ste X.K Γ σ H Γ1 σ H1 ∧ Pds X.K Γ1 σ H1 rs vs ∧ Origs Γ σ H rs vs) I ⟨q.1, fun vs H1 a b c => ⟨a, b, c⟩⟩) fun us s' hh => ?_
  obtain ⟨vs, H1, I1, rv, A, p, og⟩ := hh
  obtain ⟨H2, I2, B, rp, _⟩ := takes_ok I1 A p og ht
  exact ⟨vs, H2, I2, rv, q.2 vs H2 B rp⟩
/-- .. one expression -/
theorem de_take {X : Cx} {e : Expr} {Γ Γ1 Γ2 : Gm} {r : Rs} {d : D} (h : DE X e Γ r Γ1) (ht : takeR r Γ1 = some (d, Γ2)) : DE X e Γ (.val d) Γ2 := by
  refine ⟨fun pins s σ H Q I q => ?_⟩
  refine thn (h.run pins s σ H (fun v H1 => Ste X.K Γ σ H Γ1 σ H1 ∧ Pd X.K Γ1 σ H1 r v ∧ Orig Γ σ H r v) I ⟨q.1, fun vs H1 a b c => ⟨a, b, c⟩⟩) fun us s' hh => ?_
  obtain ⟨v, H1, I1, rv, A, p, og⟩ := hh
  obtain ⟨H2, I2, B, rp, _, _⟩ := take_ok I1 A p og (rs := []) (vs := []) rfl (fun _ _ h => by simp at h) ht
  exact ⟨v, H2, I2, rv, q.2 v H2 B rp trivial⟩
end Sv

namespace Sv
open PySem PySem.Spec PyProof.Rows L2
def readR : Rs → Gm → Option D
  | .val d, _ => some d
  | .new d, _ => some d
  | .slot i, Γ => match Γ[i]? with
    | some (.sh d) => some d
    | some (.ow d) => some d
    | some (.io d) => some d
    | _ => none
def readRs : List Rs → Gm → Option (List D)
  | [], _ => some []
  | r :: rs, Γ => match readR r Γ with
    | none => none
    | some d => match readRs rs Γ with
      | none => none
      | some ds => some (d :: ds)
def RpRL (K : PySem.W.Frag) (H : Hp) : List D → List V → Prop
  | [], vs => vs = []
  | d :: ds, vs => ∃ v r, vs = v :: r ∧ RpR K H d v ∧ RpRL K H ds r
section
variable {K : PySem.W.Frag} {Γ Γ' Γ0 Γ1 Γ2 : Gm} {σ σ' σ0 σ1 σ2 : L2.St} {H H' H0 H1 H2 : Hp} {a : Addr} {r : Rs} {v : V}
theorem read_ok {d : D} (e : EnvOk K Γ σ H) (p : Pd K Γ σ H r v) (h : readR r Γ = some d) : RpR K H d v := by
  cases r with
  | val d' =>
    simp only [readR, Option.some.injEq] at h
    subst h
    exact .inl p
  | new d' =>
    simp only [readR, Option.some.injEq] at h
    subst h
    obtain ⟨a, e, c, _⟩ := p
    exact .inr ⟨a, e, c⟩
  | slot i =>
    simp only [readR] at h
    have p' : σ[i]? = some (some v) := p
    cases hg : Γ[i]? with
    | none => rw [hg] at h; cases h
    | some sl =>
      rw [hg] at h
      cases sl with
      | no => cases h
      | sh e1 =>
        cases h
        obtain ⟨w, h1, h2⟩ := e.sh i _ hg
        rw [p'] at h1
        cases h1
        exact .inl h2
      | ow e1 =>
        cases h
        obtain ⟨w, h1, h2⟩ := e.mu i _ (.inl hg)
        rw [p'] at h1
        cases h1
        exact .inr ⟨w, rfl, h2⟩
      | io e1 =>
        cases h
        obtain ⟨w, h1, h2⟩ := e.mu i _ (.inr hg)
        rw [p'] at h1
        cases h1
        exact .inr ⟨w, rfl, h2⟩
theorem reads_ok (e : EnvOk K Γ σ H) : ∀ {rs : List Rs} {vs : List V} {ds : List D}, Pds K Γ σ H rs vs → readRs rs Γ = some ds → RpRL K H ds vs
  | [], vs, ds, p, h => by
    simp only [readRs, Option.some.injEq] at h
    subst h
    exact p
  | r :: rs, vs, ds, p, h => by
    obtain ⟨v, ws, ev, h1, h2, h3⟩ := p
    simp only [readRs] at h
    cases hr : readR r Γ with
    | none => rw [hr] at h; cases h
    | some d =>
      rw [hr] at h
      simp only at h
      cases hrs : readRs rs Γ with
      | none => rw [hrs] at h; cases h
      | some ds' =>
        rw [hrs] at h
        cases h
        exact ⟨v, ws, ev, read_ok e h1 hr, reads_ok e h2 hrs⟩
/-- what an operation on values hands back, the heap having grown -/
def Fr (K : PySem.W.Frag) (H : Hp) : Rs → V → Hp → Prop
  | .val d, v, H' => Rp K H' d v
  | .new d, v, H' => ∃ a, v = .ref a ∧ H a = none ∧ Cel K H' d a
  | .slot _, _, _ => False
theorem Fr.lift (e : EnvOk K Γ σ H) (s : Same H H') (f : Fr K H r v H') : Ste K Γ σ H Γ σ H' ∧ Pd K Γ σ H' r v ∧ Orig Γ σ H r v := by
  refine ⟨Ste.same e s, ?_⟩
  cases r with
  | val d => exact ⟨f, trivial⟩
  | slot i => exact f.elim
  | new d =>
    obtain ⟨a, rfl, hn, c⟩ := f
    refine ⟨⟨a, rfl, c, fun cc => ?_⟩, fun b eb => .inr (by cases eb; exact hn)⟩
    obtain ⟨u, hu, _⟩ := e.cellMut cc
    rw [hn] at hu
    cases hu
theorem same_new {p : Addr} {o : HO} (h : H p = none) : Same H (upd H p o) := fun b x e => by
  rw [upd_ne (ne_of_none e h)]
  exact e
theorem same_refl (H : Hp) : Same H H := fun _ _ h => h
/-- two-place operations, one-place ones, calls: by data -/
def OpS (K : PySem.W.Frag) (o : R2) (d1 d2 : D) (r : Rs) : Prop := ∀ (H : Hp) (x y : V) (Q : VK), RpR K H d1 x → RpR K H d2 y → (∀ v H', Same H H' → Fr K H r v H' → Q v H') → o x y H Q
def UnS (K : PySem.W.Frag) (o : V → Hp → VK → Prop) (d1 : D) (r : Rs) : Prop := ∀ (H : Hp) (x : V) (Q : VK), RpR K H d1 x → (∀ v H', Same H H' → Fr K H r v H' → Q v H') → o x H Q
def CaS (K : PySem.W.Frag) (o : List V → Hp → VK → Prop) (ds : List D) (r : Rs) : Prop := ∀ (H : Hp) (xs : List V) (Q : VK), RpRL K H ds xs → (∀ v H', Same H H' → Fr K H r v H' → Q v H') → o xs H Q
end
section
variable {X : Cx} {Γ Γ1 Γ2 Γ3 : Gm} {a b c : Expr} {r r1 r2 r3 : Rs} {d d1 d2 d3 : D} {pos : Pos} {op op' : CmpOp}
theorem de_bin {op : Operator} {o : R2} (ho : OpR X (binaryOp op) o) (ha : DE X a Γ r1 Γ1) (hb : DE X b Γ1 r2 Γ2) (h1 : readR r1 Γ2 = some d1) (h2 : readR r2 Γ2 = some d2) (hs : OpS X.K o d1 d2 r) : DE X (.BinOp a op b pos) Γ r Γ2 :=
  pe_sub (pe_op ho ha hb) fun σ H Q q => ⟨q.1, fun x H1 s1 p1 o1 => ⟨s1.env, fun y H2 s2 p2 o2 => hs H2 x y _ (read_ok s2.env (p1.ste s2) h1) (read_ok s2.env p2 h2) fun v H3 sm f => by
    obtain ⟨s3, p3, o3⟩ := f.lift s2.env sm
    exact q.2 v H3 ((s1.trans s2).trans s3) p3 (o3.ste (s1.trans s2))⟩⟩
theorem de_cmp {o : R2} (ho : OpR X (compareOp op) o) (ha : DE X a Γ r1 Γ1) (hb : DE X b Γ1 r2 Γ2) (hm : behindInMarks op b = false) (h1 : readR r1 Γ2 = some d1) (h2 : readR r2 Γ2 = some d2) (hs : OpS X.K o d1 d2 r) : DE X (.Compare a [op] [b] pos) Γ r Γ2 :=
  pe_sub (pe_cmpR ho ha hb hm) fun σ H Q q => ⟨q.1, fun x H1 s1 p1 o1 => ⟨s1.env, fun y H2 s2 p2 o2 => hs H2 x y _ (read_ok s2.env (p1.ste s2) h1) (read_ok s2.env p2 h2) fun v H3 sm f => by
    obtain ⟨s3, p3, o3⟩ := f.lift s2.env sm
    exact q.2 v H3 ((s1.trans s2).trans s3) p3 (o3.ste (s1.trans s2))⟩⟩
theorem dt_cmp {o : R2} {k : Bool} (ho : OpR X (compareOp op) o) (ha : DE X a Γ r1 Γ1) (hb : DE X b Γ1 r2 Γ2) (hm : behindInMarks op b = false) (h1 : readR r1 Γ2 = some d1) (h2 : readR r2 Γ2 = some d2) (hs : OpS X.K o d1 d2 (.val (.bl k))) : DT X (.Compare a [op] [b] pos) Γ k Γ2 :=
  pt_sub (pt_cmpR ho ha hb hm) fun σ H Q q => ⟨q.1, fun x H1 s1 p1 o1 => ⟨s1.env, fun y H2 s2 p2 o2 => hs H2 x y _ (read_ok s2.env (p1.ste s2) h1) (read_ok s2.env p2 h2) fun v H3 sm f => by
    obtain ⟨s3, p3, o3⟩ := f.lift s2.env sm
    have e : v = .bl k := by simpa only [Fr, Rp] using f
    exact ⟨k, e, q.2 H3 ((s1.trans s2).trans s3)⟩⟩⟩
theorem de_un {op : UnaryOp} {o : V → Hp → VK → Prop} (ho : UnR X (unaryOp op) o) (ha : DE X a Γ r1 Γ1) (h1 : readR r1 Γ1 = some d1) (hs : UnS X.K o d1 r) : DE X (.UnaryOp op a pos) Γ r Γ1 :=
  pe_sub (pe_un ho ha) fun σ H Q q => ⟨q.1, fun x H1 s1 p1 o1 => hs H1 x _ (read_ok s1.env p1 h1) fun v H3 sm f => by
    obtain ⟨s3, p3, o3⟩ := f.lift s1.env sm
    exact q.2 v H3 (s1.trans s3) p3 (o3.ste s1)⟩
theorem de_ix {o : R2} (ho : IxR X o) (ha : DE X a Γ r1 Γ1) (hb : DE X b Γ1 r2 Γ2) (hp : PlainIx b) (h1 : readR r1 Γ2 = some d1) (h2 : readR r2 Γ2 = some d2) (hs : OpS X.K o d1 d2 r) : DE X (.Subscript a b pos) Γ r Γ2 :=
  pe_sub (pe_ix ho ha hb hp) fun σ H Q q => ⟨q.1, fun x H1 s1 p1 o1 => ⟨s1.env, fun y H2 s2 p2 o2 => hs H2 x y _ (read_ok s2.env (p1.ste s2) h1) (read_ok s2.env p2 h2) fun v H3 sm f => by
    obtain ⟨s3, p3, o3⟩ := f.lift s2.env sm
    exact q.2 v H3 ((s1.trans s2).trans s3) p3 (o3.ste (s1.trans s2))⟩⟩
/-- a op b op' c -/
theorem de_chain {o o' : R2} {k : Bool} (ho : OpR X (compareOp op) o) (ho' : OpR X (compareOp op') o') (ha : DE X a Γ r1 Γ1) (hb : DE X b Γ1 r2 Γ2) (hm : lastMarks [op, op'] [b, c] = false)
    (h1 : readR r1 Γ2 = some d1) (h2 : readR r2 Γ2 = some d2) (hs : OpS X.K o d1 d2 (.val (.bl k)))
    (hc : DE X c Γ2 r3 Γ3) (h2' : k = true → readR r2 Γ3 = some d2) (h3 : k = true → readR r3 Γ3 = some d3) (hs' : k = true → OpS X.K o' d2 d3 r) (hf : k = false → r = .val (.bl false)) : DE X (.Compare a [op, op'] [b, c] pos) Γ r (if k then Γ3 else Γ2) :=
  pe_sub (pe_chain ho ho' ha hb hc hm) fun σ H Q q => ⟨q.1, fun x H1 s1 p1 o1 => ⟨s1.env, fun y H2 s2 p2 o2 => hs H2 x y _ (read_ok s2.env (p1.ste s2) h1) (read_ok s2.env p2 h2) fun v H3 sm f => by
    obtain ⟨s3, p3, o3⟩ := f.lift s2.env sm
    have e : v = .bl k := by simpa only [Fr, Rp] using f
    refine ⟨k, e, ?_⟩
    cases k with
    | false =>
      rw [hf rfl] at q
      exact q.2 _ H3 ((s1.trans s2).trans s3) (by simp only [Pd, Rp]) trivial
    | true =>
      refine ⟨s3.env, fun w H4 s4 p4 o4 => hs' rfl H4 y w _ (read_ok s4.env ((p2.ste s3).ste s4) (h2' rfl)) (read_ok s4.env p4 (h3 rfl)) fun v H5 sm5 f5 => ?_⟩
      obtain ⟨s5, p5, o5⟩ := f5.lift s4.env sm5
      exact q.2 v H5 ((((s1.trans s2).trans s3).trans s4).trans s5) p5 (o5.ste (((s1.trans s2).trans s3).trans s4))⟩⟩
/-- any expression whose value is a bool, as a test -/
theorem dt_of_bl {e : Expr} {k : Bool} (h : DE X e Γ r Γ1) (hr : readR r Γ1 = some (.bl k)) (he : ∀ whole, isTrue e X.env whole = (do let v ← whole; standAt e.pos; holding [v] (truthy v))) : DT X e Γ k Γ1 :=
  pt_sub (pt_val h he) fun σ H Q q => ⟨q.1, fun x H1 s1 p1 o1 => ⟨k, (read_ok s1.env p1 hr).bl, q.2 H1 s1⟩⟩
theorem dt_not {k : Bool} (h : DT X a Γ k Γ1) : DT X (.UnaryOp .Not a pos) Γ (!k) Γ1 :=
  pt_sub (pt_not h) fun σ H Q q => ⟨q.1, fun H1 s1 => q.2 H1 s1⟩
theorem de_not {k : Bool} (h : DE X a Γ r Γ1) (hr : readR r Γ1 = some (.bl k)) : DE X (.UnaryOp .Not a pos) Γ (.val (.bl (!k))) Γ1 :=
  pe_sub (pe_not h) fun σ H Q q => ⟨q.1, fun x H1 s1 p1 o1 => ⟨k, (read_ok s1.env p1 hr).bl, q.2 _ H1 s1 (by simp only [Pd, Rp]) trivial⟩⟩
theorem de_if {k : Bool} (hc : DT X c Γ k Γ1) (ha : k = true → DE X a Γ1 r Γ2) (hb : k = false → DE X b Γ1 r Γ2) : DE X (.IfExp c a b pos) Γ r Γ2 := by
  cases k with
  | true =>
    refine pe_sub (pe_ifExp hc (ha rfl) (tb := fun _ _ _ => False) ⟨fun _ _ _ _ _ _ f => f.elim⟩) fun σ H Q q => ⟨q.1, fun H1 s1 => ?_⟩
    exact ⟨s1.env, fun v H2 s2 p2 o2 => q.2 v H2 (s1.trans s2) p2 (o2.ste s1)⟩
  | false =>
    refine pe_sub (pe_ifExp hc (ta := fun _ _ _ => False) ⟨fun _ _ _ _ _ _ f => f.elim⟩ (hb rfl)) fun σ H Q q => ⟨q.1, fun H1 s1 => ?_⟩
    exact ⟨s1.env, fun v H2 s2 p2 o2 => q.2 v H2 (s1.trans s2) p2 (o2.ste s1)⟩
/-! constants, names, displays -/
theorem de_c {v : V} {d : D} {e : Expr} (h : PE X e (tC v)) (hd : ∀ K H, Rp K H d v) : DE X e Γ (.val d) Γ := pe_sub h fun σ H Q q => q.2 v H (Ste.refl q.1) (hd _ _) trivial
theorem de_var {i : Nat} {e : Expr} {s : Sl} (h : PE X e (tVar i)) (hg : Γ[i]? = some s) (hs : s ≠ .no) : DE X e Γ (.slot i) Γ := pe_sub h fun σ H Q q => by
  have : ∃ v, σ[i]? = some (some v) := by
    cases s with
    | no => exact absurd rfl hs
    | sh d => obtain ⟨v, h1, _⟩ := q.1.sh i d hg; exact ⟨v, h1⟩
    | ow d => obtain ⟨v, h1, _⟩ := q.1.mu i d (.inl hg); exact ⟨_, h1⟩
    | io d => obtain ⟨v, h1, _⟩ := q.1.mu i d (.inr hg); exact ⟨_, h1⟩
  obtain ⟨v, hv⟩ := this
  exact ⟨v, hv, q.2 v H (Ste.refl q.1) hv trivial⟩
theorem RpL.length {K : PySem.W.Frag} {H : Hp} : ∀ {ds : List D} {vs : List V}, RpL K H ds vs → vs.length = ds.length
  | [], vs, h => by simp only [RpL] at h; subst h; rfl
  | d :: ds, vs, h => by
    simp only [RpL] at h
    obtain ⟨v, r, rfl, _, h2⟩ := h
    rw [List.length_cons, List.length_cons, RpL.length h2]
theorem de_tup {es : List Expr} {ds : List D} {k : Nat} (h : DC X es Γ ds Γ1) (hl : ds.length ≤ sizeLine) : DE X (.Tuple es k pos) Γ (.val (.tup ds)) Γ1 :=
  pe_sub (pe_tup h) fun σ H Q q => ⟨q.1, fun vs H1 s1 rp => ⟨by rw [rp.length]; exact hl, fun p hp => by
    refine q.2 _ _ (s1.trans (Ste.same s1.env (same_new hp))) ?_ trivial
    simp only [Pd, Rp]
    exact ⟨p, vs, rfl, SqT.of upd_same, RpL.per (Per.of_same (same_new hp)) _ _ rp⟩⟩⟩
theorem de_lst {es : List Expr} {ds : List D} (h : DC X es Γ ds Γ1) (hl : ds.length ≤ sizeLine) : DE X (.List es pos) Γ (.new (.lst ds)) Γ1 :=
  pe_sub (pe_lst h) fun σ H Q q => ⟨q.1, fun vs H1 s1 rp => ⟨by rw [rp.length]; exact hl, fun p hp => by
    have f : Fr X.K H1 (.new (.lst ds)) (.ref p) (upd H1 p (.lst vs)) := ⟨p, rfl, hp, vs, upd_same, RpL.per (Per.of_same (same_new hp)) _ _ rp⟩
    obtain ⟨s2, p2, o2⟩ := f.lift s1.env (same_new hp)
    exact q.2 _ _ (s1.trans s2) p2 (o2.ste s1)⟩⟩
/-- a built-in function, a built-in type -/
theorem de_callB {o : List V → Hp → VK → Prop} {x : Str} {p : Pos} {e : Expr} {es : List Expr} {id : String} {rs : List Rs} {ds : List D} (hc : CallR X (.builtin id) o) (hg : Gl X x) (hm : X.mg x = none) (hv : bootBuiltins x = some (.builtin id)) (ha : DA X (e :: es) Γ rs Γ1)
    (hr : readRs rs Γ1 = some ds) (hs : CaS X.K o ds r) (hn : x ≠ "__name__") (hdb : (x == ("__debug__" : Str)) = false)
    (he : starEach (e :: es) X.env = (false, eval e X.env) :: starEach es X.env) (hpl : (backTo pos (starEach es X.env)).any (·.1) = false) : DE X (.Call (.Name x p) (e :: es) [] pos) Γ r Γ1 :=
  pe_sub (pe_callB hc hg hm hv ha hn hdb he hpl) fun σ H Q q => ⟨q.1, fun vs H1 s1 p1 o1 => hs H1 vs _ (reads_ok s1.env p1 hr) fun v H2 sm f => by
    obtain ⟨s2, p2, o2⟩ := f.lift s1.env sm
    exact q.2 v H2 (s1.trans s2) p2 (o2.ste s1)⟩
theorem de_callTy {o : List V → Hp → VK → Prop} {x : Str} {p : Pos} {e : Expr} {es : List Expr} {T : String} {rs : List Rs} {ds : List D} (hc : CallR X (.type T) o) (hg : Gl X x) (hm : X.mg x = none) (hv : bootBuiltins x = some (.type T)) (ha : DA X (e :: es) Γ rs Γ1)
    (hr : readRs rs Γ1 = some ds) (hs : CaS X.K o ds r) (hn : x ≠ "__name__") (hdb : (x == ("__debug__" : Str)) = false)
    (he : starEach (e :: es) X.env = (false, eval e X.env) :: starEach es X.env) (hpl : (backTo pos (starEach es X.env)).any (·.1) = false) : DE X (.Call (.Name x p) (e :: es) [] pos) Γ r Γ1 :=
  pe_sub (pe_callTy hc hg hm hv ha hn hdb he hpl) fun σ H Q q => ⟨q.1, fun vs H1 s1 p1 o1 => hs H1 vs _ (reads_ok s1.env p1 hr) fun v H2 sm f => by
    obtain ⟨s2, p2, o2⟩ := f.lift s1.env sm
    exact q.2 v H2 (s1.trans s2) p2 (o2.ste s1)⟩
end
end Sv

namespace Tx
open PySem PySem.Spec PyProof.Rows L2
structure RoomG (k : Nat) (A : Around) : Prop extends Room k A where
  gd : A.guards = some []
theorem RoomG.mono {j k : Nat} {A : Around} (r : RoomG k A) (h : j ≤ k) : RoomG j A := ⟨r.toRoom.mono h, r.gd⟩
theorem RoomG.deeper {k : Nat} {A : Around} (r : RoomG (k + 1) A) (env : Env) : RoomG k (A.deeper env) := ⟨r.toRoom.deeper env, r.gd⟩
theorem RoomG.depth {k : Nat} {A : Around} (r : RoomG k A) : A.depth < recursionLimit := by have := r.dp; omega
structure FnG (P : Program) (w : World) (K : PySem.W.Frag) (mg : Str → Option Value) (base : Heap) (CX : CXT) (k : Nat) (f : Addr) (fd : FuncData) (ps : List Str) (sp : Sp) : Prop where
  len : ∀ vs H Q E, sp vs H Q E → vs.length = ps.length
  run : ∀ (A : Around) (outer : List Env) (s : Shared) (H : Hp) (args : Args) (us : List Value) (vs : List V) (Q : VK) (E : XK), RoomG k A → Env0 P w K mg base A outer s H → BindsTo s fd args (ps.zip us) → Vals vs us → sp vs H Q E →
    codeAny (model P w) A (.call (.ref f) args) (CR CX outer P w H s Q E) s
section
variable {X : Cx} {CX : CXT} {k n : Nat} {f C : Addr} {fd : FuncData} {ps ks : List Str} {sp : Sp} {dvs : List V} {ds : List Value} {E : XK} {x m : Str} {p pos apos kpos : Pos} {e o : Expr} {es : List Expr} {kws : List Keyword} {te ta : TE} {t tk : TA} {g : List Value → List Value → List Value} {gV : List V → List V → List V}
theorem run_fnG {pins : List (Addr × Obj)} {σ : L2.St} {H : Hp} {s : Shared} {Q : VK} {us : List Value} {vs : List V} (F : FnG X.prog X.w X.K X.mg X.base CX k f fd ps sp) (hr : RoomG k X.A) (hb : Binds X.K fd ps ds) (hd : Vals dvs ds) (hx : Passes CX X E)
    (I : Inv X pins σ H s) (r : Vals vs us) (h : sp (vs ++ dvs) H Q E) : wpAny (model X.prog X.w) X.A (call (.ref f) us) (EP X pins σ Q) X.xe s := by
  have r2 : Vals (vs ++ dvs) (us ++ ds) := r.append hd
  have hl : (us ++ ds).length = ps.length := by rw [← r2.length]; exact F.len _ _ _ _ h
  refine wpAny_call (codeAny_mono (F.run X.A X.stack s H ⟨us, []⟩ (us ++ ds) (vs ++ dvs) Q E hr I.env0 (hb s us I.kIn hl) r2 h) fun r s' hq => ?_)
  cases r with
  | error e => exact hx pins σ H s e s' I hq
  | ok fl =>
    cases fl with
    | ret u => exact I.after hq
    | next => exact False.elim hq
    | brk => exact False.elim hq
    | cont => exact False.elim hq
theorem pe_callG (F : FnG X.prog X.w X.K X.mg X.base CX k f fd ps sp) (hr : RoomG k X.A) (hg : Gl X x) (hm : X.mg x = some (.ref f)) (hk : PySem.W.keepIn X.K (.ref f) = true) (hb : Binds X.K fd ps ds) (hd : Vals dvs ds) (hx : Passes CX X E)
    (ha : PA X (e :: es) t) (hdb : (x == ("__debug__" : Str)) = false := by decide) (he : starEach (e :: es) X.env = (false, eval e X.env) :: starEach es X.env := by rfl) (hpl : (backTo pos (starEach es X.env)).any (·.1) = false := by rfl) :
    PE X (.Call (.Name x p) (e :: es) [] pos) (tCall sp dvs E t) := by
  refine ⟨fun pins s σ H Q I h => ?_⟩
  refine wpAny_Call_Name_kw (ld_glob I hg hm ?_ hdb)
  refine PySem.W.callWith_K (h₀ := X.base) I.ok.mod.kin hk (thn (ha.run pos pins s σ H _ I h) fun us s1 ⟨vs, H1, I1, r, q⟩ => ⟨I1.kIn, ?_⟩) he hpl
  exact run_fnG F hr hb hd hx I1 r q
theorem run_fnNG {pins : List (Addr × Obj)} {σ : L2.St} {H : Hp} {s : Shared} {Q : VK} {us ws : List Value} {vs zs : List V} (F : FnG X.prog X.w X.K X.mg X.base CX k f fd ps sp) (hr : RoomG k X.A) (hb : KBn X.K fd ps n ks g gV) (hx : Passes CX X E)
    (I : Inv X pins σ H s) (r : Vals vs us) (rz : Vals zs ws) (l1 : vs.length = n) (l2 : zs.length = ks.length) (h : sp (gV vs zs) H Q E) : wpAny (model X.prog X.w) X.A (call (.ref f) us (ks.zip ws)) (EP X pins σ Q) X.xe s := by
  have r2 := hb.rel r rz
  refine wpAny_call (codeAny_mono (F.run X.A X.stack s H ⟨us, ks.zip ws⟩ (g us ws) (gV vs zs) Q E hr I.env0 (hb.to s us ws I.kIn (r.length.symm.trans l1) (rz.length.symm.trans l2)) r2 h) fun r s' hq => ?_)
  cases r with
  | error e => exact hx pins σ H s e s' I hq
  | ok fl =>
    cases fl with
    | ret u => exact I.after hq
    | next => exact False.elim hq
    | brk => exact False.elim hq
    | cont => exact False.elim hq
theorem pe_callNG (F : FnG X.prog X.w X.K X.mg X.base CX k f fd ps sp) (hr : RoomG k X.A) (hg : Gl X x) (hm : X.mg x = some (.ref f)) (hk : PySem.W.keepIn X.K (.ref f) = true) (hb : KBn X.K fd ps n ks g gV) (hx : Passes CX X E)
    (ha : PA X (e :: es) t) (hkw : PK X kws tk) (hall : (backToKw pos (keywordEach kws X.env)).all (·.1.isSome) = true := by rfl) (hks : (backToKw pos (keywordEach kws X.env)).filterMap (·.1) = ks := by rfl)
    (hdb : (x == ("__debug__" : Str)) = false := by decide) (he : starEach (e :: es) X.env = (false, eval e X.env) :: starEach es X.env := by rfl)
    (hpl : ((backTo pos (starEach (e :: es) X.env)).any (·.1) || (backToKw pos (keywordEach kws X.env)).any (·.1.isNone)) = false := by rfl) :
    PE X (.Call (.Name x p) (e :: es) kws pos) (tCallN n ks.length sp gV E t tk) := by
  refine ⟨fun pins s σ H Q I h => ?_⟩
  refine wpAny_Call_Name_kw (ld_glob I hg hm ?_ hdb)
  refine PySem.W.callWith_KW (h₀ := X.base) I.ok.mod.kin hk hall (thn (ha.run pos pins s σ H _ I h) fun us s1 ⟨vs, H1, I1, r, q⟩ => ?_) hpl he
  refine thn (hkw.run pos pins s1 σ H1 _ I1 q) fun ws s2 ⟨zs, H2, I2, rz, l1, l2, q2⟩ => ⟨I2.kIn, ?_⟩
  rw [hks]
  exact run_fnNG F hr hb hx I2 r rz l1 l2 q2
/-- f(k = v, ..), nothing by position -/
theorem pe_callK0G (F : FnG X.prog X.w X.K X.mg X.base CX k f fd ps sp) (hr : RoomG k X.A) (hg : Gl X x) (hm : X.mg x = some (.ref f)) (hk : PySem.W.keepIn X.K (.ref f) = true) (hb : KBn X.K fd ps 0 ks g gV) (hx : Passes CX X E)
    (hkw : PK X kws tk) (hall : (backToKw pos (keywordEach kws X.env)).all (·.1.isSome) = true) (hks : (backToKw pos (keywordEach kws X.env)).filterMap (·.1) = ks)
    (hdb : (x == ("__debug__" : Str)) = false)
    (hpl : ((backTo pos (starEach [] X.env)).any (·.1) || (backToKw pos (keywordEach kws X.env)).any (·.1.isNone)) = false) :
    PE X (.Call (.Name x p) [] kws pos) (fun σ H Q => tk σ H fun zs H2 => zs.length = ks.length ∧ sp (gV [] zs) H2 Q E) := by
  refine ⟨fun pins s σ H Q I h => ?_⟩
  refine wpAny_Call_Name_kw (ld_glob I hg hm ?_ hdb)
  refine PySem.W.callWith_KW0 (h₀ := X.base) I.ok.mod.kin hk hall (thn (hkw.run pos pins s σ H _ I h) fun ws s2 ⟨zs, H2, I2, rz, hl, q2⟩ => ⟨I2.kIn, ?_⟩) hpl
  rw [hks]
  exact run_fnNG (us := []) (vs := []) F hr hb hx I2 .nil rz rfl hl q2
end
theorem fn_ofG {CX : CXT} {P : Program} {w : World} {K : PySem.W.Frag} {mg : Str → Option Value} {base : Heap} {k : Nat} {f : Addr} {name qual : Str} {params : Arguments} {body : List Stmt} {scope : Scope} {dV kV doc pm cdv ct oc : Value} {an od : Option Addr}
    {osl : Array (Option Value)} {N ps : List Str} {sp : Sp} (lk : K.lookup f = some ⟨oc, od, .func (PySem.W.fnOf name qual params body scope dV kV doc pm an cdv ct), osl⟩) (hcd : PySem.W.codeIn K cdv qual = true) (S : FnScope N ps scope)
    (len : ∀ vs H Q E, sp vs H Q E → vs.length = ps.length)
    (hbody : ∀ (A : Around) (outer : List Env) (s : Shared) (H : Hp) (vs : List V) (Q : VK) (E : XK), RoomG k (A.deeper (envOfC qual scope s.heap.objs.size f cdv)) → sp vs H Q E →
      ∃ t, PSs (cxOf CX P w K mg base N qual scope f cdv A outer s H E) body t ∧ t { nx := fun _ H' => Q .non H', rt := Q } (start N vs) H) :
    FnG P w K mg base CX (k + 1) f (PySem.W.fnOf name qual params body scope dV kV doc pm an cdv ct) ps sp := by
  refine ⟨len, fun A outer s H args us vs Q E hr e0 hb r hsp => ?_⟩
  have hl := len _ _ _ _ hsp
  have KX : K.In s.heap := e0.mod.kin.keeps fun b o e => (e0.bs b o e).1
  have lim : s.heap.NoLimit := e0.mod.nolimit.keeps fun b o e => (e0.bs b o e).1
  have hkind : ∀ y ∈ ps.zip us, scope.names.lookup y.1 = some .local ∨ (scope.names.lookup y.1 = some .cell ∧ ((cellsFrom (s.heap.objs.size + 1) scope.names []).lookup y.1).isSome = true) := fun ⟨n, v⟩ hy => by
    rcases S.par n (List.of_mem_zip hy).1 with q | q
    · exact .inl q
    · exact .inr ⟨q, PySem.W.cellsFrom_some _ _ _ (.inl q)⟩
  refine codeAny_call_function hr.depth (KX _ _ lk) rfl S.co S.gen rfl (PySem.W.codeRec_of KX hcd) (hb _ _ _ _ ?_)
  refine wpAny_newFunctionEnv_cells S.kind hkind fun env he s1 x => ?_
  subst he
  refine ⟨lim.keeps x.toInCall.keep, codeAny_func ?_⟩
  obtain ⟨t, ht, hq⟩ := hbody A outer s H vs Q E (hr.deeper _) hsp
  have I : Inv (cxOf CX P w K mg base N qual scope f cdv A outer s H E) [] (start N vs) H s1 := inv_start S hr.hd e0 hl r x
  refine wpAny_mono (ht.run [] s1 (start N vs) H _ I hq) (fun fl s' hs => ?_) fun e s' hs => hs
  have fin : ∀ {σ' : L2.St} {H' : Hp} {v : V} {u : Value}, Inv (cxOf CX P w K mg base N qual scope f cdv A outer s H E) [] σ' H' s' → RelV v u → Q v H' → CE outer P w H s Q u s' :=
    fun {σ' H' v u} J rv q => ⟨v, H', J.os, J.bare, J.base, J.hok, rv, q⟩
  cases fl with
  | ret u =>
    obtain ⟨v, σ', H', J, rv, q⟩ := hs
    exact fin J rv q
  | next =>
    obtain ⟨σ', H', J, q⟩ := hs
    exact fin (v := V.non) (u := Value.none) J rfl q
  | brk =>
    obtain ⟨_, _, _, q⟩ := hs
    exact False.elim q
  | cont =>
    obtain ⟨_, _, _, q⟩ := hs
    exact False.elim q
theorem fd_okG {P : Program} {w : World} {K : PySem.W.Frag} {mg : Str → Option Value} {base : Heap} {x qual : Str} {params : Arguments} {body : List Stmt} {scope : Scope} {dvs : List V} {kws : List (Str × V)} {f : Addr} {fd : FuncData} {CX : CXT} {N ps : List Str} {k : Nat} {sp : Sp} (F : FunD K x qual params body scope dvs kws f fd) (S : FnScope N ps scope) (len : ∀ vs H Q E, sp vs H Q E → vs.length = ps.length)
    (hbody : ∀ (cdv : Value) (A : Around) (outer : List Env) (s : Shared) (H : Hp) (vs : List V) (Q : VK) (E : XK), RoomG k (A.deeper (envOfC qual scope s.heap.objs.size f cdv)) → sp vs H Q E →
      ∃ t, PSs (cxOf CX P w K mg base N qual scope f cdv A outer s H E) body t ∧ t { nx := fun _ H' => Q .non H', rt := Q } (start N vs) H) : FnG P w K mg base CX (k + 1) f fd ps sp := by
  obtain ⟨oc, od, dV, kV, doc, pm, an, cdv, ct, osl, rfl, lk, hcd, _, _⟩ := F.ex
  exact fn_ofG lk hcd S len fun A outer s H vs Q E hr hsp => hbody cdv A outer s H vs Q E hr hsp
theorem law_callG {P : Program} {w : World} {K : PySem.W.Frag} {mg mb : Str → Option Value} {CX : CXT} {k : Nat} {fa a : Addr} {fd : FuncData} {x : Str} {sp : Sp} {s₁ : Shared} {vs : List Value} {ns : List Int}
    (KX : K.In s₁.heap) (hns : s₁.heap.Ns mainGlobals mg) (hb : s₁.heap.Ns builtinsNs mb) (hbb : ∀ x : Str, x ≠ "__name__" → mb x = bootBuiltins x) (hlim : s₁.heap.NoLimit) (hg : s₁.gens = #[])
    (ha : s₁.heap.get? a = some { cls := .type "list", data := .seq vs.toArray }) (hi : IntsAre vs ns) (hl : ns.length ≤ sizeLine) (hr : RoomG k callerA)
    (F : ∀ base : Heap, K.In base → base.Ns mainGlobals mg → FnG P w K mg base CX k fa fd [x] sp) (hbind : ∀ (s : Shared) (u : Value), BindsTo s fd ⟨[u], []⟩ [(x, u)])
    (hsp : ∀ H : Hp, Only H → SqL K H a (ns.map V.int) → sp [.ref a] H (fun v _ => v = .bl true) fun _ _ _ => False)
    (hCX : ∀ H e s', CX [] H s₁ (fun _ _ _ => False) e s' → False) :
    codeAny (model P w) callerA (.call (.ref fa) ⟨[.ref a], []⟩) (fun r s' => r = .ok (.ret (.bool true)) ∧ OldK s₁.heap s'.heap ∧ s'.os = s₁.os ∧ AllBare s'.gens) s₁ := by
  have rv := vals_ints hi
  have lenV := hi.length
  -- from an abstract heap in which nothing but the script may be tracked
  have core : ∀ H : Hp, Only H → SqL K H a (ns.map V.int) → HOk P w H s₁.heap → (∀ b, H b ≠ none → b = a) → (H a ≠ none → K.lookup a = none) →
      codeAny (model P w) callerA (.call (.ref fa) ⟨[.ref a], []⟩) (fun r s' => r = .ok (.ret (.bool true)) ∧ OldK s₁.heap s'.heap ∧ s'.os = s₁.os ∧ AllBare s'.gens) s₁ := by
    intro H hO hS hok hA hK
    have base_of : ∀ {b : Addr} {o : Obj}, s₁.heap.get? b = some o → H b = none → (hidT s₁.heap H).get? b = some o := fun e n => hidT_get e n
    have noA : ∀ {b : Addr} {o : Obj} {es : Array DictEntry} {ep : Nat}, s₁.heap.get? b = some o → o.data = .dict es ep → H b = none := fun {b o es ep} e d => by
      cases q : H b with
      | none => rfl
      | some u =>
        have e' : b = a := hA b (by rw [q]; simp)
        subst e'
        rw [ha] at e; cases e
        have d' : Data.seq vs.toArray _ = Data.dict es ep := d
        cases d'
    have nsK : ∀ {b : Addr} {m : Str → Option Value}, s₁.heap.Ns b m → (hidT s₁.heap H).Ns b m := fun {b m} ⟨o, es, ep, e, d, r⟩ => ⟨o, es, ep, base_of e (noA e d), d, r⟩
    have hKb : K.In (hidT s₁.heap H) := fun b o e => base_of (KX b o e) (by
      cases q : H b with
      | none => rfl
      | some u =>
        have e' : b = a := hA b (by rw [q]; simp)
        subst e'
        rw [hK (by rw [q]; simp)] at e; cases e)
    have hM : Mod K mg (hidT s₁.heap H) := ⟨hKb, nsK hns, ⟨mb, nsK hb, hbb⟩, let ⟨mc, h1, h2⟩ := hlim; ⟨mc, nsK h1, h2⟩⟩
    have e0 : Env0 P w K mg (hidT s₁.heap H) callerA [] s₁ H := ⟨rfl, hM, fun b o e => of_hidT e, Nat.le_of_eq (hidT_size _ _), trivial, fun b hb => absurd (show b ∈ ([] : List Addr) from hb) (by simp), hok, .of_eq hg⟩
    refine codeAny_mono ((F _ hKb (nsK hns)).run callerA [] s₁ H ⟨[.ref a], []⟩ [.ref a] [.ref a] _ _ hr e0 (hbind s₁ (.ref a)) (.cons rfl .nil) (hsp H hO hS)) fun r s' h => ?_
    cases r with
    | error e => exact (hCX H e s' h).elim
    | ok fl =>
      cases fl with
      | next => exact False.elim h
      | brk => exact False.elim h
      | cont => exact False.elim h
      | ret u =>
        obtain ⟨v, H', os, bare, un, hok', r', q⟩ := h
        have q' : v = .bl true := q
        subst q'
        obtain rfl : u = Value.bool true := r'
        refine ⟨rfl, OldK.of_keep fun b o e => ?_, os, bare⟩
        cases q : H b with
        | none => exact un.keep b o e q (by intro z; exact absurd (show b ∈ ([] : List Addr) from z) (by simp)) (by simp)
        | some u =>
          rcases hO b with z | ⟨ob, xs, z⟩
          · rw [q] at z; cases z
          · have z2 := un.frzs b ob _ z
            obtain ⟨e1, _⟩ := hok b _ z
            obtain ⟨e2, _⟩ := hok' b _ z2
            rw [e] at e1; cases e1
            exact e2
  cases hk : K.lookup a with
  | some o =>
    -- the script is one of the module's own objects
    have e := KX a o hk
    rw [ha] at e
    cases e
    refine core (fun _ => none) (fun _ => .inl rfl) (.inr ⟨_, vs.toArray, _, hk, rfl, rfl, rfl, by rw [List.size_toArray, lenV]; exact hl, by simpa using rv⟩) (fun b u z => by have z' : (none : Option HO) = some u := z; cases z') (fun b z => absurd rfl z) fun z => absurd rfl z
  | none =>
    refine core (fun b => if b = a then some (.frz { cls := .type "list", data := .seq vs.toArray } (.lst (ns.map V.int))) else none) (fun b => ?_) (.inl (.inr ⟨{ cls := .type "list", data := .seq vs.toArray }, if_pos rfl⟩)) (fun b u z => ?_) (fun b z => ?_) fun _ => hk
    · by_cases hb : b = a
      · exact .inr ⟨_, _, if_pos hb⟩
      · exact .inl (if_neg hb)
    · by_cases hb : b = a
      · have z' := (if_pos hb).symm.trans z
        cases z'
        subst hb
        exact ⟨ha, by rw [List.length_map]; exact hl, vs, _, rv, ha⟩
      · have z' := (if_neg hb).symm.trans z
        cases z'
    · by_cases hb : b = a
      · exact hb
      · exact absurd (if_neg hb) z
theorem walk_ofEG {l : PySem.W.OpenLaw} {n k : Nat} {q : Program} {loose : List Str} {XP : (Str → Option Value) → Heap → Prop} {YP : World → Heap → Prop} {d : DefRec} {CX : CXT} {x : Str}
    (hn : l.most = some n) (hn2 : n ≤ sizeLine) (hdf : d.params.defaults = []) (hr : RoomG k callerA)
    (F : ∀ (w : World) (mg : Str → Option Value) (fa : Addr) (h : Heap), YP w h → h.Ns mainGlobals mg → mg d.name = some (.ref fa) →
      ∃ (K : PySem.W.Frag) (fd : FuncData) (sp : Sp), K.In h ∧ (∀ (s : Shared) (u : Value), BindsTo s fd ⟨[u], []⟩ [(x, u)]) ∧
        (∀ (H : Hp) (a : Addr) (ns : List Int), ns.length ≤ n → Only H → SqL K H a (ns.map V.int) → sp [.ref a] H (fun v _ => v = .bl true) fun _ _ _ => False) ∧
        ∀ base : Heap, K.In base → base.Ns mainGlobals mg → FnG l.prog w K mg base CX k fa fd [x] sp)
    (hCX : ∀ (H : Hp) (s : Shared) (e : Value) (s' : Shared), CX [] H s (fun _ _ _ => False) e s' → False) :
    PySem.W.WalkO q loose XP YP l.row.toRowW d [] (fun f vs => PySem.call f vs) := by
  refine Att.attach_call hn hdf fun w s₀ s₁ mg mb fa o pm cd doc a vs ns G Y ho hd hcd hmg hobj hints hlen hg => ?_
  obtain ⟨K, fd, sp, KX, hb, hsp, hF⟩ := F w mg fa _ Y G.T.g hmg
  exact law_callG KX G.T.g G.T.b G.T.builtins G.T.nolimit hg hobj hints (Nat.le_trans hlen hn2) hr hF hb (fun H hO hS => hsp H a ns hlen hO hS) fun H e s' => hCX H s₁ e s'
end Tx

namespace Sv
open PySem PySem.Spec PyProof.Rows L2 Tx
def ownAt (Γ : Gm) (i : Nat) : Option D := match Γ[i]? with
  | some (.ow d) => some d
  | some (.io d) => some d
  | _ => none
def setOwn (Γ : Gm) (i : Nat) (d : D) : Gm := match Γ[i]? with
  | some (.ow _) => Γ.set i (.ow d)
  | some (.io _) => Γ.set i (.io d)
  | _ => Γ
section
variable {K : PySem.W.Frag} {Γ Γ' Γ0 Γ1 Γ2 : Gm} {σ σ' σ0 σ1 σ2 : L2.St} {H H' H0 H1 H2 : Hp} {a : Addr} {r : Rs} {v : V} {i j : Nat} {d d' : D}
theorem ownAt_iff : ownAt Γ i = some d ↔ Own Γ i d := by
  unfold ownAt Own
  cases h : Γ[i]? with
  | none => simp
  | some s => cases s <;> simp
theorem setOwn_own (h : ownAt Γ i = some d) : Own (setOwn Γ i d') i d' := by
  unfold ownAt at h
  unfold setOwn
  cases hg : Γ[i]? with
  | none => rw [hg] at h; cases h
  | some s =>
    rw [hg] at h
    cases s with
    | no => cases h
    | sh e => cases h
    | ow e => exact .inl (get_set_self hg)
    | io e => exact .inr (get_set_self hg)
theorem setOwn_ne (h : i ≠ j) : (setOwn Γ i d')[j]? = Γ[j]? := by
  unfold setOwn
  split
  · exact get_set_ne h
  · exact get_set_ne h
  · rfl
theorem setOwn_length : (setOwn Γ i d').length = Γ.length := by
  unfold setOwn
  split
  · exact List.length_set
  · exact List.length_set
  · rfl
theorem own_setOwn_ne (h : i ≠ j) : Own (setOwn Γ i d') j d ↔ Own Γ j d := by
  unfold Own
  rw [setOwn_ne h]
theorem Own.uniq {e : D} (h : Own Γ i d) (h' : Own Γ i e) : d = e := by
  rcases h with h | h <;> rcases h' with h' | h' <;> rw [h] at h' <;> cases h' <;> rfl
theorem cell_setOwn (h : ownAt Γ i = some d) (b : Addr) : Cell (setOwn Γ i d') σ b ↔ Cell Γ σ b := by
  constructor
  · rintro ⟨j, e, hj, hb⟩
    by_cases z : i = j
    · subst z
      exact ⟨i, d, ownAt_iff.1 h, hb⟩
    · exact ⟨j, e, (own_setOwn_ne z).1 hj, hb⟩
  · rintro ⟨j, e, hj, hb⟩
    by_cases z : i = j
    · subst z
      exact ⟨i, d', setOwn_own h, hb⟩
    · exact ⟨j, e, (own_setOwn_ne z).2 hj, hb⟩
/-- the own cell of slot i has another content; all else that stood stands -/
theorem Ste.own (e : EnvOk K Γ σ H) (ho : ownAt Γ i = some d) (hs : σ[i]? = some (some (.ref a))) (kp : ∀ b o, b ≠ a → H b = some o → H' b = some o) (hc : Cel K H' d' a) : Ste K Γ σ H (setOwn Γ i d') σ H' := by
  have cl : Cell Γ σ a := ⟨i, d, ownAt_iff.1 ho, hs⟩
  have pr : Per H H' := fun b o im hb => kp b o (fun z => by
    subst z
    obtain ⟨u, hu, nu⟩ := e.cellMut cl
    rw [hb] at hu
    cases hu
    exact nu im) hb
  refine ⟨e, ⟨fun j f hj => ?_, fun j f hj => ?_, fun j k f g b hj hk h1 h2 => ?_, by rw [setOwn_length]; exact e.len⟩, fun b o hb nb => kp b o (fun z => nb (z ▸ cl)) hb, fun b hb => ?_, fun b cb => .inl ((cell_setOwn ho b).1 cb), fun j f hj => ?_, setOwn_length, rfl⟩
  · have z : i ≠ j := fun z => by
      subst z
      rcases setOwn_own (d' := d') ho with q | q <;> rw [hj] at q <;> cases q
    rw [setOwn_ne z] at hj
    obtain ⟨v, h1, h2⟩ := e.sh j f hj
    exact ⟨v, h1, Rp.per pr f v h2⟩
  · by_cases z : i = j
    · subst z
      have := (setOwn_own ho).uniq hj
      subst this
      exact ⟨a, hs, hc⟩
    · rw [own_setOwn_ne z] at hj
      obtain ⟨b, h1, h2⟩ := e.mu j f hj
      refine ⟨b, h1, h2.keep pr fun o ho' => kp b o (fun y => z ?_) ho'⟩
      subst y
      exact e.df i j d f b (ownAt_iff.1 ho) hj hs h1
  · have t1 : ∃ f', Own Γ j f' := by
      by_cases z : i = j
      · subst z; exact ⟨d, ownAt_iff.1 ho⟩
      · exact ⟨f, (own_setOwn_ne z).1 hj⟩
    have t2 : ∃ f', Own Γ k f' := by
      by_cases z : i = k
      · subst z; exact ⟨d, ownAt_iff.1 ho⟩
      · exact ⟨g, (own_setOwn_ne z).1 hk⟩
    obtain ⟨f1, q1⟩ := t1
    obtain ⟨f2, q2⟩ := t2
    exact e.df j k f1 f2 b q1 q2 h1 h2
  · by_cases z : b = a
    · subst z
      obtain ⟨u, hu, _⟩ := hc.mut
      rw [hb] at hu
      cases hu
    · cases hh : H b with
      | none => rfl
      | some o => rw [kp b o z hh] at hb; cases hb
  · refine ⟨?_, rfl⟩
    by_cases z : i = j
    · subst z
      refine ⟨d', ?_⟩
      unfold setOwn
      rw [hj]
      exact get_set_self hj
    · exact ⟨f, by rw [setOwn_ne z]; exact hj⟩
end
/-! the call of a def of one's own -/
abbrev Fn := List Sl → Option (Rs × Option D)
def outA : List Sl → Option D → List Sl
  | .io _ :: as, some d => .io d :: as
  | as, _ => as
def okA : List Sl → Bool
  | [] => true
  | .io _ :: as => as.all fun s => match s with | .sh _ => true | _ => false
  | as => as.all fun s => match s with | .sh _ => true | _ => false
def notSlot : Rs → Bool
  | .slot _ => false
  | _ => true
def spOf (K : PySem.W.Frag) (n : Nat) (sem : Fn) : Sp := fun vs H Q _ => ∃ as r o, vs.length = n ∧ as.length = n ∧ okA as = true ∧ EnvOk K as (vs.map some) H ∧ sem as = some (r, o) ∧ notSlot r = true ∧
  ∀ v H', Ste K as (vs.map some) H (outA as o) (vs.map some) H' → Pd K (outA as o) (vs.map some) H' r v → Orig as (vs.map some) H r v → Q v H'
section
variable {K : PySem.W.Frag} {Γ Γ' Γ0 Γ1 Γ2 : Gm} {σ σ' σ0 σ1 σ2 : L2.St} {H H' H0 H1 H2 : Hp} {a : Addr} {r : Rs} {v : V} {i j : Nat} {d d' : D}
theorem get_map_sh {ds : List D} {s : Sl} (h : (ds.map Sl.sh)[i]? = some s) : ∃ e, s = .sh e ∧ ds[i]? = some e := by
  rw [List.getElem?_map] at h
  cases hh : ds[i]? with
  | none => rw [hh] at h; cases h
  | some e => rw [hh] at h; cases h; exact ⟨e, rfl, rfl⟩
theorem RpL.get : ∀ {ds : List D} {vs : List V} {i : Nat} {e : D}, RpL K H ds vs → ds[i]? = some e → ∃ v, vs[i]? = some v ∧ Rp K H e v
  | [], _, i, e, _, h => by simp at h
  | d :: ds, vs, 0, e, h, g => by
    simp only [RpL] at h
    obtain ⟨v, r, rfl, h1, h2⟩ := h
    simp only [List.getElem?_cons_zero, Option.some.injEq] at g
    subst g
    exact ⟨v, rfl, h1⟩
  | d :: ds, vs, i + 1, e, h, g => by
    simp only [RpL] at h
    obtain ⟨v, r, rfl, h1, h2⟩ := h
    rw [List.getElem?_cons_succ] at g ⊢
    exact RpL.get h2 g
theorem env_shs {ds : List D} {vs : List V} (h : RpL K H ds vs) : EnvOk K (ds.map .sh) (vs.map some) H := by
  refine ⟨fun i e he => ?_, fun i e he => ?_, fun i j e f a hi => ?_, by rw [List.length_map, List.length_map, h.length]⟩
  · obtain ⟨e', h1, h2⟩ := get_map_sh he
    cases h1
    obtain ⟨v, h3, h4⟩ := h.get h2
    exact ⟨v, by rw [List.getElem?_map, h3]; rfl, h4⟩
  · rcases he with he | he <;> (obtain ⟨e', h1, _⟩ := get_map_sh he; cases h1)
  · rcases hi with he | he <;> (obtain ⟨e', h1, _⟩ := get_map_sh he; cases h1)
theorem env_io {ds : List D} {vs : List V} (h : RpL K H ds vs) (c : Cel K H d a) : EnvOk K (.io d :: ds.map .sh) ((V.ref a :: vs).map some) H := by
  have E := env_shs h
  refine ⟨fun i e he => ?_, fun i e he => ?_, fun i j e f b hi hj _ _ => ?_, by simp [h.length]⟩
  · cases i with
    | zero => cases he
    | succ i => exact E.sh i e he
  · cases i with
    | zero =>
      rcases he with he | he
      · cases he
      · cases he; exact ⟨a, rfl, c⟩
    | succ i => exact E.mu i e he
  · cases i with
    | zero =>
      cases j with
      | zero => rfl
      | succ j =>
        exfalso
        rcases hj with hj | hj <;> (rw [List.getElem?_cons_succ] at hj; obtain ⟨e', h1, _⟩ := get_map_sh hj; cases h1)
    | succ i =>
      exfalso
      rcases hi with hj | hj <;> (rw [List.getElem?_cons_succ] at hj; obtain ⟨e', h1, _⟩ := get_map_sh hj; cases h1)
theorem okA_shs (ds : List D) : okA (ds.map .sh) = true := by
  cases ds with
  | nil => rfl
  | cons d ds => simp [okA, List.all_eq_true]
theorem okA_io (d : D) (ds : List D) : okA (.io d :: ds.map .sh) = true := by
  show ((ds.map Sl.sh).all _) = true
  rw [List.all_eq_true]
  intro s hs
  rw [List.mem_map] at hs
  obtain ⟨e, _, rfl⟩ := hs
  rfl
theorem noCell_shs {ds : List D} {b : Addr} : ¬ Cell (ds.map .sh) σ b := by
  rintro ⟨i, e, he, _⟩
  rcases he with he | he <;> (obtain ⟨e', h1, _⟩ := get_map_sh he; cases h1)
theorem cell_io {ds : List D} {vs : List V} {b : Addr} (c : Cell (.io d :: ds.map .sh) ((V.ref a :: vs).map some) b) : b = a := by
  obtain ⟨i, e, he, hb⟩ := c
  cases i with
  | zero => cases hb; rfl
  | succ i => rcases he with he | he <;> (rw [List.getElem?_cons_succ] at he; obtain ⟨e', h1, _⟩ := get_map_sh he; cases h1)
end
/-- arguments whose first is lent -/
def rdL (K : PySem.W.Frag) (Γ : Gm) (i : Nat) (ds : List D) (Γ' : Gm) : TA := fun σ H Q => EnvOk K Γ σ H ∧ ∀ v vs H', Ste K Γ σ H Γ' σ H' → σ[i]? = some (some v) → RpL K H' ds vs → Q (v :: vs) H'
theorem dl_take {X : Cx} {es : List Expr} {Γ Γ1 Γ2 : Gm} {i : Nat} {rs : List Rs} {ds : List D} (h : DA X es Γ (.slot i :: rs) Γ1) (ht : takeRs rs Γ1 = some (ds, Γ2)) : PA X es (rdL X.K Γ i ds Γ2) := by
  refine ⟨fun pos pins s σ H Q I q => ?_⟩
  refine thn (h.run pos pins s σ H (fun vs H1 => Ste X.K Γ σ H Γ1 σ H1 ∧ Pds X.K Γ1 σ H1 (.slot i :: rs) vs ∧ Origs Γ σ H (.slot i :: rs) vs) I ⟨q.1, fun vs H1 a b c => ⟨a, b, c⟩⟩) fun us s' hh => ?_
  obtain ⟨vs, H1, I1, rv, A, p, og⟩ := hh
  obtain ⟨v, ws, rfl, p1, p2, _⟩ := p
  obtain ⟨H2, I2, B, rp, _⟩ := takes_ok I1 A p2 (fun p hp => og p (by rw [List.zip_cons_cons]; exact List.mem_cons_of_mem _ hp)) ht
  exact ⟨v :: ws, H2, I2, rv, q.2 v ws H2 B p1 rp⟩
section
variable {X : Cx} {Γ Γ1 Γ2 : Gm} {k n : Nat} {f : Addr} {fd : FuncData} {ps : List Str} {sem : Fn} {x : Str} {p pos : Pos} {e : Expr} {es : List Expr} {r : Rs} {o : Option D} {ds : List D}
theorem de_call (F : FnG X.prog X.w X.K X.mg X.base CX0 k f fd ps (spOf X.K n sem)) (hr : RoomG k X.A) (hg : Gl X x) (hm : X.mg x = some (.ref f)) (hk : PySem.W.keepIn X.K (.ref f) = true) (hb : Binds X.K fd ps [])
    (ha : DC X (e :: es) Γ ds Γ1) (hl : ds.length = n) (hs : sem (ds.map .sh) = some (r, o)) (ns : notSlot r = true) (hd : (x == ("__debug__" : Str)) = false) (he : starEach (e :: es) X.env = (false, eval e X.env) :: starEach es X.env) (hpl : (backTo pos (starEach es X.env)).any (·.1) = false) :
    DE X (.Call (.Name x p) (e :: es) [] pos) Γ r Γ1 := by
  refine pe_sub (pe_callG F hr hg hm hk hb .nil (E := fun _ _ _ => False) (fun _ _ _ _ _ _ _ h => h.elim) ha hd he hpl) fun σ H Q q => ⟨q.1, fun vs H1 s1 rp => ?_⟩
  show spOf X.K n sem (vs ++ []) H1 Q _
  rw [List.append_nil]
  have oe : outA (ds.map .sh) o = ds.map .sh := by cases ds <;> rfl
  refine ⟨ds.map .sh, r, o, by rw [rp.length]; exact hl, by rw [List.length_map]; exact hl, okA_shs ds, env_shs rp, hs, ns, fun v H2 s2 p2 o2 => ?_⟩
  rw [oe] at s2 p2
  have sm : Same H1 H2 := fun b u hb => s2.keep b u hb noCell_shs
  have fr : Fr X.K H1 r v H2 := by
    cases r with
    | val d => exact p2
    | slot i => cases ns
    | new d =>
      obtain ⟨a, ea, c, _⟩ := p2
      refine ⟨a, ea, ?_, c⟩
      rcases o2 a ea with c' | c'
      · exact absurd c' noCell_shs
      · exact c'
  obtain ⟨s3, p3, o3⟩ := fr.lift s1.env sm
  exact q.2 v H2 (s1.trans s3) p3 (o3.ste s1)
theorem de_callL {i : Nat} {d d' : D} (F : FnG X.prog X.w X.K X.mg X.base CX0 k f fd ps (spOf X.K n sem)) (hr : RoomG k X.A) (hg : Gl X x) (hm : X.mg x = some (.ref f)) (hk : PySem.W.keepIn X.K (.ref f) = true) (hb : Binds X.K fd ps [])
    (ha : PA X (e :: es) (rdL X.K Γ i ds Γ1)) (ho : ownAt Γ1 i = some d) (hl : ds.length + 1 = n) (hs : sem (.io d :: ds.map .sh) = some (r, some d')) (ns : notSlot r = true) (hd : (x == ("__debug__" : Str)) = false) (he : starEach (e :: es) X.env = (false, eval e X.env) :: starEach es X.env) (hpl : (backTo pos (starEach es X.env)).any (·.1) = false) :
    DE X (.Call (.Name x p) (e :: es) [] pos) Γ r (setOwn Γ1 i d') := by
  refine pe_sub (pe_callG F hr hg hm hk hb .nil (E := fun _ _ _ => False) (fun _ _ _ _ _ _ _ h => h.elim) ha hd he hpl) fun σ H Q q => ⟨q.1, fun v0 vs H1 s1 hv rp => ?_⟩
  show spOf X.K n sem (v0 :: vs ++ []) H1 Q _
  rw [List.append_nil]
  obtain ⟨a, ha', c⟩ := s1.env.mu i d (ownAt_iff.1 ho)
  rw [hv] at ha'
  cases ha'
  refine ⟨.io d :: ds.map .sh, r, some d', by rw [List.length_cons, rp.length]; exact hl, by rw [List.length_cons, List.length_map]; exact hl, okA_io d ds, env_io rp c, hs, ns, fun v H2 s2 p2 o2 => ?_⟩
  simp only [outA] at s2 p2
  have kp : ∀ b u, b ≠ a → H1 b = some u → H2 b = some u := fun b u nb hb => s2.keep b u hb fun cc => nb (cell_io cc)
  obtain ⟨a', ea, c'⟩ := s2.env.mu 0 d' (.inr rfl)
  cases ea
  have st := Ste.own s1.env ho hv kp c'
  refine q.2 v H2 (s1.trans st) ?_ ?_
  · cases r with
    | val e => exact p2
    | slot i => cases ns
    | new e =>
      obtain ⟨b, eb, cb, nb⟩ := p2
      refine ⟨b, eb, cb, fun cc => ?_⟩
      rcases o2 b eb with c2 | c2
      · have := cell_io c2
        subst this
        exact nb ⟨0, d', .inr rfl, rfl⟩
      · obtain ⟨u, hu, _⟩ := s1.env.cellMut ((cell_setOwn ho b).1 cc)
        rw [c2] at hu
        cases hu
  · cases r with
    | val e => trivial
    | slot i => cases ns
    | new e =>
      intro b eb
      obtain ⟨b', eb', cb, nb⟩ := p2
      rw [eb] at eb'
      cases eb'
      rcases o2 b eb with c2 | c2
      · have := cell_io c2
        subst this
        exact absurd ⟨0, d', .inr rfl, rfl⟩ nb
      · exact .inr (s1.live b c2)
/-! by names -/
def gP (perm : List Nat) (ws : List Value) : List Value := perm.map fun j => ws.getD j .none
def gPV (perm : List Nat) (zs : List V) : List V := perm.map fun j => zs.getD j .non
def gPD (perm : List Nat) (ds : List D) : List D := perm.map fun j => ds.getD j .non
theorem vals_getD {zs : List V} {ws : List Value} (h : Vals zs ws) : ∀ j : Nat, RelV (zs.getD j .non) (ws.getD j .none) := by
  induction h with
  | nil => intro j; simp only [List.getD_nil]; rfl
  | cons r t ih =>
    intro j
    cases j with
    | zero => simpa using r
    | succ j => simpa using ih j
theorem vals_gP {perm : List Nat} {zs : List V} {ws : List Value} (h : Vals zs ws) : Vals (gPV perm zs) (gP perm ws) := by
  unfold gPV gP
  induction perm with
  | nil => exact .nil
  | cons j perm ih => exact .cons (vals_getD h j) ih
theorem rpL_getD {K : PySem.W.Frag} {H : Hp} : ∀ {ds : List D} {vs : List V} (j : Nat), RpL K H ds vs → Rp K H (ds.getD j .non) (vs.getD j .non)
  | [], vs, j, h => by
    simp only [RpL] at h
    subst h
    simp only [List.getD_nil, Rp]
  | d :: ds, vs, j, h => by
    simp only [RpL] at h
    obtain ⟨v, w, rfl, h1, h2⟩ := h
    cases j with
    | zero => simpa using h1
    | succ j => simpa using rpL_getD j h2
theorem rpL_gP {K : PySem.W.Frag} {H : Hp} {ds : List D} {vs : List V} (h : RpL K H ds vs) : ∀ perm : List Nat, RpL K H (gPD perm ds) (gPV perm vs)
  | [] => rfl
  | j :: perm => ⟨_, _, rfl, rpL_getD j h, rpL_gP h perm⟩
theorem dka_nil {X : Cx} {Γ : Gm} : PK X [] (rdA X.K Γ [] Γ) := ⟨fun pos pins s σ H Q I q => pk_nil.run pos pins s σ H Q I (q.2 [] H (Ste.refl q.1) rfl (fun _ h => by simp at h))⟩
theorem dka_cons {X : Cx} {e : Expr} {kws : List Keyword} {nm : Option Str} {kpos : Pos} {Γ Γ1 Γ2 : Gm} {r : Rs} {rs : List Rs} (h : DE X e Γ r Γ1) (hs : PK X kws (rdA X.K Γ1 rs Γ2)) : PK X (⟨nm, e, kpos⟩ :: kws) (rdA X.K Γ (r :: rs) Γ2) := by
  refine ⟨fun pos pins s σ H Q I q => (pk_cons (nm := nm) (kpos := kpos) h hs).run pos pins s σ H Q I ⟨q.1, fun v H1 s1 p1 o1 => ⟨s1.env, fun vs H2 s2 p2 o2 => q.2 (v :: vs) H2 (s1.trans s2) ⟨v, vs, rfl, p1.ste s2, p2, fun n p hp np e => ?_⟩ fun p hp => ?_⟩⟩⟩
  · cases r with
    | val d => cases n
    | slot i => cases n
    | new d =>
      obtain ⟨a, ea, c, nc⟩ := p1
      obtain ⟨u, hu, _⟩ := c.mut
      have oo := o2 p hp
      cases hr : p.1 with
      | val d => rw [hr] at np; cases np
      | slot i => rw [hr] at np; cases np
      | new d' =>
        rw [hr] at oo
        rcases oo a (e.trans ea) with c | c
        · exact nc c
        · rw [c] at hu; cases hu
  · rw [List.zip_cons_cons, List.mem_cons] at hp
    rcases hp with rfl | hp
    · exact o1
    · exact (o2 p hp).ste s1
theorem dk_take {X : Cx} {kws : List Keyword} {Γ Γ1 Γ2 : Gm} {rs : List Rs} {ds : List D} (h : PK X kws (rdA X.K Γ rs Γ1)) (ht : takeRs rs Γ1 = some (ds, Γ2)) : PK X kws (rdC X.K Γ ds Γ2) := by
  refine ⟨fun pos pins s σ H Q I q => ?_⟩
  refine thn (h.run pos pins s σ H (fun vs H1 => Ste X.K Γ σ H Γ1 σ H1 ∧ Pds X.K Γ1 σ H1 rs vs ∧ Origs Γ σ H rs vs) I ⟨q.1, fun vs H1 a b c => ⟨a, b, c⟩⟩) fun us s' hh => ?_
  obtain ⟨vs, H1, I1, rv, A, p, og⟩ := hh
  obtain ⟨H2, I2, B, rp, _⟩ := takes_ok I1 A p og ht
  exact ⟨vs, H2, I2, rv, q.2 vs H2 B rp⟩
theorem de_callK {kws : List Keyword} {ks : List Str} {perm : List Nat} (F : FnG X.prog X.w X.K X.mg X.base CX0 k f fd ps (spOf X.K n sem)) (hr : RoomG k X.A) (hg : Gl X x) (hm : X.mg x = some (.ref f)) (hk : PySem.W.keepIn X.K (.ref f) = true) (hb : KBn X.K fd ps 0 ks (fun _ ws => gP perm ws) (fun _ zs => gPV perm zs))
    (ha : PK X kws (rdC X.K Γ ds Γ1)) (hkl : ds.length = ks.length) (hl : perm.length = n) (hs : sem ((gPD perm ds).map .sh) = some (r, o)) (ns : notSlot r = true) (hd : (x == ("__debug__" : Str)) = false)
    (hall : (backToKw pos (keywordEach kws X.env)).all (·.1.isSome) = true) (hks : (backToKw pos (keywordEach kws X.env)).filterMap (·.1) = ks)
    (hpl : ((backTo pos (starEach [] X.env)).any (·.1) || (backToKw pos (keywordEach kws X.env)).any (·.1.isNone)) = false) :
    DE X (.Call (.Name x p) [] kws pos) Γ r Γ1 := by
  refine pe_sub (pe_callK0G F hr hg hm hk hb (E := fun _ _ _ => False) (fun _ _ _ _ _ _ _ h => h.elim) ha hall hks hd hpl) fun σ H Q q => ⟨q.1, fun vs H1 s1 rp => ⟨by rw [rp.length]; exact hkl, ?_⟩⟩
  show spOf X.K n sem (gPV perm vs) H1 Q _
  have rp' := rpL_gP rp perm
  have gl : (gPD perm ds).length = n := by unfold gPD; rw [List.length_map]; exact hl
  generalize gPD perm ds = ds at *
  generalize gPV perm vs = vs at *
  have oe : outA (ds.map .sh) o = ds.map .sh := by cases ds <;> rfl
  refine ⟨ds.map .sh, r, o, by rw [rp'.length]; exact gl, by rw [List.length_map]; exact gl, okA_shs ds, env_shs rp', hs, ns, fun v H2 s2 p2 o2 => ?_⟩
  rw [oe] at s2 p2
  have sm : Same H1 H2 := fun b u hb => s2.keep b u hb noCell_shs
  have fr : Fr X.K H1 r v H2 := by
    cases r with
    | val d => exact p2
    | slot i => cases ns
    | new d =>
      obtain ⟨a, ea, c, _⟩ := p2
      refine ⟨a, ea, ?_, c⟩
      rcases o2 a ea with c' | c'
      · exact absurd c' noCell_shs
      · exact c'
  obtain ⟨s3, p3, o3⟩ := fr.lift s1.env sm
  exact q.2 v H2 (s1.trans s3) p3 (o3.ste s1)
end
end Sv

namespace Sv
open PySem PySem.Spec PyProof.Rows L2
/-! binding a name -/
def slOf : Rs → Option Sl
  | .val d => some (.sh d)
  | .new d => some (.ow d)
  | .slot _ => none
def mayBind (Γ : Gm) (i : Nat) : Bool := match Γ[i]? with
  | none => false
  | some (.io _) => false
  | some _ => true
def bindR (i : Nat) (r : Rs) (Γ : Gm) : Option Gm := if mayBind Γ i then (slOf r).map fun s => Γ.set i s else none
section
variable {K : PySem.W.Frag} {Γ Γ' Γ0 Γ1 Γ2 : Gm} {σ σ' σ0 σ1 σ2 : L2.St} {H H' H0 H1 H2 : Hp} {a : Addr} {r : Rs} {v : V} {i j : Nat} {d d' : D}
theorem mayBind_lt (h : mayBind Γ i = true) : i < Γ.length ∧ ∀ d, Γ[i]? ≠ some (.io d) := by
  unfold mayBind at h
  cases hg : Γ[i]? with
  | none => rw [hg] at h; cases h
  | some s =>
    refine ⟨(List.getElem?_eq_some_iff.1 hg).1, fun d e => ?_⟩
    cases e
    rw [hg] at h
    cases h
theorem bindR_some (h : bindR i r Γ = some Γ') : mayBind Γ i = true ∧ ∃ s, slOf r = some s ∧ Γ' = Γ.set i s := by
  unfold bindR at h
  cases hm : mayBind Γ i with
  | false => rw [hm] at h; cases h
  | true =>
    rw [hm] at h
    cases hs : slOf r with
    | none => rw [hs] at h; cases h
    | some s => rw [hs] at h; cases h; exact ⟨rfl, s, rfl, rfl⟩
theorem set_lt {α : Type} {l : List α} {x : α} (h : i < l.length) : (l.set i x)[i]? = some x := by
  rw [List.getElem?_set_self h]
theorem Ste.bind (A : Ste K Γ0 σ0 H0 Γ σ H) (hl : σ.length = Γ.length) (hb : bindR i r Γ = some Γ') (p : Pd K Γ σ H r v) (og : Orig Γ0 σ0 H0 r v) : Ste K Γ0 σ0 H0 Γ' (σ.set i (some v)) H := by
  obtain ⟨hm, s, hs, rfl⟩ := bindR_some hb
  obtain ⟨lt, nio⟩ := mayBind_lt hm
  have ltσ : i < σ.length := by rw [hl]; exact lt
  have nown : ∀ j d, j ≠ i → (Own (Γ.set i s) j d ↔ Own Γ j d) := fun j d z => own_set_ne (Ne.symm z)
  have sub' : ∀ b, Cell (Γ.set i s) (σ.set i (some v)) b → Cell Γ σ b ∨ (∃ d, r = .new d ∧ v = .ref b) := by
    rintro b ⟨j, e, hj, hb'⟩
    by_cases z : j = i
    · subst z
      rw [set_lt ltσ] at hb'
      have hv : v = .ref b := by injection hb' with q; injection q
      right
      cases r with
      | val d =>
        cases hs
        rcases hj with hj | hj <;> (rw [set_lt lt] at hj; cases hj)
      | new d => exact ⟨d, rfl, hv⟩
      | slot k => cases hs
    · left
      rw [get_set_ne (Ne.symm z)] at hb'
      exact ⟨j, e, (nown j e z).1 hj, hb'⟩
  refine ⟨A.e0, ⟨fun j e hj => ?_, fun j e hj => ?_, fun j k e f b hj hk h1 h2 => ?_, by rw [List.length_set, List.length_set]; exact hl⟩, A.keep, A.live, fun b cb => ?_, fun j e hj => ?_, by rw [List.length_set]; exact A.gl, by rw [List.length_set]; exact A.sl⟩
  · by_cases z : j = i
    · subst z
      rw [set_lt lt] at hj
      cases hj
      refine ⟨v, set_lt ltσ, ?_⟩
      cases r with
      | val d => cases hs; exact p
      | new d => cases hs
      | slot k => cases hs
    · rw [get_set_ne (Ne.symm z)] at hj ⊢
      exact A.env.sh j e hj
  · by_cases z : j = i
    · subst z
      cases r with
      | val d =>
        cases hs
        rcases hj with hj | hj <;> (rw [set_lt lt] at hj; cases hj)
      | slot k => cases hs
      | new d =>
        cases hs
        obtain ⟨a, rfl, c, nc⟩ := p
        have : e = d := by rcases hj with hj | hj <;> (rw [set_lt lt] at hj; cases hj); rfl
        subst this
        exact ⟨a, set_lt ltσ, c⟩
    · rw [nown j e z] at hj
      rw [get_set_ne (Ne.symm z)]
      exact A.env.mu j e hj
  · have key : ∀ j e, Own (Γ.set i s) j e → (σ.set i (some v))[j]? = some (some (.ref b)) → j = i → ∀ k f, Own (Γ.set i s) k f → (σ.set i (some v))[k]? = some (some (.ref b)) → k = i := by
      intro j e hj h1 z k f hk h2
      subst z
      apply Classical.byContradiction
      intro y
      rw [set_lt ltσ] at h1
      have hv : v = .ref b := by injection h1 with q; injection q
      cases r with
      | val d =>
        cases hs
        rcases hj with hj | hj <;> (rw [set_lt lt] at hj; cases hj)
      | slot k => cases hs
      | new d =>
        obtain ⟨a, ea, c, nc⟩ := p
        rw [hv] at ea
        cases ea
        rw [get_set_ne (Ne.symm y)] at h2
        exact nc ⟨k, f, (nown k f y).1 hk, h2⟩
    by_cases z : j = i
    · rw [z, key j e hj h1 z k f hk h2]
    · by_cases y : k = i
      · exact absurd (key k f hk h2 y j e hj h1) z
      · rw [get_set_ne (Ne.symm z)] at h1
        rw [get_set_ne (Ne.symm y)] at h2
        exact A.env.df j k e f b ((nown j e z).1 hj) ((nown k f y).1 hk) h1 h2
  · rcases sub' b cb with c | ⟨d, hr, hv⟩
    · exact A.sub b c
    · subst hr
      exact og b hv
  · obtain ⟨⟨e', h1⟩, h2⟩ := A.io j e hj
    have z : i ≠ j := fun z => by subst z; exact nio _ h1
    exact ⟨⟨e', by rw [get_set_ne z]; exact h1⟩, by rw [get_set_ne z]; exact h2⟩
theorem bindR_length (hb : bindR i r Γ = some Γ') : Γ'.length = Γ.length := by
  obtain ⟨hm, s, hs, rfl⟩ := bindR_some hb
  exact List.length_set
end
/-! statements -/
inductive Fl where
  | nx | bk | ct | rt (r : Rs)
  deriving Inhabited
def rdS (K : PySem.W.Frag) (Γ : Gm) (fl : Fl) (Γ' : Gm) : TS := fun D σ H => EnvOk K Γ σ H ∧ σ.length = Γ.length ∧ match fl with
  | .nx => ∀ σ' H', Ste K Γ σ H Γ' σ' H' → D.nx σ' H'
  | .bk => ∀ σ' H', Ste K Γ σ H Γ' σ' H' → D.bk σ' H'
  | .ct => ∀ σ' H', Ste K Γ σ H Γ' σ' H' → D.ct σ' H'
  | .rt r => ∀ v σ' H', Ste K Γ σ H Γ' σ' H' → Pd K Γ' σ' H' r v → Orig Γ σ H r v → notSlot r = true → D.rt v H'
def DS (X : Cx) (st : Stmt) (Γ : Gm) (fl : Fl) (Γ' : Gm) : Prop := PS X st (rdS X.K Γ fl Γ')
def DSs (X : Cx) (sts : List Stmt) (Γ : Gm) (fl : Fl) (Γ' : Gm) : Prop := PSs X sts (rdS X.K Γ fl Γ')
theorem Ste.lens {K : PySem.W.Frag} {Γ Γ' : Gm} {σ σ' : L2.St} {H H' : Hp} (s : Ste K Γ σ H Γ' σ' H') (l : σ.length = Γ.length) : σ'.length = Γ'.length := by rw [s.sl, s.gl, l]
section
variable {X : Cx} {Γ Γ1 Γ2 : Gm} {st : Stmt} {rest : List Stmt} {fl : Fl} {e c : Expr} {r : Rs} {pos : Pos} {i : Nat} {d : D}
theorem rdS_seq {K : PySem.W.Frag} {D : Ends} {σ σ1 : L2.St} {H H1 : Hp} (s : Ste K Γ σ H Γ1 σ1 H1) (q : rdS K Γ fl Γ2 D σ H) : rdS K Γ1 fl Γ2 D σ1 H1 := by
  refine ⟨s.env, s.lens q.2.1, ?_⟩
  cases fl with
  | nx => exact fun σ' H' s' => q.2.2 σ' H' (s.trans s')
  | bk => exact fun σ' H' s' => q.2.2 σ' H' (s.trans s')
  | ct => exact fun σ' H' s' => q.2.2 σ' H' (s.trans s')
  | rt r => exact fun v σ' H' s' p' o' n' => q.2.2 v σ' H' (s.trans s') p' (o'.ste s) n'
theorem dss_nil : DSs X [] Γ .nx Γ := pss_sub pss_nil fun D σ H q => q.2.2 σ H (Ste.refl q.1)
theorem dss_cons (h : DS X st Γ .nx Γ1) (hs : DSs X rest Γ1 fl Γ2) : DSs X (st :: rest) Γ fl Γ2 :=
  pss_sub (pss_cons h hs) fun D σ H q => ⟨q.1, q.2.1, fun σ1 H1 s1 => rdS_seq s1 q⟩
theorem dss_stop (h : DS X st Γ fl Γ1) (hn : fl ≠ .nx) : DSs X (st :: rest) Γ fl Γ1 :=
  pss_sub (pss_cons h pss_never) fun D σ H q => ⟨q.1, q.2.1, by
    cases fl with
    | nx => exact absurd rfl hn
    | bk => exact q.2.2
    | ct => exact q.2.2
    | rt r => exact q.2.2⟩
theorem ds_if {k : Bool} {a b : List Stmt} (hc : DT X c Γ k Γ1) (ha : k = true → DSs X a Γ1 fl Γ2) (hb : k = false → DSs X b Γ1 fl Γ2) : DS X (.If c a b pos) Γ fl Γ2 := by
  cases k with
  | true => exact ps_sub (ps_if hc (ha rfl) pss_never) fun D σ H q => ⟨q.1, fun H1 s1 => rdS_seq s1 q⟩
  | false => exact ps_sub (ps_if hc pss_never (hb rfl)) fun D σ H q => ⟨q.1, fun H1 s1 => rdS_seq s1 q⟩
theorem ds_pass : DS X (.Pass pos) Γ .nx Γ := ps_sub ps_pass fun D σ H q => q.2.2 σ H (Ste.refl q.1)
theorem ds_break : DS X (.Break pos) Γ .bk Γ := ps_sub ps_break fun D σ H q => q.2.2 σ H (Ste.refl q.1)
theorem ds_continue : DS X (.Continue pos) Γ .ct Γ := ps_sub ps_continue fun D σ H q => q.2.2 σ H (Ste.refl q.1)
theorem ds_retN : DS X (.Return none pos) Γ (.rt (.val .non)) Γ := ps_sub ps_retN fun D σ H q => q.2.2 .non σ H (Ste.refl q.1) (by simp only [Pd, Rp]) trivial rfl
theorem ds_ret (h : DE X e Γ r Γ1) (hn : notSlot r = true) : DS X (.Return (some e) pos) Γ (.rt r) Γ1 :=
  ps_sub (ps_ret h) fun D σ H q => ⟨q.1, fun v H1 s1 p1 o1 => q.2.2 v σ H1 s1 p1 o1 hn⟩
/-- the own cell of a slot handed back -/
theorem Ste.moved {K : PySem.W.Frag} {Γ0 Γ : Gm} {σ0 σ : L2.St} {H0 H : Hp} {v : V} (A : Ste K Γ0 σ0 H0 Γ σ H) (hg : Γ[i]? = some (.ow d)) (hv : σ[i]? = some (some v)) :
    Ste K Γ0 σ0 H0 (Γ.set i .no) σ H ∧ Pd K (Γ.set i .no) σ H (.new d) v ∧ Orig Γ0 σ0 H0 (.new d) v := by
  have no : ∀ j e, Own (Γ.set i .no) j e → j ≠ i ∧ Own Γ j e := fun j e hj => by
    have z : j ≠ i := fun z => by
      subst z
      rcases hj with hj | hj <;> (rw [get_set_self hg] at hj; cases hj)
    exact ⟨z, (own_set_ne (Ne.symm z)).1 hj⟩
  obtain ⟨a, h1, c⟩ := A.env.mu i d (.inl hg)
  rw [hv] at h1
  cases h1
  refine ⟨⟨A.e0, ⟨fun j e hj => ?_, fun j e hj => A.env.mu j e (no j e hj).2, fun j k e f b hj hk => A.env.df j k e f b (no j e hj).2 (no k f hk).2, by rw [List.length_set]; exact A.env.len⟩, A.keep, A.live, fun b cb => ?_, fun j e hj => ?_, by rw [List.length_set]; exact A.gl, A.sl⟩, ⟨a, rfl, c, ?_⟩, fun b eb => ?_⟩
  · have z : i ≠ j := fun z => by subst z; rw [get_set_self hg] at hj; cases hj
    rw [get_set_ne z] at hj
    exact A.env.sh j e hj
  · obtain ⟨j, e, hj, hb⟩ := cb
    exact A.sub b ⟨j, e, (no j e hj).2, hb⟩
  · obtain ⟨⟨e', h1⟩, h2⟩ := A.io j e hj
    have z : i ≠ j := fun z => by subst z; rw [hg] at h1; cases h1
    exact ⟨⟨e', by rw [get_set_ne z]; exact h1⟩, h2⟩
  · rintro ⟨j, e, hj, hb⟩
    exact (no j e hj).1 (A.env.df j i e d a (no j e hj).2 (.inl hg) hb hv)
  · cases eb
    exact A.sub _ ⟨i, d, .inl hg, hv⟩
theorem ds_retM (h : DE X e Γ (.slot i) Γ1) (hg : Γ1[i]? = some (.ow d)) : DS X (.Return (some e) pos) Γ (.rt (.new d)) (Γ1.set i .no) :=
  ps_sub (ps_ret h) fun D σ H q => ⟨q.1, fun v H1 s1 p1 o1 => by
    obtain ⟨a, b, c⟩ := s1.moved hg p1
    exact q.2.2 v σ H1 a b c rfl⟩
theorem ds_drop (h : DE X e Γ r Γ1) (hs : swapsWith e none pos.line X.env = pure false) : DS X (.Expr e pos) Γ .nx Γ1 :=
  ps_sub (ps_expr h hs) fun D σ H q => ⟨q.1, fun v H1 s1 p1 o1 => q.2.2 σ H1 s1⟩
theorem ds_doc {x : Str} {j : Nat} {pos' : Pos} : DS X (.Expr (.Constant (.str x) j pos) pos') Γ .nx Γ := ps_sub ps_doc fun D σ H q => q.2.2 σ H (Ste.refl q.1)
/-- x = e -/
theorem ds_set {x : Str} {pos' : Pos} (hN : X.N.Nodup) (hi : X.N[i]? = some x) (hx : Loc X.env.scope x) (he : DE X e Γ r Γ1) (hb : bindR i r Γ1 = some Γ2) (hs : swapsWith e (some (.Name x pos')) pos.line X.env = pure false) (hf : X.fn x = true ∨ X.env.scope.names.lookup x = some .local) :
    DS X (.Assign [.Name x pos'] e pos) Γ .nx Γ2 :=
  ps_sub (ps_set hN hi hx he hs hf) fun D σ H q => ⟨q.1, fun v H1 s1 p1 o1 => q.2.2 _ H1 (s1.bind (s1.lens q.2.1) hb p1 o1)⟩
/-- while -/
def whileL (c : Gm → Option (Bool × Gm)) (b : Gm → Option (Fl × Gm)) : Nat → Gm → Option (Fl × Gm)
  | 0, _ => none
  | n + 1, Γ => match c Γ with
    | none => none
    | some (false, Γ1) => some (.nx, Γ1)
    | some (true, Γ1) => match b Γ1 with
      | none => none
      | some (.nx, Γ2) => whileL c b n Γ2
      | some (.ct, Γ2) => whileL c b n Γ2
      | some (.bk, Γ2) => some (.nx, Γ2)
      | some (.rt r, Γ2) => some (.rt r, Γ2)
theorem ds_while {body : List Stmt} {fc : Gm → Option (Bool × Gm)} {fb : Gm → Option (Fl × Gm)} {n : Nat} (hp : PassesOwn (model X.prog X.w) X.A X.env X.xe) (hc : ∀ Γ k Γ1, fc Γ = some (k, Γ1) → DT X c Γ k Γ1) (hb : ∀ Γ fl Γ1, fb Γ = some (fl, Γ1) → DSs X body Γ fl Γ1)
    (h : whileL fc fb n Γ = some (fl, Γ2)) : DS X (.While c body [] pos) Γ fl Γ2 := by
  refine ps_sub (ps_while (tc := fun σ H Q => ∃ Γ k Γ1, fc Γ = some (k, Γ1) ∧ rdT X.K Γ k Γ1 σ H Q) (tb := fun D σ H => ∃ Γ fl Γ1, fb Γ = some (fl, Γ1) ∧ rdS X.K Γ fl Γ1 D σ H) hp
    ⟨fun pins s σ H Q I q => by obtain ⟨Γ, k, Γ1, e, q⟩ := q; exact (hc Γ k Γ1 e).run pins s σ H Q I q⟩ ⟨fun pins s σ H D I q => by obtain ⟨Γ, k, Γ1, e, q⟩ := q; exact (hb Γ k Γ1 e).run pins s σ H D I q⟩) fun D σ H q => ?_
  refine ⟨fun m σ' H' => ∃ Γ', whileL fc fb m Γ' = some (fl, Γ2) ∧ rdS X.K Γ' fl Γ2 D σ' H', ⟨n, Γ, h, q⟩, fun m σ' H' hw => ?_⟩
  obtain ⟨Γ', hm, q'⟩ := hw
  cases m with
  | zero => cases hm
  | succ m =>
    simp only [whileL] at hm
    cases hf : fc Γ' with
    | none => rw [hf] at hm; cases hm
    | some p =>
      obtain ⟨k, Γ1⟩ := p
      rw [hf] at hm
      refine ⟨Γ', k, Γ1, hf, q'.1, fun H1 s1 => ?_⟩
      cases k with
      | false =>
        simp only [Option.some.injEq, Prod.mk.injEq] at hm
        obtain ⟨rfl, rfl⟩ := hm
        rw [if_neg (by decide)]
        exact q'.2.2 σ' H1 s1
      | true =>
        rw [if_pos rfl]
        simp only at hm
        cases hg : fb Γ1 with
        | none => rw [hg] at hm; cases hm
        | some p =>
          obtain ⟨f, Γ3⟩ := p
          rw [hg] at hm
          have q1 := rdS_seq s1 q'
          refine ⟨fun σ'' H'' => ∃ m', m' < m + 1 ∧ ∃ Γ', whileL fc fb m' Γ' = some (fl, Γ2) ∧ rdS X.K Γ' fl Γ2 D σ'' H'', fun σ'' H'' hh => hh, Γ1, f, Γ3, hg, q1.1, q1.2.1, ?_⟩
          cases f with
          | nx => exact fun σ2 H2 s2 => ⟨m, Nat.lt_succ_self m, Γ3, hm, rdS_seq s2 q1⟩
          | ct => exact fun σ2 H2 s2 => ⟨m, Nat.lt_succ_self m, Γ3, hm, rdS_seq s2 q1⟩
          | bk =>
            simp only [Option.some.injEq, Prod.mk.injEq] at hm
            obtain ⟨rfl, rfl⟩ := hm
            exact fun σ2 H2 s2 => q1.2.2 σ2 H2 s2
          | rt r =>
            simp only [Option.some.injEq, Prod.mk.injEq] at hm
            obtain ⟨rfl, rfl⟩ := hm
            exact fun v σ2 H2 s2 p2 o2 n2 => q1.2.2 v σ2 H2 s2 p2 o2 n2
end
end Sv

namespace Sv
open PySem PySem.Spec PyProof.Rows L2
inductive Tg where
  | nm (i : Nat) | tp (ts : List Tg)
  deriving Inhabited
mutual
def bindT : Tg → D → Gm → Option Gm
  | .nm i, d, Γ => bindR i (.val d) Γ
  | .tp ts, .tup ds, Γ => bindTs ts ds Γ
  | .tp ts, .lst ds, Γ => bindTs ts ds Γ
  | _, _, _ => none
def bindTs : List Tg → List D → Gm → Option Gm
  | [], [], Γ => some Γ
  | t :: ts, d :: ds, Γ => match bindT t d Γ with
    | none => none
    | some Γ1 => bindTs ts ds Γ1
  | _, _, _ => none
end
mutual
def Tg.slots : Tg → List Nat
  | .nm i => [i]
  | .tp ts => Tg.slotss ts
def Tg.slotss : List Tg → List Nat
  | [] => []
  | t :: ts => t.slots ++ Tg.slotss ts
end
def rdG (K : PySem.W.Frag) (sl : List Nat) (Γ : Gm) (d : D) (Γ' : Gm) : TG := fun v σ H Q => EnvOk K Γ σ H ∧ σ.length = Γ.length ∧ Rp K H d v ∧ ∀ σ', Ste K Γ σ H Γ' σ' H → (∀ j, j ∉ sl → σ'[j]? = σ[j]?) → Q σ' H
def rdGs (K : PySem.W.Frag) (sl : List Nat) (Γ : Gm) (ds : List D) (Γ' : Gm) : TGs := fun vs σ H Q => EnvOk K Γ σ H ∧ σ.length = Γ.length ∧ RpL K H ds vs ∧ ∀ σ', Ste K Γ σ H Γ' σ' H → (∀ j, j ∉ sl → σ'[j]? = σ[j]?) → Q σ' H
def DG (X : Cx) (t : Expr) (sl : List Nat) (Γ : Gm) (d : D) (Γ' : Gm) : Prop := PG X t (rdG X.K sl Γ d Γ')
def DGs (X : Cx) (ts : List Expr) (sl : List Nat) (Γ : Gm) (ds : List D) (Γ' : Gm) : Prop := PGs X ts (rdGs X.K sl Γ ds Γ')
theorem pg_sub' {X : Cx} {e : Expr} {t t' : TG} (h : PG X e t) (w : ∀ v σ H Q, t' v σ H Q → t v σ H Q) : PG X e t' := ⟨fun pins s σ H v u Q I r q => h.run pins s σ H v u Q I r (w v σ H Q q)⟩
theorem pgs_sub' {X : Cx} {e : List Expr} {t t' : TGs} (h : PGs X e t) (w : ∀ v σ H Q, t' v σ H Q → t v σ H Q) : PGs X e t' := ⟨fun pins s σ H v u Q I r q => h.run pins s σ H v u Q I r (w v σ H Q q)⟩
section
variable {X : Cx} {Γ Γ1 Γ2 : Gm} {i k : Nat} {x : Str} {pos : Pos} {d : D} {ds : List D} {e : Expr} {es : List Expr} {sl sl1 sl2 : List Nat}
theorem dg_name (hN : X.N.Nodup) (hi : X.N[i]? = some x) (hx : Loc X.env.scope x) (hf : X.fn x = true ∨ X.env.scope.names.lookup x = some .local) (hb : bindR i (.val d) Γ = some Γ1) : DG X (.Name x pos) [i] Γ d Γ1 :=
  pg_sub' (pg_name hN hi hx hf) fun v σ H Q q => q.2.2.2 _ ((Ste.refl q.1).bind q.2.1 hb (r := .val d) q.2.2.1 trivial) fun j hj => get_set_ne (by
    intro z
    subst z
    exact hj (List.mem_singleton.2 rfl))
theorem dgs_nil : DGs X [] [] Γ [] Γ := pgs_sub' pgs_nil fun vs σ H Q q => ⟨by have := q.2.2.1; simpa only [RpL] using this, q.2.2.2 σ (Ste.refl q.1) fun _ _ => rfl⟩
theorem dgs_cons (h : DG X e sl1 Γ d Γ1) (hs : DGs X es sl2 Γ1 ds Γ2) (ha : (assignEach (e :: es) X.env).map (·.2) = assign e X.env :: (assignEach es X.env).map (·.2)) : DGs X (e :: es) (sl1 ++ sl2) Γ (d :: ds) Γ2 :=
  pgs_sub' (pgs_cons h hs ha) fun vs σ H Q q => by
    obtain ⟨q1, q2, q3, q4⟩ := q
    simp only [RpL] at q3
    obtain ⟨v, r, e1, h1, h2⟩ := q3
    exact ⟨v, r, e1, q1, q2, h1, fun σ1 s1 n1 => ⟨s1.env, s1.lens q2, h2, fun σ2 s2 n2 => q4 σ2 (s1.trans s2) fun j hj => (n2 j fun z => hj (List.mem_append_right _ z)).trans (n1 j fun z => hj (List.mem_append_left _ z))⟩⟩
theorem dg_tup {n : Nat} (hc : X.calm = true) (h : DGs X es sl Γ ds Γ1) (hl : ds.length = n) (hn : (assignEach es X.env).length = n) (hst : (assignEach es X.env).findIdx? (·.1) = none) : DG X (.Tuple es k pos) sl Γ (.tup ds) Γ1 :=
  pg_sub' (pg_tup hc h hn hst) fun v σ H Q q => by
    obtain ⟨q1, q2, q3, q4⟩ := q
    simp only [Rp] at q3
    obtain ⟨a, vs, e1, h1, h2⟩ := q3
    exact ⟨a, vs, e1, h1, by rw [h2.length, hl], q1, q2, h2, q4⟩
theorem dg_unl {n : Nat} (hc : X.calm = true) (h : DGs X es sl Γ ds Γ1) (hl : ds.length = n) (hn : (assignEach es X.env).length = n) (hst : (assignEach es X.env).findIdx? (·.1) = none) : DG X (.Tuple es k pos) sl Γ (.lst ds) Γ1 :=
  pg_sub' (pg_unl hc h hn hst) fun v σ H Q q => by
    obtain ⟨q1, q2, q3, q4⟩ := q
    simp only [Rp] at q3
    obtain ⟨a, vs, e1, h1, h2⟩ := q3
    exact ⟨a, vs, e1, sqF_sq h1, by rw [h2.length, hl], q1, q2, h2, q4⟩
/-- target = e -/
theorem ds_asg {tg : Expr} (he : DE X e Γ (.val d) Γ1) (hg : DG X tg sl Γ1 d Γ2) (hs : swapsWithSole [tg] e pos.line X.env = pure false) (hw : swappedStores [tg] e X.env = pure none) (h1 : (assignEach [tg] X.env).map (·.2) = [assign tg X.env]) :
    DS X (.Assign [tg] e pos) Γ .nx Γ2 :=
  ps_sub (ps_asg he hg hs hw h1) fun D σ H q => ⟨q.1, fun v H1 s1 p1 o1 => ⟨s1.env, s1.lens q.2.1, p1, fun σ2 s2 _ => q.2.2 σ2 H1 (s1.trans s2)⟩⟩
end
/-! what is walked -/
structure Wk (K : PySem.W.Frag) (J : It) (ds : List D) (S : Hp → Prop) : Prop where
  go : ∀ i H, S H → i < ds.length → J.go i H
  yld : ∀ i H x H', S H → J.yld i H x H' → i < ds.length → Same H H' ∧ ∃ d, ds[i]? = some d ∧ Rp K H' d x
  stop : ∀ i H, S H → ds.length ≤ i → J.stop i H
  per : ∀ H H', S H → Per H H' → S H'
def rdI (K : PySem.W.Frag) (Γ : Gm) (ds : List D) (Γ' : Gm) : TI := fun σ H R => EnvOk K Γ σ H ∧ ∀ J S H', Ste K Γ σ H Γ' σ H' → Wk K J ds S → S H' → R J H'
def DI (X : Cx) (tg iter : Expr) (Γ : Gm) (ds : List D) (Γ' : Gm) : Prop := PI X tg iter (rdI X.K Γ ds Γ')
theorem pi_sub {X : Cx} {tg e : Expr} {t t' : TI} (h : PI X tg e t) (w : ∀ σ H Q, t' σ H Q → t σ H Q) : PI X tg e t' := ⟨fun pins s σ H Q I q => h.run pins s σ H Q I (w σ H Q q)⟩
/-- over the items, one by one -/
def forL (g : D → Gm → Option Gm) (b : Gm → Option (Fl × Gm)) : List D → Gm → Option (Fl × Gm)
  | [], Γ => some (.nx, Γ)
  | d :: ds, Γ => match g d Γ with
    | none => none
    | some Γ1 => match b Γ1 with
      | none => none
      | some (.nx, Γ2) => forL g b ds Γ2
      | some (.ct, Γ2) => forL g b ds Γ2
      | some (.bk, Γ2) => some (.nx, Γ2)
      | some (.rt r, Γ2) => some (.rt r, Γ2)
section
variable {X : Cx} {Γ Γ1 Γ2 : Gm} {tg iter : Expr} {body : List Stmt} {pos : Pos} {fl : Fl} {ds : List D} {sl : List Nat}
theorem ds_for {fg : D → Gm → Option Gm} {fb : Gm → Option (Fl × Gm)} (hp : PassesOwn (model X.prog X.w) X.A X.env X.xe) (hc : X.calm = true) (hi : DI X tg iter Γ ds Γ1) (hg : ∀ d Γ Γ1, fg d Γ = some Γ1 → DG X tg sl Γ d Γ1) (hb : ∀ Γ fl Γ1, fb Γ = some (fl, Γ1) → DSs X body Γ fl Γ1)
    (h : forL fg fb ds Γ1 = some (fl, Γ2)) (hs : ∀ x, foldedSetIterable iter X.env x = pure x) : DS X (.For tg iter body [] pos) Γ fl Γ2 := by
  refine ps_sub (ps_for (g := fun v σ H Q => ∃ d Γ Γ1, fg d Γ = some Γ1 ∧ rdG X.K sl Γ d Γ1 v σ H Q) (tb := fun D σ H => ∃ Γ fl Γ1, fb Γ = some (fl, Γ1) ∧ rdS X.K Γ fl Γ1 D σ H) hp hc hi
    ⟨fun pins s σ H v u Q I r q => by obtain ⟨d, Γ, Γ1, e, q⟩ := q; exact (hg d Γ Γ1 e).run pins s σ H v u Q I r q⟩ ⟨fun pins s σ H D I q => by obtain ⟨Γ, k, Γ1, e, q⟩ := q; exact (hb Γ k Γ1 e).run pins s σ H D I q⟩ hs) fun D σ H q => ?_
  refine ⟨q.1, fun J S H1 s1 wk sH => ?_⟩
  refine ⟨fun i m σ' H' => i + m = ds.length ∧ S H' ∧ ∃ Γ', forL fg fb (ds.drop i) Γ' = some (fl, Γ2) ∧ rdS X.K Γ' fl Γ2 D σ' H', ⟨ds.length, by omega, sH, Γ1, h, rdS_seq s1 q⟩, fun i m σ' H' hw => ?_⟩
  obtain ⟨him, sH', Γ', hf, q'⟩ := hw
  by_cases hi : i < ds.length
  · right
    refine ⟨wk.go i H' sH' hi, ?_⟩
    rw [List.drop_eq_getElem_cons hi] at hf
    simp only [forL] at hf
    cases hgd : fg ds[i] Γ' with
    | none => rw [hgd] at hf; cases hf
    | some Γ3 =>
      rw [hgd] at hf
      simp only at hf
      cases hbd : fb Γ3 with
      | none => rw [hbd] at hf; cases hf
      | some p =>
        obtain ⟨f, Γ4⟩ := p
        rw [hbd] at hf
        refine ⟨fun σ'' H'' => ∃ m', m' < m ∧ i + 1 + m' = ds.length ∧ S H'' ∧ ∃ Γ', forL fg fb (ds.drop (i + 1)) Γ' = some (fl, Γ2) ∧ rdS X.K Γ' fl Γ2 D σ'' H'', fun σ'' H'' hh => hh, fun x H2 hy => ?_⟩
        obtain ⟨sm, d, hd, rp⟩ := wk.yld i H' x H2 sH' hy hi
        have ed : ds[i] = d := by rw [List.getElem?_eq_getElem hi] at hd; injection hd
        have s2 : Ste X.K Γ' σ' H' Γ' σ' H2 := Ste.same q'.1 sm
        have q2 := rdS_seq s2 q'
        refine ⟨d, Γ', Γ3, by rw [← ed]; exact hgd, q2.1, q2.2.1, rp, fun σ3 s3 _ => ?_⟩
        have q3 := rdS_seq s3 q2
        refine ⟨Γ3, f, Γ4, hbd, q3.1, q3.2.1, ?_⟩
        have sH2 : S H2 := wk.per H' H2 sH' (Per.of_same sm)
        cases f with
        | nx => exact fun σ4 H4 s4 => ⟨m - 1, by omega, by omega, wk.per H2 H4 sH2 s4.per, Γ4, hf, rdS_seq s4 q3⟩
        | ct => exact fun σ4 H4 s4 => ⟨m - 1, by omega, by omega, wk.per H2 H4 sH2 s4.per, Γ4, hf, rdS_seq s4 q3⟩
        | bk =>
          simp only [Option.some.injEq, Prod.mk.injEq] at hf
          obtain ⟨rfl, rfl⟩ := hf
          exact fun σ4 H4 s4 => q3.2.2 σ4 H4 s4
        | rt r =>
          simp only [Option.some.injEq, Prod.mk.injEq] at hf
          obtain ⟨rfl, rfl⟩ := hf
          exact fun v σ4 H4 s4 p4 o4 n4 => q3.2.2 v σ4 H4 s4 p4 o4 n4
  · left
    refine ⟨wk.stop i H' sH' (by omega), ?_⟩
    rw [List.drop_eq_nil_of_le (by omega)] at hf
    simp only [forL, Option.some.injEq, Prod.mk.injEq] at hf
    obtain ⟨rfl, rfl⟩ := hf
    exact q'.2.2 σ' H' (Ste.refl q'.1)
end
end Sv

namespace Sv
open PySem PySem.Spec PyProof.Rows L2
def wipeG (Γ : Gm) : List Nat → Gm
  | [] => Γ
  | v :: vs => (wipeG Γ vs).set v .no
def restore (Γ1 Γe : Gm) : List Nat → Gm
  | [] => Γe
  | v :: vs => match Γ1[v]? with
    | some s => (restore Γ1 Γe vs).set v s
    | none => restore Γ1 Γe vs
section
variable {K : PySem.W.Frag} {Γ Γ' Γ0 Γ1 Γ2 Γe : Gm} {σ σ' σ0 σ1 σ2 : L2.St} {H H' H0 H1 H2 : Hp} {a : Addr} {r : Rs} {v : V} {i j : Nat} {d d' : D} {vs : List Nat}
theorem wipeG_length : ∀ vs : List Nat, (wipeG Γ vs).length = Γ.length
  | [] => rfl
  | v :: vs => by rw [wipeG, List.length_set, wipeG_length vs]
theorem wipeG_out : ∀ {vs : List Nat}, j ∉ vs → (wipeG Γ vs)[j]? = Γ[j]?
  | [], _ => rfl
  | v :: vs, h => by
    rw [wipeG, get_set_ne (fun z => h (by rw [z]; exact List.mem_cons_self))]
    exact wipeG_out fun z => h (List.mem_cons_of_mem _ z)
theorem wipeG_in {s : Sl} : ∀ {vs : List Nat}, j ∈ vs → (wipeG Γ vs)[j]? = some s → s = .no
  | v :: vs, h, g => by
    rw [wipeG] at g
    by_cases z : v = j
    · subst z
      by_cases lt : v < (wipeG Γ vs).length
      · rw [set_lt lt] at g; cases g; rfl
      · rw [List.getElem?_eq_none (by rw [List.length_set]; omega)] at g; cases g
    · rw [get_set_ne z] at g
      rcases List.mem_cons.1 h with h | h
      · exact absurd h.symm z
      · exact wipeG_in h g
theorem wipe_out : ∀ {vs : List Nat}, j ∉ vs → (wipe σ vs)[j]? = σ[j]?
  | [], _ => rfl
  | v :: vs, h => by
    rw [wipe, get_set_ne (fun z => h (by rw [z]; exact List.mem_cons_self))]
    exact wipe_out fun z => h (List.mem_cons_of_mem _ z)
theorem restore_length (h : Γe.length = Γ1.length) : ∀ vs : List Nat, (restore Γ1 Γe vs).length = Γ1.length
  | [] => h
  | v :: vs => by
    rw [restore]
    split
    · rw [List.length_set, restore_length h vs]
    · exact restore_length h vs
theorem restore_out : ∀ {vs : List Nat}, j ∉ vs → (restore Γ1 Γe vs)[j]? = Γe[j]?
  | [], _ => rfl
  | v :: vs, h => by
    rw [restore]
    have ih : (restore Γ1 Γe vs)[j]? = Γe[j]? := restore_out fun z => h (List.mem_cons_of_mem _ z)
    split
    · rw [get_set_ne (fun z => h (by rw [z]; exact List.mem_cons_self))]
      exact ih
    · exact ih
theorem restore_in (hl : Γe.length = Γ1.length) : ∀ {vs : List Nat}, j ∈ vs → (restore Γ1 Γe vs)[j]? = Γ1[j]?
  | v :: vs, h => by
    rw [restore]
    by_cases z : v = j
    · subst z
      split
      · next s hs => rw [hs]; exact set_lt (by rw [restore_length hl vs]; exact (List.getElem?_eq_some_iff.1 hs).1)
      · next hs => rw [hs, List.getElem?_eq_none]; rw [restore_length hl vs]; exact List.getElem?_eq_none_iff.1 hs
    · have ih : (restore Γ1 Γe vs)[j]? = Γ1[j]? := restore_in hl (by
        rcases List.mem_cons.1 h with h | h
        · exact absurd h.symm z
        · exact h)
      split
      · rw [get_set_ne z]; exact ih
      · exact ih
theorem own_wipe (h : Own (wipeG Γ vs) j d) : j ∉ vs ∧ Own Γ j d := by
  have n : j ∉ vs := fun z => by
    rcases h with h | h <;> (have := wipeG_in z h; cases this)
  refine ⟨n, ?_⟩
  unfold Own at h ⊢
  rw [wipeG_out n] at h
  exact h
theorem cell_wipe (c : Cell (wipeG Γ vs) (wipe σ vs) a) : Cell Γ σ a := by
  obtain ⟨j, e, hj, hb⟩ := c
  obtain ⟨n, hj⟩ := own_wipe hj
  rw [wipe_out n] at hb
  exact ⟨j, e, hj, hb⟩
theorem Ste.wiped (A : Ste K Γ0 σ0 H0 Γ σ H) (nio : ∀ j ∈ vs, ∀ d, Γ0[j]? ≠ some (.io d)) : Ste K Γ0 σ0 H0 (wipeG Γ vs) (wipe σ vs) H where
  e0 := A.e0
  env := {
    sh := fun j e hj => by
      have n : j ∉ vs := fun z => by have := wipeG_in z hj; cases this
      rw [wipeG_out n] at hj
      rw [wipe_out n]
      exact A.env.sh j e hj
    mu := fun j e hj => by
      obtain ⟨n, hj⟩ := own_wipe hj
      rw [wipe_out n]
      exact A.env.mu j e hj
    df := fun j k e f b hj hk h1 h2 => by
      obtain ⟨n, hj⟩ := own_wipe hj
      obtain ⟨m, hk⟩ := own_wipe hk
      rw [wipe_out n] at h1
      rw [wipe_out m] at h2
      exact A.env.df j k e f b hj hk h1 h2
    len := by rw [wipe_length, wipeG_length]; exact A.env.len }
  keep := A.keep
  live := A.live
  sub := fun b c => A.sub b (cell_wipe c)
  io := fun j e hj => by
    have n : j ∉ vs := fun z => nio j z e hj
    rw [wipeG_out n, wipe_out n]
    exact A.io j e hj
  gl := by rw [wipeG_length]; exact A.gl
  sl := by rw [wipe_length]; exact A.sl
/-- a list of one's own that no slot holds, written -/
theorem Ste.updNew {u u' : HO} (A : Ste K Γ0 σ0 H0 Γ σ H) (h0 : H0 a = none) (h : H a = some u) (n : ¬ Imm u) (nc : ¬ Cell Γ σ a) : Ste K Γ0 σ0 H0 Γ σ (upd H a u') ∧ Per H (upd H a u') := by
  have pr : Per H (upd H a u') := fun b w im e => by
    rw [upd_ne (fun z => by subst z; rw [h] at e; cases e; exact n im)]
    exact e
  refine ⟨⟨A.e0, ⟨fun j e hj => ?_, fun j e hj => ?_, A.env.df, A.env.len⟩, fun b w e nb => ?_, fun b e => ?_, A.sub, A.io, A.gl, A.sl⟩, pr⟩
  · obtain ⟨v, h1, h2⟩ := A.env.sh j e hj
    exact ⟨v, h1, Rp.per pr e v h2⟩
  · obtain ⟨b, h1, h2⟩ := A.env.mu j e hj
    exact ⟨b, h1, h2.keep pr fun w hw => by
      rw [upd_ne (fun z => nc (by subst z; exact ⟨j, e, hj, h1⟩))]
      exact hw⟩
  · rw [upd_ne (fun z => by subst z; rw [h0] at e; cases e)]
    exact A.keep b w e nb
  · by_cases z : b = a
    · subst z; rw [upd_same] at e; cases e
    · rw [upd_ne z] at e; exact A.live b e
/-- behind a comprehension: the def's own slots again -/
theorem Ste.restored (e1 : EnvOk K Γ1 σ H1) (A : Ste K (wipeG Γ1 vs) (wipe σ vs) H1 Γe (wipe σ vs) H) (nio : ∀ j ∈ vs, ∀ d, Γ1[j]? ≠ some (.io d)) : Ste K Γ1 σ H1 (restore Γ1 Γe vs) σ H := by
  have gl : Γe.length = Γ1.length := by rw [A.gl, wipeG_length]
  have nw : ∀ b, Cell (wipeG Γ1 vs) (wipe σ vs) b → Cell Γ1 σ b := fun b c => cell_wipe c
  have own : ∀ j e, Own (restore Γ1 Γe vs) j e → (j ∈ vs ∧ Own Γ1 j e) ∨ (j ∉ vs ∧ Own Γe j e) := fun j e h => by
    by_cases z : j ∈ vs
    · left
      refine ⟨z, ?_⟩
      unfold Own at h ⊢
      rw [restore_in gl z] at h
      exact h
    · right
      refine ⟨z, ?_⟩
      unfold Own at h ⊢
      rw [restore_out z] at h
      exact h
  -- the cell of a slot of vs stays
  have stay : ∀ j e b, j ∈ vs → Own Γ1 j e → σ[j]? = some (some (.ref b)) → ¬ Cell (wipeG Γ1 vs) (wipe σ vs) b := fun j e b z hj hb c => by
    obtain ⟨k, f, hk, hc⟩ := c
    obtain ⟨n, hk⟩ := own_wipe hk
    rw [wipe_out n] at hc
    have := e1.df j k e f b hj hk hb hc
    subst this
    exact n z
  have sub : ∀ b j e, Own Γe j e → j ∉ vs → σ[j]? = some (some (.ref b)) → Cell (wipeG Γ1 vs) (wipe σ vs) b ∨ H1 b = none := fun b j e hj n hb => A.sub b ⟨j, e, hj, by rw [wipe_out n]; exact hb⟩
  refine ⟨e1, ⟨fun j e hj => ?_, fun j e hj => ?_, fun j k e f b hj hk h1 h2 => ?_, by rw [restore_length gl]; exact e1.len⟩, fun b o hb nb => A.keep b o hb fun c => nb (nw b c), A.live, fun b c => ?_, fun j e hj => ?_, restore_length gl vs, rfl⟩
  · by_cases z : j ∈ vs
    · rw [restore_in gl z] at hj
      obtain ⟨v, h1, h2⟩ := e1.sh j e hj
      exact ⟨v, h1, Rp.per A.per e v h2⟩
    · rw [restore_out z] at hj
      obtain ⟨v, h1, h2⟩ := A.env.sh j e hj
      rw [wipe_out z] at h1
      exact ⟨v, h1, h2⟩
  · rcases own j e hj with ⟨z, hj⟩ | ⟨z, hj⟩
    · obtain ⟨b, h1, h2⟩ := e1.mu j e hj
      exact ⟨b, h1, h2.keep A.per fun o ho => A.keep b o ho (stay j e b z hj h1)⟩
    · obtain ⟨b, h1, h2⟩ := A.env.mu j e hj
      rw [wipe_out z] at h1
      exact ⟨b, h1, h2⟩
  · have cross : ∀ j e k f, j ∈ vs → Own Γ1 j e → σ[j]? = some (some (.ref b)) → k ∉ vs → Own Γe k f → σ[k]? = some (some (.ref b)) → False := fun j e k f z hj h1 n hk h2 => by
      rcases sub b k f hk n h2 with c | c
      · exact stay j e b z hj h1 c
      · obtain ⟨u, hu, _⟩ := e1.cellMut ⟨j, e, hj, h1⟩
        rw [c] at hu; cases hu
    rcases own j e hj with ⟨z, hj⟩ | ⟨z, hj⟩
    · rcases own k f hk with ⟨y, hk⟩ | ⟨y, hk⟩
      · exact e1.df j k e f b hj hk h1 h2
      · exact (cross j e k f z hj h1 y hk h2).elim
    · rcases own k f hk with ⟨y, hk⟩ | ⟨y, hk⟩
      · exact (cross k f j e y hk h2 z hj h1).elim
      · exact A.env.df j k e f b hj hk (by rw [wipe_out z]; exact h1) (by rw [wipe_out y]; exact h2)
  · obtain ⟨j, e, hj, hb⟩ := c
    rcases own j e hj with ⟨z, hj⟩ | ⟨z, hj⟩
    · exact .inl ⟨j, e, hj, hb⟩
    · rcases sub b j e hj z hb with c | c
      · exact .inl (nw b c)
      · exact .inr c
  · have n : j ∉ vs := fun z => nio j z e hj
    rw [restore_out n]
    refine ⟨(A.io j e (by rw [wipeG_out n]; exact hj)).1, rfl⟩
end
/-! a comprehension -/
def compL (vs : List Nat) (fg : D → Gm → Option Gm) (ft : Gm → Option (Bool × Gm)) (fe : Gm → Option (D × Gm)) : List D → List D → Gm → Option (List D × Gm)
  | [], acc, Γ => some (acc, Γ)
  | d :: ds, acc, Γ => match fg d Γ with
    | none => none
    | some Γ1 => match ft Γ1 with
      | none => none
      | some (false, Γ2) => compL vs fg ft fe ds acc (wipeG Γ2 vs)
      | some (true, Γ2) => match fe Γ2 with
        | none => none
        | some (e, Γ3) => if acc.length < 1000000 then compL vs fg ft fe ds (acc ++ [e]) (wipeG Γ3 vs) else none
theorem RpL.snoc {K : PySem.W.Frag} {H : Hp} {e : D} {y : V} : ∀ {ds : List D} {vs : List V}, RpL K H ds vs → Rp K H e y → RpL K H (ds ++ [e]) (vs ++ [y])
  | [], vs, h, r => by
    simp only [RpL] at h
    subst h
    simp only [List.nil_append, RpL]
    exact ⟨y, [], rfl, r, rfl⟩
  | d :: ds, vs, h, r => by
    simp only [RpL] at h
    obtain ⟨v, w, rfl, h1, h2⟩ := h
    simp only [List.cons_append, RpL]
    exact ⟨v, w ++ [y], rfl, h1, RpL.snoc h2 r⟩
section
variable {K : PySem.W.Frag} {Γ Γ1 Γe : Gm} {ds out : List D} {vs sl : List Nat} {fg : D → Gm → Option Gm} {ft : Gm → Option (Bool × Gm)} {fe : Gm → Option (D × Gm)}
theorem wipe_agree {σ σ' : L2.St} (hl : σ'.length = σ.length) : ∀ {vs sl : List Nat}, (∀ j ∈ sl, j ∈ vs) → (∀ j, j ∉ sl → σ'[j]? = (wipe σ vs)[j]?) → wipe σ' vs = wipe σ vs := by
  intro vs sl hs ha
  apply List.ext_getElem?
  intro j
  by_cases z : j ∈ vs
  · have key : ∀ (τ : L2.St), τ.length = σ.length → ∀ vs : List Nat, j ∈ vs → (wipe τ vs)[j]? = if j < σ.length then some none else none := by
      intro τ ht vs
      induction vs with
      | nil => intro h; cases h
      | cons v vs ih =>
        intro h
        rw [wipe]
        by_cases y : v = j
        · subst y
          by_cases lt : v < σ.length
          · rw [if_pos lt, set_lt (by rw [wipe_length, ht]; exact lt)]
          · rw [if_neg lt, List.getElem?_eq_none]
            rw [List.length_set, wipe_length, ht]
            omega
        · rw [get_set_ne y]
          rcases List.mem_cons.1 h with h | h
          · exact absurd h.symm y
          · exact ih h
    rw [key σ' hl vs z, key σ rfl vs z]
  · rw [wipe_out z, wipe_out z, ha j (fun y => z (hs j y)), wipe_out z]
theorem lc_reads (hcomp : compL vs fg ft fe ds [] (wipeG Γ1 vs) = some (out, Γe)) (nio : ∀ j ∈ vs, ∀ d, Γ1[j]? ≠ some (.io d)) (hsl : ∀ j ∈ sl, j ∈ vs) (σ : L2.St) (H : Hp) (Q : VK) (q : rdE K Γ (.new (.lst out)) (restore Γ1 Γe vs) σ H Q) :
    tLc (rdI K Γ ds Γ1) (fun v σ H Q => ∃ d Γ Γ1, fg d Γ = some Γ1 ∧ rdG K sl Γ d Γ1 v σ H Q) (fun σ H Q => ∃ Γ b Γ1, ft Γ = some (b, Γ1) ∧ rdT K Γ b Γ1 σ H Q) (fun σ H Q => ∃ Γ d Γ1, fe Γ = some (d, Γ1) ∧ rdE K Γ (.val d) Γ1 σ H Q) vs σ H Q := by
  refine ⟨q.1, fun J S H1 s1 wk sH => fun D hD => ?_⟩
  have sm1 := same_new (o := .lst []) hD
  have l1 : σ.length = Γ1.length := s1.env.len
  -- the start within
  have W0 : Ste K (wipeG Γ1 vs) (wipe σ vs) H1 (wipeG Γ1 vs) (wipe σ vs) (upd H1 D (.lst [])) := Ste.same ((Ste.refl s1.env).wiped nio).env sm1
  refine ⟨fun i m H' => i + m = ds.length ∧ S H' ∧ ∃ Γ' acc ws, compL vs fg ft fe (ds.drop i) acc Γ' = some (out, Γe) ∧ Ste K (wipeG Γ1 vs) (wipe σ vs) H1 Γ' (wipe σ vs) H' ∧ ¬ Cell Γ' (wipe σ vs) D ∧ H' D = some (.lst ws) ∧ RpL K H' acc ws,
    ⟨ds.length, by omega, wk.per _ _ sH (Per.of_same sm1), wipeG Γ1 vs, [], [], hcomp, W0, fun c => ?_, upd_same, by simp only [RpL]⟩, fun i m H' hw => ?_⟩
  · obtain ⟨u, hu, _⟩ := s1.env.cellMut (cell_wipe c)
    rw [hD] at hu
    cases hu
  obtain ⟨him, sH', Γ', acc, ws, hf, A, nc, hws, rp⟩ := hw
  by_cases hi : i < ds.length
  · right
    refine ⟨wk.go i H' sH' hi, ?_⟩
    rw [List.drop_eq_getElem_cons hi] at hf
    simp only [compL] at hf
    cases hgd : fg ds[i] Γ' with
    | none => rw [hgd] at hf; cases hf
    | some Γ3 =>
      rw [hgd] at hf
      simp only at hf
      cases hbd : ft Γ3 with
      | none => rw [hbd] at hf; cases hf
      | some p =>
        obtain ⟨b, Γ4⟩ := p
        rw [hbd] at hf
        refine ⟨fun H'' => ∃ m', m' < m ∧ (i + 1) + m' = ds.length ∧ S H'' ∧ ∃ Γ' acc ws, compL vs fg ft fe (ds.drop (i + 1)) acc Γ' = some (out, Γe) ∧ Ste K (wipeG Γ1 vs) (wipe σ vs) H1 Γ' (wipe σ vs) H'' ∧ ¬ Cell Γ' (wipe σ vs) D ∧ H'' D = some (.lst ws) ∧ RpL K H'' acc ws,
          fun H'' hh => hh, fun x H2 hy => ?_⟩
        obtain ⟨sm, d, hd, rpd⟩ := wk.yld i H' x H2 sH' hy hi
        have ed : ds[i] = d := by rw [List.getElem?_eq_getElem hi] at hd; injection hd
        have s2 : Ste K Γ' (wipe σ vs) H' Γ' (wipe σ vs) H2 := Ste.same A.env sm
        have lw : (wipe σ vs).length = Γ'.length := by rw [A.gl, wipeG_length, wipe_length]; exact l1
        refine ⟨d, Γ', Γ3, by rw [← ed]; exact hgd, s2.env, lw, rpd, fun σ3 s3 ag => ?_⟩
        have wag : wipe σ3 vs = wipe σ vs := wipe_agree (by rw [s3.sl, wipe_length]) hsl ag
        refine ⟨wag, Γ3, b, Γ4, hbd, s3.env, fun H4 s4 => ?_⟩
        have B := (A.trans s2).trans (s3.trans s4)
        have sH4 : S H4 := wk.per H' H4 sH' (Per.trans (Per.of_same sm) (s3.trans s4).per)
        have nio' : ∀ j ∈ vs, ∀ d, (wipeG Γ1 vs)[j]? ≠ some (.io d) := fun j z d e => by have := wipeG_in z e; cases this
        have hD' : H4 D = some (.lst ws) := (s2.trans (s3.trans s4)).keep D _ hws nc
        have nc4 : ¬ Cell Γ4 σ3 D := (s2.trans (s3.trans s4)).noCell hws nc
        have rp4 : RpL K H4 acc ws := RpL.per (s2.trans (s3.trans s4)).per _ _ rp
        cases b with
        | false =>
          dsimp only
          rw [if_neg (by decide)]
          simp only at hf
          refine ⟨m - 1, by omega, by omega, sH4, wipeG Γ4 vs, acc, ws, hf, ?_, ?_, hD', rp4⟩
          · rw [← wag]
            have C := B.wiped (vs := vs) nio'
            rw [wag] at C ⊢
            exact C
          · rw [← wag]
            exact fun c => nc4 (cell_wipe c)
        | true =>
          dsimp only
          rw [if_pos rfl]
          simp only at hf
          cases hed : fe Γ4 with
          | none => rw [hed] at hf; cases hf
          | some p =>
            obtain ⟨e, Γ5⟩ := p
            rw [hed] at hf
            simp only at hf
            refine ⟨Γ4, e, Γ5, hed, B.env, fun y H5 s5 p5 o5 => ?_⟩
            by_cases lt : acc.length < 1000000
            · rw [if_pos lt] at hf
              have hD5 : H5 D = some (.lst ws) := s5.keep D _ hD' nc4
              have nc5 : ¬ Cell Γ5 σ3 D := s5.noCell hD' nc4
              have C := (B.trans s5).wiped (vs := vs) nio'
              rw [wag] at C
              have ncw : ¬ Cell (wipeG Γ5 vs) (wipe σ vs) D := by
                rw [← wag]
                exact fun c => nc5 (cell_wipe c)
              obtain ⟨C', pr⟩ := C.updNew (u' := .lst (ws ++ [y])) hD hD5 id ncw
              refine ⟨ws, hD5, ?_, m - 1, by omega, by omega, wk.per _ _ sH4 (s5.per.trans pr), wipeG Γ5 vs, acc ++ [e], ws ++ [y], hf, C', ncw, upd_same, ?_⟩
              · rw [rp4.length]
                exact Nat.lt_of_lt_of_le lt (by decide)
              · exact (RpL.per (s5.per.trans pr) _ _ rp4).snoc (Rp.per pr _ _ p5)
            · rw [if_neg lt] at hf
              cases hf
  · left
    refine ⟨wk.stop i H' sH' (by omega), ?_⟩
    rw [List.drop_eq_nil_of_le (by omega)] at hf
    simp only [compL, Option.some.injEq, Prod.mk.injEq] at hf
    obtain ⟨rfl, rfl⟩ := hf
    have R := Ste.restored s1.env A nio
    refine q.2 (.ref D) H' (s1.trans R) ⟨D, rfl, ⟨ws, hws, rp⟩, ?_⟩ fun a ea => .inr ?_
    · intro c
      rcases R.sub D c with c | c
      · obtain ⟨u, hu, _⟩ := s1.env.cellMut c
        rw [hD] at hu
        cases hu
      · -- a slot outside vs whose cell is D
        obtain ⟨j, e, hj, hb⟩ := ‹Cell (restore Γ1 Γ' vs) σ D›
        by_cases z : j ∈ vs
        · have hj1 : Own Γ1 j e := by
            unfold Own at hj ⊢
            rw [restore_in (by rw [A.gl, wipeG_length]) z] at hj
            exact hj
          obtain ⟨u, hu, _⟩ := s1.env.cellMut ⟨j, e, hj1, hb⟩
          rw [hD] at hu
          cases hu
        · have hje : Own Γ' j e := by
            unfold Own at hj ⊢
            rw [restore_out z] at hj
            exact hj
          exact nc ⟨j, e, hje, by rw [wipe_out z]; exact hb⟩
    · cases ea
      exact s1.live D hD
end
section
variable {X : Cx} {Γ Γ1 Γe : Gm} {ds out : List D} {sl : List Nat} {fg : D → Gm → Option Gm} {ft : Gm → Option (Bool × Gm)} {fe : Gm → Option (D × Gm)} {elt tg iter : Expr} {ifs : List Expr} {scope : Scope} {own : List (Str × Nat)} {pos : Pos}
/-- with the slots' length from the invariant -/
theorem pe_len {e : Expr} {t t' : TE} (n : Nat) (hn : X.N.length = n) (h : PE X e t) (w : ∀ σ H Q, σ.length = n → t' σ H Q → t σ H Q) : PE X e t' := ⟨fun pins s σ H Q I q => h.run pins s σ H Q I (w σ H Q (by rw [I.len, hn]) q)⟩
theorem ps_len {e : Stmt} {t t' : TS} (n : Nat) (hn : X.N.length = n) (h : PS X e t) (w : ∀ D σ H, σ.length = n → t' D σ H → t D σ H) : PS X e t' := ⟨fun pins s σ H D I q => h.run pins s σ H D I (w D σ H (by rw [I.len, hn]) q)⟩
theorem de_lc (hc : X.calm = true) (hN : X.N.Nodup) (hi : DI X tg iter Γ ds Γ1) (ok : BlkOk X.N X.env.scope scope own)
    (hg : ∀ (s : Shared) (H : Hp) (C : Addr) (cl : List (Str × Addr)) (fp : List Addr) (d : D) (Γ Γ1 : Gm), fg d Γ = some Γ1 → DG (X.blk s H scope (compEnvC scope cl C X.env) fp) tg sl Γ d Γ1)
    (ht : ∀ (s : Shared) (H : Hp) (C : Addr) (cl : List (Str × Addr)) (fp : List Addr) (Γ : Gm) (b : Bool) (Γ1 : Gm), ft Γ = some (b, Γ1) → PTs (X.blk s H scope (compEnvC scope cl C X.env) fp) ifs (rdT X.K Γ b Γ1))
    (he : ∀ (s : Shared) (H : Hp) (C : Addr) (cl : List (Str × Addr)) (fp : List Addr) (Γ : Gm) (d : D) (Γ1 : Gm), fe Γ = some (d, Γ1) → DE (X.blk s H scope (compEnvC scope cl C X.env) fp) elt Γ (.val d) Γ1)
    (hs : ∀ x, foldedSetIterable iter X.env x = pure x) (hcomp : compL (own.map (·.2)) fg ft fe ds [] (wipeG Γ1 (own.map (·.2))) = some (out, Γe)) (nio : ∀ j ∈ own.map (·.2), ∀ d, Γ1[j]? ≠ some (.io d)) (hsl : ∀ j ∈ sl, j ∈ own.map (·.2)) :
    DE X (.ListComp elt [⟨tg, iter, ifs, 0⟩] scope pos) Γ (.new (.lst out)) (restore Γ1 Γe (own.map (·.2))) :=
  pe_sub (pe_lc hc hN hi ok (fun s H C cl fp => ⟨fun pins s' σ H' v u Q I r q => by obtain ⟨d, Γ, Γ1, e, q⟩ := q; exact (hg s H C cl fp d Γ Γ1 e).run pins s' σ H' v u Q I r q⟩)
    (fun s H C cl fp => ⟨fun pins s' σ H' Q I q => by obtain ⟨Γ, d, Γ1, e, q⟩ := q; exact (ht s H C cl fp Γ d Γ1 e).run pins s' σ H' Q I q⟩)
    (fun s H C cl fp => ⟨fun pins s' σ H' Q I q => by obtain ⟨Γ, d, Γ1, e, q⟩ := q; exact (he s H C cl fp Γ d Γ1 e).run pins s' σ H' Q I q⟩) hs) fun σ H Q q => lc_reads hcomp nio hsl σ H Q q
theorem ds_lc {i : Nat} {y : Str} {py spos : Pos} {Γ2 : Gm} (hc : X.calm = true) (hN : X.N.Nodup) (hy : X.N[i]? = some y) (hyl : X.env.scope.names.lookup y = some .local)
    (hsw : swapsWith (.ListComp elt [⟨tg, iter, ifs, 0⟩] scope pos) (some (.Name y py)) spos.line X.env = pure true) (hi : DI X tg iter Γ ds Γ1) (ok : BlkOk X.N X.env.scope scope own)
    (hg : ∀ (s : Shared) (H : Hp) (C : Addr) (cl : List (Str × Addr)) (fp : List Addr) (d : D) (Γ Γ1 : Gm), fg d Γ = some Γ1 → DG (X.blk s H scope (compEnvC scope cl C X.env) fp) tg sl Γ d Γ1)
    (ht : ∀ (s : Shared) (H : Hp) (C : Addr) (cl : List (Str × Addr)) (fp : List Addr) (Γ : Gm) (b : Bool) (Γ1 : Gm), ft Γ = some (b, Γ1) → PTs (X.blk s H scope (compEnvC scope cl C X.env) fp) ifs (rdT X.K Γ b Γ1))
    (he : ∀ (s : Shared) (H : Hp) (C : Addr) (cl : List (Str × Addr)) (fp : List Addr) (Γ : Gm) (d : D) (Γ1 : Gm), fe Γ = some (d, Γ1) → DE (X.blk s H scope (compEnvC scope cl C X.env) fp) elt Γ (.val d) Γ1)
    (hs : ∀ x, foldedSetIterable iter X.env x = pure x) (hcomp : compL (own.map (·.2)) fg ft fe ds [] (wipeG Γ1 (own.map (·.2))) = some (out, Γe)) (nio : ∀ j ∈ own.map (·.2), ∀ d, Γ1[j]? ≠ some (.io d)) (hsl : ∀ j ∈ sl, j ∈ own.map (·.2))
    (hb : bindR i (.new (.lst out)) (restore Γ1 Γe (own.map (·.2))) = some Γ2) : DS X (.Assign [.Name y py] (.ListComp elt [⟨tg, iter, ifs, 0⟩] scope pos) spos) Γ .nx Γ2 :=
  ps_sub (ps_setLc hc hN hy hyl hsw hi ok (fun s H C cl fp => ⟨fun pins s' σ H' v u Q I r q => by obtain ⟨d, Γ, Γ1, e, q⟩ := q; exact (hg s H C cl fp d Γ Γ1 e).run pins s' σ H' v u Q I r q⟩)
    (fun s H C cl fp => ⟨fun pins s' σ H' Q I q => by obtain ⟨Γ, d, Γ1, e, q⟩ := q; exact (ht s H C cl fp Γ d Γ1 e).run pins s' σ H' Q I q⟩)
    (fun s H C cl fp => ⟨fun pins s' σ H' Q I q => by obtain ⟨Γ, d, Γ1, e, q⟩ := q; exact (he s H C cl fp Γ d Γ1 e).run pins s' σ H' Q I q⟩) hs) fun D σ H q => lc_reads hcomp nio hsl σ H _ ⟨q.1, fun v H1 s1 p1 o1 => q.2.2 _ H1 (s1.bind (s1.lens q.2.1) hb p1 o1)⟩
end
end Sv

namespace Sv
open PySem PySem.Spec PyProof.Rows L2
/-! what is walked -/
section
variable {X : Cx} {Γ Γ1 Γ2 : Gm} {tg e e2 : Expr} {ds es : List D} {r : Rs} {p pos : Pos}
theorem RpL.get' {K : PySem.W.Frag} {H : Hp} {ds : List D} {vs : List V} {i : Nat} {x : V} (h : RpL K H ds vs) (g : vs[i]? = some x) : ∃ d, ds[i]? = some d ∧ Rp K H d x := by
  have lt : i < ds.length := by
    rw [← h.length]
    exact (List.getElem?_eq_some_iff.1 g).1
  obtain ⟨v, h1, h2⟩ := h.get (List.getElem?_eq_getElem lt)
  rw [h1] at g
  cases g
  exact ⟨_, List.getElem?_eq_getElem lt, h2⟩
theorem RpL.lt {K : PySem.W.Frag} {H : Hp} {ds : List D} {vs : List V} {i : Nat} (h : RpL K H ds vs) (lt : i < ds.length) : ∃ x, vs[i]? = some x := by
  obtain ⟨v, h1, h2⟩ := h.get (List.getElem?_eq_getElem lt)
  exact ⟨v, h1⟩
theorem wk_lst {K : PySem.W.Frag} (a : Addr) (vs : List V) : Wk K (Itl K a) ds (fun H => SqF K H a vs ∧ RpL K H ds vs) where
  go := fun i H s lt => by
    obtain ⟨x, hx⟩ := s.2.lt lt
    exact ⟨vs, x, sqF_sq s.1, hx⟩
  yld := fun i H x H' s y lt => by
    obtain ⟨rfl, hy⟩ := y
    obtain ⟨d, h1, h2⟩ := s.2.get' (hy vs (sqF_sq s.1))
    exact ⟨same_refl _, d, h1, h2⟩
  stop := fun i H s ge => ⟨vs, sqF_sq s.1, by rw [s.2.length]; exact ge⟩
  per := fun H H' s p => ⟨sqF_per p s.1, RpL.per p _ _ s.2⟩
theorem wk_tup {K : PySem.W.Frag} (a : Addr) (vs : List V) : Wk K (Itt K a) ds (fun H => SqT K H a vs ∧ RpL K H ds vs) where
  go := fun i H s lt => by
    obtain ⟨x, hx⟩ := s.2.lt lt
    exact ⟨vs, x, s.1, hx⟩
  yld := fun i H x H' s y lt => by
    obtain ⟨rfl, hy⟩ := y
    obtain ⟨d, h1, h2⟩ := s.2.get' (hy vs s.1)
    exact ⟨same_refl _, d, h1, h2⟩
  stop := fun i H s ge => ⟨vs, s.1, by rw [s.2.length]; exact ge⟩
  per := fun H H' s p => ⟨sqT_per p s.1, RpL.per p _ _ s.2⟩
theorem di_lst (h : DE X e Γ (.val (.lst ds)) Γ1) : DI X tg e Γ ds Γ1 :=
  pi_sub (pi_list h) fun σ H R q => ⟨q.1, fun v H1 s1 p1 o1 => by
    simp only [Pd, Rp] at p1
    obtain ⟨a, vs, rfl, hs, hl⟩ := p1
    exact ⟨a, rfl, ⟨vs, sqF_sq hs⟩, q.2 _ _ H1 s1 (wk_lst a vs) ⟨hs, hl⟩⟩⟩
theorem di_tup (h : DE X e Γ (.val (.tup ds)) Γ1) : DI X tg e Γ ds Γ1 :=
  pi_sub (pi_tup h) fun σ H R q => ⟨q.1, fun v H1 s1 p1 o1 => by
    simp only [Pd, Rp] at p1
    obtain ⟨a, vs, rfl, hs, hl⟩ := p1
    exact ⟨a, rfl, ⟨vs, hs⟩, q.2 _ _ H1 s1 (wk_tup a vs) ⟨hs, hl⟩⟩⟩
def signs (x : Str) : List D := x.cps.toList.map fun c => .str ⟨#[c]⟩
theorem strOk_at {x : Str} {c : Nat} (h : PyData.strOk x = true) (hc : c ∈ x.cps.toList) : PyData.strOk ⟨#[c]⟩ = true := by
  unfold PyData.strOk at h ⊢
  rw [← Array.all_toList, List.all_eq_true] at h ⊢
  intro k hk
  simp only [List.mem_singleton] at hk
  subst hk
  exact h k hc
theorem di_str {x : Str} (h : DE X e Γ (.val (.str x)) Γ1) : DI X tg e Γ (signs x) Γ1 :=
  pi_sub (pi_str h) fun σ H R q => ⟨q.1, fun v H1 s1 p1 o1 => by
    simp only [Pd, Rp] at p1
    obtain ⟨rfl, ok⟩ := p1
    refine ⟨x, rfl, q.2 _ (fun _ => True) H1 s1 ⟨fun i H _ lt => ?_, fun i H v H' _ y lt => ?_, fun i H _ ge => ?_, fun _ _ _ _ => trivial⟩ trivial⟩
    · simpa [signs, Its] using lt
    · obtain ⟨rfl, c, hc, rfl⟩ := y
      refine ⟨same_refl _, .str ⟨#[c]⟩, ?_, ?_⟩
      · unfold signs
        rw [List.getElem?_map, Array.getElem?_toList, hc]
        rfl
      · simp only [Rp, true_and]
        refine strOk_at ok ?_
        rw [Array.mem_toList_iff]
        exact Array.mem_of_getElem? hc
    · simpa [signs, Its] using ge⟩
def rangeD (lo : Int) (n : Nat) : List D := (List.range n).map fun (k : Nat) => D.int (lo + (k : Int))
theorem wk_rng {K : PySem.W.Frag} (lo : Int) (n : Nat) : Wk K (Itr lo n) (rangeD lo n) (fun _ => True) where
  go := fun i H _ lt => by simpa [rangeD, Itr] using lt
  yld := fun i H x H' _ y lt => by
    obtain ⟨rfl, rfl⟩ := y
    have lt' : i < n := by simpa [rangeD] using lt
    refine ⟨same_refl _, .int (lo + i), ?_, by simp only [Rp]⟩
    unfold rangeD
    rw [List.getElem?_map, List.getElem?_range lt']
    rfl
  stop := fun i H _ ge => by simpa [rangeD, Itr] using ge
  per := fun _ _ _ _ => trivial
theorem RpRL.one {K : PySem.W.Frag} {H : Hp} {d : D} {vs : List V} (h : RpRL K H [d] vs) : ∃ v, vs = [v] ∧ RpR K H d v := by
  obtain ⟨v, r, rfl, h1, h2⟩ := h
  have : r = [] := h2
  subst this
  exact ⟨v, rfl, h1⟩
theorem RpRL.two {K : PySem.W.Frag} {H : Hp} {d d' : D} {vs : List V} (h : RpRL K H [d, d'] vs) : ∃ v w, vs = [v, w] ∧ RpR K H d v ∧ RpR K H d' w := by
  obtain ⟨v, r, rfl, h1, h2⟩ := h
  obtain ⟨w, rfl, h3⟩ := RpRL.one h2
  exact ⟨v, w, rfl, h1, h3⟩
def small62 (i : Int) : Bool := decide (-4611686018427387904 ≤ i) && decide (i < 4611686018427387904)
theorem small62_of {i : Int} (h : small62 i = true) : -(2 ^ 62) ≤ i ∧ i < 2 ^ 62 := by
  unfold small62 at h
  simp only [Bool.and_eq_true, decide_eq_true_eq] at h
  omega
theorem di_range1 {rs : List Rs} {n : Int} (ha : DA X [e] Γ rs Γ1) (hr : readRs rs Γ1 = some [.int n]) (hn : small62 n = true) (hg : Gl X "range") (hm : X.mg "range" = none) (hs : starEach [e] X.env = [(false, eval e X.env)]) : DI X tg (.Call (.Name "range" p) [e] [] pos) Γ (rangeD 0 n.toNat) Γ1 :=
  pi_sub (pi_range1 hg hm ha hs) fun σ H R q => ⟨q.1, fun vs H1 s1 p1 o1 => by
    obtain ⟨v, rfl, h1⟩ := RpRL.one (reads_ok s1.env p1 hr)
    have := h1.int
    subst this
    obtain ⟨a, b⟩ := small62_of hn
    exact ⟨n, rfl, a, b, q.2 _ _ H1 s1 (wk_rng 0 n.toNat) trivial⟩⟩
theorem di_range2 {rs : List Rs} {m n : Int} (ha : DA X [e, e2] Γ rs Γ1) (hr : readRs rs Γ1 = some [.int m, .int n]) (hm1 : small62 m = true) (hn : small62 n = true) (hg : Gl X "range") (hm : X.mg "range" = none) (hs : starEach [e, e2] X.env = [(false, eval e X.env), (false, eval e2 X.env)]) (hs2 : starEach [e2] X.env = [(false, eval e2 X.env)]) :
    DI X tg (.Call (.Name "range" p) [e, e2] [] pos) Γ (rangeD m (n - m).toNat) Γ1 :=
  pi_sub (pi_range2 hg hm ha hs hs2) fun σ H R q => ⟨q.1, fun vs H1 s1 p1 o1 => by
    obtain ⟨v, w, rfl, h1, h2⟩ := RpRL.two (reads_ok s1.env p1 hr)
    have e1 := h1.int
    have e2 := h2.int
    subst e1
    subst e2
    obtain ⟨a, b⟩ := small62_of hn
    obtain ⟨c, d⟩ := small62_of hm1
    exact ⟨m, n, rfl, ⟨c, d, a, b⟩, q.2 _ _ H1 s1 (wk_rng m (n - m).toNat) trivial⟩⟩
def zipD (ds es : List D) : List D := (ds.zip es).map fun p => .tup [p.1, p.2]
theorem zipD_get {i : Nat} {d e : D} (h1 : ds[i]? = some d) (h2 : es[i]? = some e) : (zipD ds es)[i]? = some (.tup [d, e]) := by
  unfold zipD
  rw [List.getElem?_map, (List.getElem?_zip_eq_some (z := (d, e))).2 ⟨h1, h2⟩]
  rfl
theorem zipD_len : (zipD ds es).length = min ds.length es.length := by simp [zipD]
theorem rp_pair {K : PySem.W.Frag} {H : Hp} {T : Addr} {x y : V} {d e : D} (hT : H T = none) (h1 : Rp K H d x) (h2 : Rp K H e y) : Rp K (upd H T (.tup [x, y])) (.tup [d, e]) (.ref T) := by
  have pr := Per.of_same (same_new (o := .tup [x, y]) hT)
  simp only [Rp, RpL]
  exact ⟨T, [x, y], rfl, SqT.of upd_same, x, [y], rfl, Rp.per pr _ _ h1, y, [], rfl, Rp.per pr _ _ h2, rfl⟩
theorem wk_zipT {K : PySem.W.Frag} (a b : Addr) (vs ws : List V) : Wk K (RZ.ItzT K a b) (zipD ds es) (fun H => (SqT K H a vs ∧ RpL K H ds vs) ∧ (SqT K H b ws ∧ RpL K H es ws)) where
  go := fun i H s lt => by
    rw [zipD_len] at lt
    obtain ⟨x, hx⟩ := s.1.2.lt (i := i) (by omega)
    obtain ⟨y, hy⟩ := s.2.2.lt (i := i) (by omega)
    exact ⟨vs, ws, x, y, s.1.1, s.2.1, hx, hy⟩
  yld := fun i H x H' s y lt => by
    obtain ⟨T, x1, y1, rfl, hT, rfl, hx, hy⟩ := y
    obtain ⟨d, h1, h2⟩ := s.1.2.get' (hx vs s.1.1)
    obtain ⟨e, h3, h4⟩ := s.2.2.get' (hy ws s.2.1)
    exact ⟨same_new hT, _, zipD_get h1 h3, rp_pair hT h2 h4⟩
  stop := fun i H s ge => by
    rw [zipD_len] at ge
    refine ⟨vs, ws, s.1.1, s.2.1, ?_⟩
    rw [s.1.2.length, s.2.2.length]
    omega
  per := fun H H' s p => ⟨⟨sqT_per p s.1.1, RpL.per p _ _ s.1.2⟩, sqT_per p s.2.1, RpL.per p _ _ s.2.2⟩
theorem wk_zipL {K : PySem.W.Frag} (a b : Addr) (vs ws : List V) : Wk K (Itz K a b) (zipD ds es) (fun H => (SqF K H a vs ∧ RpL K H ds vs) ∧ (SqF K H b ws ∧ RpL K H es ws)) where
  go := fun i H s lt => by
    rw [zipD_len] at lt
    obtain ⟨x, hx⟩ := s.1.2.lt (i := i) (by omega)
    obtain ⟨y, hy⟩ := s.2.2.lt (i := i) (by omega)
    exact ⟨vs, ws, x, y, sqF_sq s.1.1, sqF_sq s.2.1, hx, hy⟩
  yld := fun i H x H' s y lt => by
    obtain ⟨T, x1, y1, rfl, hT, rfl, hx, hy⟩ := y
    obtain ⟨d, h1, h2⟩ := s.1.2.get' (hx vs (sqF_sq s.1.1))
    obtain ⟨e, h3, h4⟩ := s.2.2.get' (hy ws (sqF_sq s.2.1))
    exact ⟨same_new hT, _, zipD_get h1 h3, rp_pair hT h2 h4⟩
  stop := fun i H s ge => by
    rw [zipD_len] at ge
    refine ⟨vs, ws, sqF_sq s.1.1, sqF_sq s.2.1, ?_⟩
    rw [s.1.2.length, s.2.2.length]
    omega
  per := fun H H' s p => ⟨⟨sqF_per p s.1.1, RpL.per p _ _ s.1.2⟩, sqF_per p s.2.1, RpL.per p _ _ s.2.2⟩
def bothSeq : D → D → Option (List D × List D)
  | .tup a, .tup b => some (a, b)
  | .lst a, .lst b => some (a, b)
  | _, _ => none
theorem RpL.two {K : PySem.W.Frag} {H : Hp} {d d' : D} {vs : List V} (h : RpL K H [d, d'] vs) : ∃ v w, vs = [v, w] ∧ Rp K H d v ∧ Rp K H d' w := by
  simp only [RpL] at h
  obtain ⟨v, r, rfl, h1, w, r', rfl, h2, rfl⟩ := h
  exact ⟨v, w, rfl, h1, h2⟩
theorem di_zip {d1 d2 : D} {elts : List Expr} {kk : Nat} {tpos : Pos} (ha : DC X [e, e2] Γ [d1, d2] Γ1) (hb : bothSeq d1 d2 = some (ds, es)) (hg : Gl X "zip") (hm : X.mg "zip" = none)
    (hs : starEach [e, e2] X.env = (false, eval e X.env) :: starEach [e2] X.env) (hpl : (backTo pos (starEach [e2] X.env)).any (·.1) = false) : DI X (.Tuple elts kk tpos) (.Call (.Name "zip" p) [e, e2] [] pos) Γ (zipD ds es) Γ1 :=
  pi_sub (RZ.pi_zipA hg hm ha hs hpl) fun σ H R q => ⟨q.1, fun vs H1 s1 rp => by
    obtain ⟨v, w, rfl, h1, h2⟩ := rp.two
    cases d1 <;> cases d2 <;> simp only [bothSeq, Option.some.injEq, Prod.mk.injEq, reduceCtorEq] at hb
    · obtain ⟨rfl, rfl⟩ := hb
      simp only [Rp] at h1 h2
      obtain ⟨a, vs, rfl, hs, hl⟩ := h1
      obtain ⟨b, ws, rfl, hs2, hl2⟩ := h2
      exact ⟨a, b, vs, ws, rfl, .inr ⟨hs, hs2, q.2 _ _ H1 s1 (wk_zipT a b vs ws) ⟨⟨hs, hl⟩, hs2, hl2⟩⟩⟩
    · obtain ⟨rfl, rfl⟩ := hb
      simp only [Rp] at h1 h2
      obtain ⟨a, vs, rfl, hs, hl⟩ := h1
      obtain ⟨b, ws, rfl, hs2, hl2⟩ := h2
      exact ⟨a, b, vs, ws, rfl, .inl ⟨sqF_sq hs, sqF_sq hs2, q.2 _ _ H1 s1 (wk_zipL a b vs ws) ⟨⟨hs, hl⟩, hs2, hl2⟩⟩⟩⟩
end
end Sv

namespace Sv
open PySem PySem.Spec PyProof.Rows L2
/-! data: depth, equality -/
mutual
def dep : D → Nat
  | .tup ds => depL ds + 1
  | .lst ds => depL ds + 1
  | .dK _ => 1000
  | .dT _ => 1000
  | .scr _ => 1000
  | .hid _ => 1000
  | _ => 0
def depL : List D → Nat
  | [] => 0
  | d :: ds => max (dep d) (depL ds)
end
mutual
def eqD : D → D → Bool
  | .non, .non => true
  | .bl a, .bl b => a == b
  | .bl a, .int j => (if a then 1 else 0) == j
  | .int i, .bl b => i == (if b then 1 else 0)
  | .int i, .int j => i == j
  | .str x, .str y => x == y
  | .lst xs, .lst ys => eqDs xs ys
  | .tup xs, .tup ys => eqDs xs ys
  | _, _ => false
def eqDs : List D → List D → Bool
  | [], [] => true
  | x :: xs, y :: ys => eqD x y && eqDs xs ys
  | _, _ => false
end
mutual
def toP : D → PyData
  | .non => .none
  | .bl b => .bool b
  | .int i => .int i
  | .str x => .str x
  | .tup ds => .tuple (toPs ds)
  | .lst ds => .list (toPs ds)
  | .dK _ => .none
  | .dT _ => .none
  | .scr _ => .none
  | .hid _ => .none
def toPs : List D → List PyData
  | [] => []
  | d :: ds => toP d :: toPs ds
end
mutual
theorem eqD_eqv : ∀ (a b : D), dep a ≤ 64 → dep b ≤ 64 → PyData.eqv (toP a) (toP b) = eqD a b
  | .non, b, _, hb => by cases b <;> simp_all [toP, eqD, PyData.eqv, dep]
  | .bl _, b, _, hb => by cases b <;> simp_all [toP, eqD, PyData.eqv, dep]
  | .int _, b, _, hb => by cases b <;> simp_all [toP, eqD, PyData.eqv, dep]
  | .str _, b, _, hb => by cases b <;> simp_all [toP, eqD, PyData.eqv, dep]
  | .dK _, b, ha, _ => by simp [dep] at ha
  | .dT _, b, ha, _ => by simp [dep] at ha
  | .scr _, b, ha, _ => by simp [dep] at ha
  | .hid _, b, ha, _ => by simp [dep] at ha
  | .tup xs, b, ha, hb => by
    cases b <;> simp_all [toP, eqD, PyData.eqv, dep]
    exact eqDs_eqv xs _ (by omega) (by omega)
  | .lst xs, b, ha, hb => by
    cases b <;> simp_all [toP, eqD, PyData.eqv, dep]
    exact eqDs_eqv xs _ (by omega) (by omega)
theorem eqDs_eqv : ∀ (a b : List D), depL a ≤ 64 → depL b ≤ 64 → PyData.eqvAll (toPs a) (toPs b) = eqDs a b
  | [], [], _, _ => by simp [toPs, eqDs, PyData.eqvAll]
  | [], _ :: _, _, _ => by simp [toPs, eqDs, PyData.eqvAll]
  | _ :: _, [], _, _ => by simp [toPs, eqDs, PyData.eqvAll]
  | x :: xs, y :: ys, ha, hb => by
    simp only [depL] at ha hb
    simp only [toPs, eqDs, PyData.eqvAll]
    rw [eqD_eqv x y (by omega) (by omega), eqDs_eqv xs ys (by omega) (by omega)]
end
mutual
theorem dep_toP : ∀ d : D, dep d ≤ 64 → PyData.depth (toP d) = dep d
  | .non, _ => by simp [toP, dep, PyData.depth]
  | .bl _, _ => by simp [toP, dep, PyData.depth]
  | .int _, _ => by simp [toP, dep, PyData.depth]
  | .str _, _ => by simp [toP, dep, PyData.depth]
  | .dK _, h => by simp [dep] at h
  | .dT _, h => by simp [dep] at h
  | .scr _, h => by simp [dep] at h
  | .hid _, h => by simp [dep] at h
  | .tup ds, h => by
    simp only [dep] at h
    simp only [toP, dep, PyData.depth]
    rw [depL_toPs ds (by omega)]
  | .lst ds, h => by
    simp only [dep] at h
    simp only [toP, dep, PyData.depth]
    rw [depL_toPs ds (by omega)]
theorem depL_toPs : ∀ ds : List D, depL ds ≤ 64 → PyData.depthAll (toPs ds) = depL ds
  | [], _ => by simp [toPs, depL, PyData.depthAll]
  | d :: ds, h => by
    simp only [depL] at h
    simp only [toPs, depL, PyData.depthAll]
    rw [dep_toP d (by omega), depL_toPs ds (by omega)]
end
section
variable {K : PySem.W.Frag} {H : Hp}
mutual
theorem Rp.dp : ∀ (d : D) (v : V), dep d ≤ 64 → Rp K H d v → Dp K H v (toP d)
  | .non, v, _, h => by simp only [Rp] at h; subst h; exact .non
  | .bl b, v, _, h => by simp only [Rp] at h; subst h; exact .bl b
  | .int b, v, _, h => by simp only [Rp] at h; subst h; exact .int b
  | .str b, v, _, h => by simp only [Rp] at h; rw [h.1]; exact .str b
  | .dK _, _, hd, _ => by simp [dep] at hd
  | .dT _, _, hd, _ => by simp [dep] at hd
  | .scr _, _, hd, _ => by simp [dep] at hd
  | .hid _, _, hd, _ => by simp [dep] at hd
  | .tup ds, v, hd, h => by
    simp only [Rp] at h
    obtain ⟨a, vs, rfl, hs, hl⟩ := h
    simp only [dep] at hd
    exact .tup hs (RpL.dp ds vs (by omega) hl)
  | .lst ds, v, hd, h => by
    simp only [Rp] at h
    obtain ⟨a, vs, rfl, hs, hl⟩ := h
    simp only [dep] at hd
    exact .lst (sqF_sq hs) (RpL.dp ds vs (by omega) hl)
theorem RpL.dp : ∀ (ds : List D) (vs : List V), depL ds ≤ 64 → RpL K H ds vs → DpAll K H vs (toPs ds)
  | [], vs, _, h => by simp only [RpL] at h; subst h; exact .nil
  | d :: ds, vs, hd, h => by
    simp only [RpL] at h
    obtain ⟨v, r, rfl, h1, h2⟩ := h
    simp only [depL] at hd
    exact .cons (Rp.dp d v (by omega) h1) (RpL.dp ds r (by omega) h2)
end
mutual
theorem Rp.lay : ∀ (d : D) (v : V), dep d ≤ 64 → Rp K H d v → PyData.canLay0 (toP d) = true
  | .non, v, _, h => rfl
  | .bl b, v, _, h => rfl
  | .int b, v, _, h => rfl
  | .str b, v, _, h => by simp only [Rp] at h; exact h.2
  | .dK _, _, hd, _ => by simp [dep] at hd
  | .dT _, _, hd, _ => by simp [dep] at hd
  | .scr _, _, hd, _ => by simp [dep] at hd
  | .hid _, _, hd, _ => by simp [dep] at hd
  | .tup ds, v, hd, h => by
    simp only [Rp] at h
    obtain ⟨a, vs, rfl, hs, hl⟩ := h
    simp only [dep] at hd
    simp only [toP, PyData.canLay0]
    exact RpL.lay ds vs (by omega) hl
  | .lst ds, v, hd, h => by
    simp only [Rp] at h
    obtain ⟨a, vs, rfl, hs, hl⟩ := h
    simp only [dep] at hd
    simp only [toP, PyData.canLay0]
    exact RpL.lay ds vs (by omega) hl
theorem RpL.lay : ∀ (ds : List D) (vs : List V), depL ds ≤ 64 → RpL K H ds vs → PyData.canLayAll0 (toPs ds) = true
  | [], vs, _, h => rfl
  | d :: ds, vs, hd, h => by
    simp only [RpL] at h
    obtain ⟨v, r, rfl, h1, h2⟩ := h
    simp only [depL] at hd
    simp only [toPs, PyData.canLayAll0]
    rw [Rp.lay d v (by omega) h1, RpL.lay ds r (by omega) h2]
    rfl
end
theorem RpR.dp {d : D} {v : V} (h : RpR K H d v) (hd : dep d ≤ 64) : Dp K H v (toP d) ∧ SeqAt.shaped (toP d) = true := by
  rcases h with h | ⟨a, rfl, h⟩
  · refine ⟨Rp.dp d v hd h, ?_⟩
    unfold SeqAt.shaped
    rw [Rp.lay d v hd h, dep_toP d hd]
    simpa using hd
  · cases d with
    | lst ds =>
      obtain ⟨vs, e, r⟩ := h
      simp only [dep] at hd
      refine ⟨.lst (SqL.of e) (RpL.dp ds vs (by omega) r), ?_⟩
      unfold SeqAt.shaped
      simp only [toP, PyData.canLay0, PyData.depth]
      rw [RpL.lay ds vs (by omega) r, depL_toPs ds (by omega)]
      simpa using hd
    | dK kvs => simp [dep] at hd
    | dT kvs => simp [dep] at hd
    | _ => exact absurd h (by simp [Cel])
end
/-! the operators, by data -/
inductive BOp where
  | add | sub | mul | mod | fdiv | pow
  deriving DecidableEq
def BOp.op : BOp → Operator
  | .add => .Add
  | .sub => .Sub
  | .mul => .Mult
  | .mod => .Mod
  | .fdiv => .FloorDiv
  | .pow => .Pow
def lim : Nat := 1000000
def fits64 (i : Int) : Bool := decide (-(2 ^ 64) < i) && decide (i < 2 ^ 64)
def binD : BOp → D → D → Option Rs
  | .add, .int a, .int b => some (.val (.int (a + b)))
  | .add, .str a, .str b => if a.length + b.length ≤ lim then some (.val (.str (a ++ b))) else none
  | .add, .tup a, .tup b => if a.length + b.length ≤ lim then some (.val (.tup (a ++ b))) else none
  | .add, .lst a, .lst b => if a.length + b.length ≤ lim then some (.new (.lst (a ++ b))) else none
  | .sub, .int a, .int b => some (.val (.int (a - b)))
  | .mul, .int a, .int b => if fits64 a || fits64 b then some (.val (.int (a * b))) else none
  | .mul, .lst a, .int k => if small62 k && decide (a.length * k.toNat ≤ lim) then some (.new (.lst (List.replicate k.toNat a).flatten)) else none
  | .mul, .tup a, .int k => if k = 1 then some (.val (.tup a)) else if !a.isEmpty && decide (2 ≤ k) && decide (k ≤ 1000) && decide (a.length ≤ 1000) then some (.val (.tup (List.replicate k.toNat a).flatten)) else none
  | .mod, .int a, .int b => if 0 < b then some (.val (.int (a % b))) else none
  | .fdiv, .int a, .int b => if 0 < b ∧ b < 9223372036854775808 then some (.val (.int (a / b))) else none
  | .pow, .int a, .int b => if 0 ≤ b ∧ b ≤ 1000000 ∧ fits64 a = true then some (.val (.int (a ^ b.toNat))) else none
  | _, _, _ => none
theorem lim_size {n : Nat} (h : n ≤ lim) : n ≤ sizeLine := Nat.le_trans h (by decide)
theorem fits64_of {i : Int} (h : fits64 i = true) : -(2 ^ 64) < i ∧ i < 2 ^ 64 := by
  unfold fits64 at h
  simp only [Bool.and_eq_true, decide_eq_true_eq] at h
  exact h
section
variable {X : Cx} {K : PySem.W.Frag} {H : Hp}
theorem RpL.append : ∀ {as bs : List D} {vs ws : List V}, RpL K H as vs → RpL K H bs ws → RpL K H (as ++ bs) (vs ++ ws)
  | [], bs, vs, ws, h1, h2 => by
    simp only [RpL] at h1
    subst h1
    exact h2
  | a :: as, bs, vs, ws, h1, h2 => by
    simp only [RpL] at h1
    obtain ⟨v, r, rfl, h3, h4⟩ := h1
    simp only [List.cons_append, RpL]
    exact ⟨v, r ++ ws, rfl, h3, RpL.append h4 h2⟩
theorem RpL.rep {as : List D} {vs : List V} (h : RpL K H as vs) : ∀ k : Nat, RpL K H (List.replicate k as).flatten (List.replicate k vs).flatten
  | 0 => by simp [RpL]
  | k + 1 => by
    rw [List.replicate_succ, List.replicate_succ, List.flatten_cons, List.flatten_cons]
    exact h.append (RpL.rep h k)
theorem strOk_append {a b : Str} (ha : PyData.strOk a = true) (hb : PyData.strOk b = true) : PyData.strOk (a ++ b) = true := by
  unfold PyData.strOk at ha hb ⊢
  rw [← Array.all_toList, List.all_eq_true] at ha hb ⊢
  intro k hk
  have e : (a ++ b).cps.toList = a.cps.toList ++ b.cps.toList := by
    show (a.cps ++ b.cps).toList = _
    exact Array.toList_append
  rw [e, List.mem_append] at hk
  rcases hk with hk | hk
  · exact ha k hk
  · exact hb k hk
/-- the objects of lists that are read -/
theorem Inv.lstR {pins : List (Addr × Obj)} {σ : L2.St} {s : Shared} {l : Addr} {xs : List V} (I : Inv X pins σ H s) (h : Rd H l (.lst xs)) :
    xs.length ≤ sizeLine ∧ ∃ (its : List Value) (n : Nat), Vals xs its ∧ xs.length = its.length ∧ s.heap.get? l = some { cls := .type "list", data := .seq its.toArray n } := by
  obtain ⟨hz, its, n, r, e⟩ := h.ok I.hok
  exact ⟨hz, its, n, r, r.length, e⟩
def rCatR : R2 := fun x y H Q => ∃ l b xs zs, x = .ref l ∧ y = .ref b ∧ Rd H l (.lst xs) ∧ Rd H b (.lst zs) ∧ xs.length + zs.length ≤ sizeLine ∧ ∀ p, H p = none → Q (.ref p) (upd H p (.lst (xs ++ zs)))
theorem op_catR : OpR X (binaryOp .Add) rCatR := by
  intro pins s σ H x y v u Q J ra rb hh
  obtain ⟨l1, l2, as, bs, rfl, rfl, h1, h2, hlen, fin⟩ := hh
  cases ra; cases rb
  obtain ⟨_, us, m1, V1, L1, o1⟩ := Inv.lstR J h1
  obtain ⟨_, ws, m2, V2, L2, o2⟩ := Inv.lstR J h2
  refine PySem.P.add_list o1 o2 ?_ (by simp only [List.size_toArray]; omega)
  rw [show us.toArray ++ ws.toArray = (us ++ ws).toArray by simp]
  exact ⟨.ref _, _, J.lnew (t' := s.toks) (V1.append V2) (by simp only [List.length_append]; omega), rfl, fin _ J.fresh⟩
def rTimR : R2 := fun x y H Q => ∃ l n as, x = .ref l ∧ y = .int n ∧ Rd H l (.lst as) ∧ (-(2 ^ 63) ≤ n ∧ n < 2 ^ 63) ∧ as.length * n.toNat ≤ sizeLine ∧ ∀ p, H p = none → Q (.ref p) (upd H p (.lst (List.replicate n.toNat as).flatten))
theorem rep_fold (us : List Value) (n : Nat) : List.foldl (fun x1 x2 => x1 ++ x2) #[] (List.replicate (if us.toArray.isEmpty = true then 0 else n) us.toArray) = (List.replicate n us).flatten.toArray := by
  have g : ∀ m, List.foldl (fun x1 x2 => x1 ++ x2) #[] (List.replicate m us.toArray) = (List.replicate m us).flatten.toArray := fun m => by simpa using foldl_rep us m []
  rw [g]
  cases us <;> simp
theorem op_timR : OpR X (binaryOp .Mult) rTimR := by
  intro pins s σ H x y v u Q J ra rb hh
  obtain ⟨l1, n, as, rfl, rfl, h1, ⟨ha, hb⟩, hlen, fin⟩ := hh
  cases ra; obtain ⟨t, rfl⟩ := rb
  obtain ⟨_, us, m1, V1, L1, o1⟩ := Inv.lstR J h1
  have hl : us.toArray.size * n.toNat ≤ sizeLine := by simp only [List.size_toArray, ← L1]; exact hlen
  have k1 : (sizeLine : Nat) ≤ (2 ^ 63 - 1) / 8 := by decide
  have k2 : ¬ (!Builtin.List.listFitsIndex n) = true := by simp [fitsIndex_both ha hb]
  have k3 : ¬ Builtin.List.listTooLong (us.toArray.size * n.toNat) = true := by simp only [notLongL hl, Bool.false_eq_true, not_false_eq_true]
  refine wpAny_binaryOp_repeat_ref (T := "list") (U := "int") (by decide) ⟨_, o1, rfl⟩ (fun s' => typeIs_int s' n t) noFill_list_mul F.fills_int_mul F.slot_int_rmul repeat_list F.slot_int_index.lookup ?_
  refine call_meets F.slot_int_rmul (typeIs_int s n t) F.entry_int_rmul (F.args_int_rmul_2 _ _) (int___rmul___int_list n t l1 us.toArray m1) ⟨o1, rfl, ⟨_, o1, rfl⟩, ?_⟩
  refine call_meets F.slot_list_mul ⟨_, o1, rfl⟩ F.entry_list_mul (F.args_list_mul_2 _ _) (AutoListH.list___mul___list_int_3 l1 us.toArray m1 n t k2 (by omega) k3) ⟨o1, ?_⟩
  rw [rep_fold]
  exact ⟨.ref _, _, J.lnew (t' := s.toks) (V1.rep n.toNat) (by rw [PyProof.Rows.lm_len_rep_flat, Nat.mul_comm]; exact hlen), rfl, fin _ J.fresh⟩
/-- a tuple times one is the tuple -/
theorem tup_times_one (l : Addr) (its : Array Value) (n : Nat) (dd : Option Addr) (sl : Array (Option Value)) (u : Tok) :
    Meets (Builtin.«tuple.__mul__» ⟨[.ref l, .int 1 u], []⟩) (fun _ R s => s.heap.get? l = some { cls := .type "tuple", dict := dd, data := .seq its n, slots := sl } ∧ R (.ok (.ret (Value.ref l))) s) :=
  .of_wp fun prog w A R s h => by
    obtain ⟨hp, g, d, tk, os⟩ := s
    obtain ⟨ho, h⟩ := h
    have f1 := AutoSeq1.idx_int
    have c1 : (its.isEmpty || (1 : Int) == 1) = true := by simp
    wp_walk using wpAny_loadPart' ho
    exact ⟨_, rfl, h⟩
def rOneT (K : PySem.W.Frag) : R2 := fun x y H Q => ∃ l xs, x = .ref l ∧ y = .int 1 ∧ SqT K H l xs ∧ Q (.ref l) H
theorem op_oneT : OpR X (binaryOp .Mult) (rOneT X.K) := by
  intro pins s σ H x y v u Q I rx ry h
  obtain ⟨l, xs, rfl, rfl, hT, q⟩ := h
  cases rx
  obtain ⟨t, rfl⟩ := ry
  obtain ⟨its, r, ⟨⟨cls, dd, data, sl⟩, ho, hc, n, hd⟩, hs⟩ := I.tuple hT
  simp only at hc hd
  subst hc hd
  exact wpAny_binaryOp_repeat_ref (T := "tuple") (U := "int") (by decide) ⟨_, ho, rfl⟩ (fun s' => typeIs_int s' 1 t) noFill_tuple_mul F.fills_int_mul F.slot_int_rmul repeat_tuple F.slot_int_index.lookup
    (call_meets F.slot_int_rmul (typeIs_int s 1 t) F.entry_int_rmul (F.args_int_rmul_2 _ _) (int_rmul_tuple 1 t l its.toArray n dd sl) ⟨ho, rfl, ⟨_, ho, rfl⟩, call_meets F.slot_tuple_mul ⟨_, ho, rfl⟩ F.entry_tuple_mul (F.args_tuple_mul_2 _ _) (tup_times_one l its.toArray n dd sl t) ⟨ho, .ref l, H, I, rfl, q⟩⟩)
theorem bin_ok {op : BOp} {d1 d2 : D} {r : Rs} (h : binD op d1 d2 = some r) : ∃ o, OpR X (binaryOp op.op) o ∧ OpS X.K o d1 d2 r := by
  unfold binD at h
  split at h
  · cases h
    exact ⟨_, op_add, fun H x y Q h1 h2 k => ⟨_, _, h1.int, h2.int, k _ H (same_refl H) (by simp only [Fr, Rp])⟩⟩
  · split at h
    · next hl =>
      cases h
      exact ⟨_, op_add_str, fun H x y Q h1 h2 k => ⟨_, _, h1.str.1, h2.str.1, lim_size hl, k _ H (same_refl H) (by simp only [Fr, Rp, true_and]; exact strOk_append h1.str.2 h2.str.2)⟩⟩
    · cases h
  · split at h
    · next hl =>
      cases h
      refine ⟨_, op_catA, fun H x y Q h1 h2 k => ?_⟩
      obtain ⟨a, vs, rfl, hs, hv⟩ := h1.tup
      obtain ⟨b, ws, rfl, hs2, hw⟩ := h2.tup
      refine ⟨a, b, vs, ws, rfl, rfl, hs, hs2, by rw [hv.length, hw.length]; exact lim_size hl, fun e => ?_, fun _ e => ?_, fun _ _ p hp => ?_⟩
      · refine k _ H (same_refl H) ?_
        simp only [Fr, Rp]
        have := hv.append hw
        rw [e, List.nil_append] at this
        exact ⟨b, ws, rfl, hs2, this⟩
      · refine k _ H (same_refl H) ?_
        simp only [Fr, Rp]
        have := hv.append hw
        rw [e, List.append_nil] at this
        exact ⟨a, vs, rfl, hs, this⟩
      · refine k _ _ (same_new hp) ?_
        simp only [Fr, Rp]
        exact ⟨p, vs ++ ws, rfl, SqT.of upd_same, RpL.per (Per.of_same (same_new hp)) _ _ (hv.append hw)⟩
    · cases h
  · split at h
    · next hl =>
      cases h
      refine ⟨_, op_catR, fun H x y Q h1 h2 k => ?_⟩
      obtain ⟨a, vs, rfl, hs, hv⟩ := h1.rd
      obtain ⟨b, ws, rfl, hs2, hw⟩ := h2.rd
      refine ⟨a, b, vs, ws, rfl, rfl, hs, hs2, by rw [hv.length, hw.length]; exact lim_size hl, fun p hp => ?_⟩
      exact k _ _ (same_new hp) ⟨p, rfl, hp, vs ++ ws, upd_same, RpL.per (Per.of_same (same_new hp)) _ _ (hv.append hw)⟩
    · cases h
  · cases h
    exact ⟨_, op_sub, fun H x y Q h1 h2 k => ⟨_, _, h1.int, h2.int, k _ H (same_refl H) (by simp only [Fr, Rp])⟩⟩
  · split at h
    · next hl =>
      cases h
      refine ⟨_, op_mul, fun H x y Q h1 h2 k => ⟨_, _, h1.int, h2.int, ?_, k _ H (same_refl H) (by simp only [Fr, Rp])⟩⟩
      rw [Bool.or_eq_true] at hl
      rcases hl with hl | hl
      · exact .inl (fits64_of hl)
      · exact .inr (fits64_of hl)
    · cases h
  · split at h
    · next hl =>
      cases h
      simp only [Bool.and_eq_true, decide_eq_true_eq] at hl
      obtain ⟨h1, h2⟩ := hl
      refine ⟨_, op_timR, fun H x y Q q1 q2 k => ?_⟩
      obtain ⟨a, vs, rfl, hs, hv⟩ := q1.rd
      refine ⟨a, _, vs, rfl, q2.int, hs, ?_, by rw [hv.length]; exact lim_size h2, fun p hp => ?_⟩
      · unfold small62 at h1
        simp only [Bool.and_eq_true, decide_eq_true_eq] at h1
        omega
      · exact k _ _ (same_new hp) ⟨p, rfl, hp, _, upd_same, RpL.per (Per.of_same (same_new hp)) _ _ (hv.rep _)⟩
    · cases h
  · split at h
    · next hl =>
      cases h
      subst hl
      refine ⟨_, op_oneT, fun H x y Q q1 q2 k => ?_⟩
      obtain ⟨a, vs, rfl, hs, hv⟩ := q1.tup
      exact ⟨a, vs, rfl, q2.int, hs, k _ H (same_refl H) (by simp only [Fr, Rp]; exact ⟨a, vs, rfl, hs, hv⟩)⟩
    split at h
    · next hl =>
      cases h
      simp only [Bool.and_eq_true, decide_eq_true_eq, Bool.not_eq_true'] at hl
      obtain ⟨⟨⟨h1, h2⟩, h3⟩, h4⟩ := hl
      refine ⟨_, op_repT, fun H x y Q q1 q2 k => ?_⟩
      obtain ⟨a, vs, rfl, hs, hv⟩ := q1.tup
      refine ⟨a, _, vs, rfl, q2.int, hs, fun e => ?_, h2, h3, by rw [hv.length]; exact h4, fun p hp => ?_⟩
      · subst e
        have := hv.length
        rw [List.length_nil] at this
        rw [List.isEmpty_eq_false_iff] at h1
        exact h1 (List.eq_nil_of_length_eq_zero this.symm)
      · refine k _ _ (same_new hp) ?_
        simp only [Fr, Rp]
        exact ⟨p, _, rfl, SqT.of upd_same, RpL.per (Per.of_same (same_new hp)) _ _ (hv.rep _)⟩
    · cases h
  · split at h
    · next hl =>
      cases h
      exact ⟨_, op_mod, fun H x y Q h1 h2 k => ⟨_, _, h1.int, h2.int, hl, k _ H (same_refl H) (by simp only [Fr, Rp])⟩⟩
    · cases h
  · split at h
    · next hl =>
      cases h
      exact ⟨_, op_fdivW, fun H x y Q h1 h2 k => ⟨_, _, h1.int, h2.int, wide_div (b := 64) hl.1 (by omega) (by decide) (by decide), k _ H (same_refl H) (by simp only [Fr, Rp])⟩⟩
    · cases h
  · split at h
    · next hl =>
      cases h
      refine ⟨_, op_pow, fun H x y Q h1 h2 k => ⟨_, _, h1.int, h2.int, ⟨hl.1, hl.2.1, ?_⟩, k _ H (same_refl H) (by simp only [Fr, Rp])⟩⟩
      have := fits64_of hl.2.2
      omega
    · cases h
  · cases h
end
end Sv

namespace Sv
open PySem PySem.Spec PyProof.Rows L2
inductive COp where
  | eq | ne | lt | le | gt | ge | inn | nin | is | isn
  deriving DecidableEq
def COp.op : COp → CmpOp
  | .eq => .Eq
  | .ne => .NotEq
  | .lt => .Lt
  | .le => .LtE
  | .gt => .Gt
  | .ge => .GtE
  | .inn => .In
  | .nin => .NotIn
  | .is => .Is
  | .isn => .IsNot
def flatD : D → Bool
  | .non => true
  | .bl _ => true
  | .int _ => true
  | .str _ => true
  | _ => false
def isNon : D → Bool
  | .non => true
  | _ => false
def inD (x : D) (ys : List D) : Bool := ys.any fun y => eqD y x
/-! dicts with keys that are ints or texts -/
def keyOfD : D → Option Key
  | .int i => some (.inl i)
  | .str x => some (.inr x)
  | _ => none
def valD (kvs : List (Key × D)) (k : Key) : Option D := (kvs.find? fun kv => decide (kv.1 = k)).map (·.2)
def putD (kvs : List (Key × D)) (k : Key) (d : D) : List (Key × D) := if (kvs.any fun kv => decide (kv.1 = k)) = true then kvs.map (fun kv => if kv.1 = k then (kv.1, d) else kv) else kvs ++ [(k, d)]
theorem keyOfD_v {K : PySem.W.Frag} {H : Hp} {d : D} {k : Key} {v : V} (h : keyOfD d = some k) (r : RpR K H d v) : v = kV k := by
  cases d <;> simp only [keyOfD, Option.some.injEq, reduceCtorEq] at h
  · subst h; exact r.int
  · subst h; exact r.str.1
theorem RpK.val {K : PySem.W.Frag} {H : Hp} {k : Key} : ∀ {kvs : List (Key × D)} {ws : List (Key × V)}, RpK K H kvs ws → (∀ d, valD kvs k = some d → ∃ v, valV ws k = some v ∧ Rp K H d v) ∧ (valD kvs k = none → valV ws k = none)
  | [], ws, h => by
    simp only [RpK] at h
    subst h
    exact ⟨fun d h => (by cases h), fun _ => rfl⟩
  | (k', d') :: kvs, ws, h => by
    simp only [RpK] at h
    obtain ⟨v, r, rfl, h1, h2⟩ := h
    by_cases e : k' = k
    · subst e
      refine ⟨fun d hd => ?_, fun hd => ?_⟩
      · simp only [valD, List.find?_cons, decide_true, Option.map_some, Option.some.injEq] at hd
        subst hd
        exact ⟨v, by simp [valV], h1⟩
      · simp [valD] at hd
    · have a : valD ((k', d') :: kvs) k = valD kvs k := by simp [valD, List.find?_cons, e]
      have b : valV ((k', v) :: r) k = valV r k := by simp [valV, List.find?_cons, e]
      rw [a, b]
      exact RpK.val h2
theorem RpK.isSome {K : PySem.W.Frag} {H : Hp} {k : Key} {kvs : List (Key × D)} {ws : List (Key × V)} (h : RpK K H kvs ws) : (valV ws k).isSome = (valD kvs k).isSome := by
  cases e : valD kvs k with
  | none => rw [h.val.2 e]; rfl
  | some d => obtain ⟨v, h1, _⟩ := h.val.1 d e; rw [h1]; rfl
theorem RpK.length {K : PySem.W.Frag} {H : Hp} : ∀ {kvs : List (Key × D)} {ws : List (Key × V)}, RpK K H kvs ws → ws.length = kvs.length
  | [], ws, h => by simp only [RpK] at h; rw [h]; rfl
  | (k', d') :: kvs, ws, h => by
    simp only [RpK] at h
    obtain ⟨v, r, rfl, h1, h2⟩ := h
    rw [List.length_cons, List.length_cons, RpK.length h2]
theorem RpK.keys {K : PySem.W.Frag} {H : Hp} : ∀ {kvs : List (Key × D)} {ws : List (Key × V)}, RpK K H kvs ws → ws.map (·.1) = kvs.map (·.1)
  | [], ws, h => by simp only [RpK] at h; rw [h]; rfl
  | (k', d') :: kvs, ws, h => by
    simp only [RpK] at h
    obtain ⟨v, r, rfl, h1, h2⟩ := h
    rw [List.map_cons, List.map_cons, RpK.keys h2]
theorem RpK.snoc {K : PySem.W.Frag} {H : Hp} {k : Key} {d : D} {v : V} : ∀ {kvs : List (Key × D)} {ws : List (Key × V)}, RpK K H kvs ws → Rp K H d v → RpK K H (kvs ++ [(k, d)]) (ws ++ [(k, v)])
  | [], ws, h, r => by
    simp only [RpK] at h
    subst h
    simp only [List.nil_append, RpK]
    exact ⟨v, [], rfl, r, rfl⟩
  | (k', d') :: kvs, ws, h, r => by
    simp only [RpK] at h
    obtain ⟨v', r', rfl, h1, h2⟩ := h
    simp only [List.cons_append, RpK]
    exact ⟨v', _, rfl, h1, RpK.snoc h2 r⟩
theorem RpK.sub {K : PySem.W.Frag} {H : Hp} {k : Key} {d : D} {v : V} (r : Rp K H d v) : ∀ {kvs : List (Key × D)} {ws : List (Key × V)}, RpK K H kvs ws → RpK K H (kvs.map fun kv => if kv.1 = k then (kv.1, d) else kv) (ws.map fun kv => if kv.1 = k then (kv.1, v) else kv)
  | [], ws, h => by
    simp only [RpK] at h
    subst h
    simp only [List.map_nil, RpK]
  | (k', d') :: kvs, ws, h => by
    simp only [RpK] at h
    obtain ⟨v', r', rfl, h1, h2⟩ := h
    simp only [List.map_cons]
    by_cases e : k' = k
    · simp only [e, if_true, RpK]
      exact ⟨v, _, rfl, r, RpK.sub r h2⟩
    · simp only [e, if_false, RpK]
      exact ⟨v', _, rfl, h1, RpK.sub r h2⟩
theorem RpK.put {K : PySem.W.Frag} {H : Hp} {k : Key} {d : D} {v : V} {kvs : List (Key × D)} {ws : List (Key × V)} (h : RpK K H kvs ws) (r : Rp K H d v) : RpK K H (putD kvs k d) (putK ws k v) := by
  unfold putD putK
  have e : (ws.any fun kv => decide (kv.1 = k)) = kvs.any fun kv => decide (kv.1 = k) := by
    have := congrArg (fun l => l.any fun x => decide (x = k)) h.keys
    simpa [List.any_map, Function.comp_def] using this
  rw [e]
  split
  · exact RpK.sub r h
  · exact h.snoc r
theorem RpR.dk {K : PySem.W.Frag} {H : Hp} {kvs : List (Key × D)} {v : V} (h : RpR K H (.dK kvs) v) : ∃ a ws, v = .ref a ∧ Rd H a (.dK ws) ∧ RpK K H kvs ws := by
  rcases h with h | ⟨a, e, h⟩
  · simp only [Rp] at h
    obtain ⟨a, o, ws, e, hs, hl⟩ := h
    exact ⟨a, ws, e, .inr ⟨o, hs⟩, hl⟩
  · simp only [Cel] at h
    obtain ⟨ws, e', r⟩ := h
    exact ⟨a, ws, e, .inl e', r⟩
def memD (x : D) : D → Option Bool
  | .dK kvs => match keyOfD x with
    | some k => some (valD kvs k).isSome
    | none => none
  | .lst ys => if dep x ≤ 64 ∧ dep (.lst ys) ≤ 64 then some (inD x ys) else none
  | .tup ys => if flatD x ∧ ys.all flatD then some (inD x ys) else none
  | .str z => match x with
    | .str w => match w.cps.toList with
      | [c] => some (decide (c ∈ z.cps.toList))
      | _ => none
    | _ => none
  | _ => none
def cmpD : COp → D → D → Option Bool
  | .eq, a, b => if dep a ≤ 64 ∧ dep b ≤ 64 then some (eqD a b) else none
  | .ne, a, b => if dep a ≤ 64 ∧ dep b ≤ 64 then some (!eqD a b) else none
  | .lt, .int a, .int b => some (decide (a < b))
  | .le, .int a, .int b => some (decide (a ≤ b))
  | .gt, .int a, .int b => some (decide (b < a))
  | .ge, .int a, .int b => some (decide (b ≤ a))
  | .lt, .str a, .str b => some (decide (a.cps.toList < b.cps.toList))
  | .inn, a, b => memD a b
  | .nin, a, b => (memD a b).map (!·)
  | .is, a, .non => some (isNon a)
  | .isn, a, .non => some (!isNon a)
  | .is, .bl a, .bl b => some (decide (a = b))
  | .isn, .bl a, .bl b => some (!decide (a = b))
  | _, _, _ => none
section
variable {X : Cx} {K : PySem.W.Frag} {H : Hp}
theorem isNon_v {d : D} {v : V} (h : RpR K H d v) : decide (v = .non) = isNon d := by
  cases d with
  | non => rw [h.non]; rfl
  | bl b => rw [h.bl]; rfl
  | int b => rw [h.int]; rfl
  | str b => rw [h.str.1]; rfl
  | tup b => obtain ⟨a, _, rfl, _⟩ := h.tup; rfl
  | lst b => obtain ⟨a, _, rfl, _⟩ := h.rd; rfl
  | dK b =>
    rcases h with h | ⟨a, rfl, _⟩
    · simp only [Rp] at h
      obtain ⟨a, _, _, rfl, _⟩ := h
      rfl
    · rfl
  | dT b =>
    rcases h with h | ⟨a, rfl, _⟩
    · simp only [Rp] at h
      obtain ⟨a, _, _, rfl, _⟩ := h
      rfl
    · rfl
  | scr b => obtain ⟨a, rfl, _⟩ := h.scr; rfl
  | hid b =>
    rcases h with h | ⟨a, rfl, _⟩
    · simp only [Rp] at h
      obtain ⟨a, _, _, rfl, _⟩ := h
      rfl
    · rfl
theorem any_toPs (x : D) (hx : dep x ≤ 64) : ∀ ys : List D, depL ys ≤ 64 → ((toPs ys).any fun z => PyData.eqv z (toP x)) = inD x ys
  | [], _ => rfl
  | y :: ys, h => by
    simp only [depL] at h
    simp only [toPs, List.any_cons, inD]
    rw [eqD_eqv y x (by omega) hx, any_toPs x hx ys (by omega)]
    rfl
theorem flat_v {d : D} {v : V} (f : flatD d = true) (h : Rp K H d v) : flatV v = true := by
  cases d <;> simp only [flatD, reduceCtorEq] at f <;> simp only [Rp] at h
  · subst h; rfl
  · subst h; rfl
  · subst h; rfl
  · rw [h.1]; rfl
theorem eqV_eqD {a b : D} {x y : V} (fa : flatD a = true) (fb : flatD b = true) (ha : Rp K H a x) (hb : Rp K H b y) : eqV x y = eqD a b := by
  cases a <;> simp only [flatD, reduceCtorEq] at fa <;> cases b <;> simp only [flatD, reduceCtorEq] at fb <;> simp only [Rp] at ha hb
  all_goals first
    | (subst ha; subst hb; rfl)
    | (rw [ha.1]; subst hb; rfl)
    | (rw [hb.1]; subst ha; rfl)
    | (rw [ha.1, hb.1]; rfl)
theorem inV_inD {d : D} {x : V} (fd : flatD d = true) (hd : Rp K H d x) : ∀ {ys : List D} {vs : List V}, ys.all flatD = true → RpL K H ys vs → vs.all flatV = true ∧ inV x vs = inD d ys
  | [], vs, _, h => by
    simp only [RpL] at h
    subst h
    exact ⟨rfl, rfl⟩
  | y :: ys, vs, f, h => by
    simp only [RpL] at h
    obtain ⟨v, r, rfl, h1, h2⟩ := h
    rw [List.all_cons, Bool.and_eq_true] at f
    obtain ⟨i1, i2⟩ := inV_inD fd hd f.2 h2
    refine ⟨by rw [List.all_cons, flat_v f.1 h1, i1]; rfl, ?_⟩
    unfold inV inD at i2 ⊢
    rw [List.any_cons, List.any_cons, i2, eqV_eqD f.1 fd h1 hd]
theorem RpR.flat {d : D} {v : V} (f : flatD d = true) (h : RpR K H d v) : Rp K H d v := by
  rcases h with h | ⟨a, rfl, h⟩
  · exact h
  · cases d <;> simp only [flatD, reduceCtorEq] at f <;> simp [Cel] at h
theorem str_one {w : Str} {c : Nat} (h : w.cps.toList = [c]) : w = ⟨#[c]⟩ := by
  cases w with
  | mk a =>
    have : a = #[c] := by
      apply Array.ext'
      exact h
    rw [this]
theorem op_notIn_sign' : OpR X (compareOp .NotIn) (fun x y H Q => ∃ (c : Nat) (z : Str), x = .str ⟨#[c]⟩ ∧ y = .str z ∧ Q (.bl (!decide (c ∈ z.cps.toList))) H) := op_notIn_sign
theorem op_din (hu : X.A.units + 65 < cLine) : OpR X (compareOp .In) (fun y x H Q => ∃ a o, x = .ref a ∧ DGet H a y o ∧ Q (.bl o.isSome) H) := by
  intro pins s σ H y x u v Q I ry rx h
  obtain ⟨a, ov, ex, g, q⟩ := h
  subst ex
  obtain rfl : v = Value.ref a := rx
  exact d_in (by omega) I g ry fun s3 I3 => ⟨.bl ov.isSome, H, I3, rfl, q⟩
theorem op_dnotin (hu : X.A.units + 65 < cLine) : OpR X (compareOp .NotIn) (fun y x H Q => ∃ a o, x = .ref a ∧ DGet H a y o ∧ Q (.bl (!o.isSome)) H) := by
  intro pins s σ H y x u v Q I ry rx h
  obtain ⟨a, ov, ex, g, q⟩ := h
  subst ex
  obtain rfl : v = Value.ref a := rx
  exact d_notIn (by omega) I g ry fun s3 I3 => ⟨.bl (!ov.isSome), H, I3, rfl, q⟩
theorem ix_dict (hu : X.A.units + 65 < cLine) : IxR X (fun x y H Q => ∃ a v, x = .ref a ∧ DGet H a y (some v) ∧ Q v H) := by
  intro value slice pins s σ H x y v u Q I rx ry h hs
  obtain ⟨a, w, ex, g, q⟩ := h
  subst ex
  obtain rfl : v = Value.ref a := rx
  exact tail_any (dict_typeIs I g) PySem.F.slot_dict_getitem.lookup (d_getItem (by omega) I g ry fun w' s3 I3 rw' => ⟨w, H, I3, rw', q⟩) hs
theorem mem_ok {neg : Bool} {d1 d2 : D} {b : Bool} (hu : X.A.units + 65 < cLine) (h : memD d1 d2 = some b) :
    (∃ o, OpR X (compareOp .In) o ∧ OpS X.K o d1 d2 (.val (.bl b))) ∧ ∃ o, OpR X (compareOp .NotIn) o ∧ OpS X.K o d1 d2 (.val (.bl (!b))) := by
  unfold memD at h
  split at h
  · next kvs =>
    split at h
    · next k hk =>
      cases h
      refine ⟨⟨_, op_din hu, fun H x y Q h1 h2 q => ?_⟩, _, op_dnotin hu, fun H x y Q h1 h2 q => ?_⟩
      · obtain ⟨a, ws, rfl, hr, hw⟩ := h2.dk
        refine ⟨a, _, rfl, .inl ⟨ws, k, hr, keyOfD_v hk h1, rfl⟩, q _ H (same_refl H) ?_⟩
        simp only [Fr, Rp]
        rw [hw.isSome]
      · obtain ⟨a, ws, rfl, hr, hw⟩ := h2.dk
        refine ⟨a, _, rfl, .inl ⟨ws, k, hr, keyOfD_v hk h1, rfl⟩, q _ H (same_refl H) ?_⟩
        simp only [Fr, Rp]
        rw [hw.isSome]
    · cases h
  · next ys =>
    split at h
    · next hd =>
      cases h
      have hl : depL ys ≤ 64 := by have := hd.2; simp only [dep] at this; omega
      refine ⟨⟨_, op_inD hu, fun H x y Q h1 h2 k => ?_⟩, _, op_notInD hu, fun H x y Q h1 h2 k => ?_⟩
      · obtain ⟨a, b⟩ := h1.dp hd.1
        obtain ⟨c, e⟩ := h2.dp hd.2
        refine ⟨_, _, a, c, b, e, k _ H (same_refl H) ?_⟩
        simp only [Fr, Rp]
        rw [any_toPs _ hd.1 ys hl]
      · obtain ⟨a, b⟩ := h1.dp hd.1
        obtain ⟨c, e⟩ := h2.dp hd.2
        refine ⟨_, _, a, c, b, e, k _ H (same_refl H) ?_⟩
        simp only [Fr, Rp]
        rw [any_toPs _ hd.1 ys hl]
    · cases h
  · next ys =>
    split at h
    · next hd =>
      cases h
      refine ⟨⟨_, op_in_seq, fun H x y Q h1 h2 k => ?_⟩, _, op_notIn_seq, fun H x y Q h1 h2 k => ?_⟩
      · obtain ⟨a, vs, rfl, hs, hv⟩ := h2.tup
        have r1 := h1.flat hd.1
        obtain ⟨i1, i2⟩ := inV_inD hd.1 r1 hd.2 hv
        refine ⟨a, vs, rfl, .inr hs, flat_v hd.1 r1, i1, k _ H (same_refl H) ?_⟩
        simp only [Fr, Rp]
        rw [if_neg (by decide), i2]
      · obtain ⟨a, vs, rfl, hs, hv⟩ := h2.tup
        have r1 := h1.flat hd.1
        obtain ⟨i1, i2⟩ := inV_inD hd.1 r1 hd.2 hv
        refine ⟨a, vs, rfl, .inr hs, flat_v hd.1 r1, i1, k _ H (same_refl H) ?_⟩
        simp only [Fr, Rp]
        rw [if_pos trivial, i2]
    · cases h
  · split at h
    · split at h
      · next w c hw =>
        cases h
        have e := str_one hw
        subst e
        refine ⟨⟨_, op_in_sign, fun H x y Q h1 h2 k => ⟨_, _, h1.str.1, h2.str.1, k _ H (same_refl H) (by simp only [Fr, Rp])⟩⟩, _, op_notIn_sign', fun H x y Q h1 h2 k => ⟨_, _, h1.str.1, h2.str.1, k _ H (same_refl H) (by simp only [Fr, Rp])⟩⟩
      · cases h
    · cases h
  · cases h
theorem cmp_ok {op : COp} {d1 d2 : D} {b : Bool} (hu : X.A.units + 65 < cLine) (h : cmpD op d1 d2 = some b) : ∃ o, OpR X (compareOp op.op) o ∧ OpS X.K o d1 d2 (.val (.bl b)) := by
  unfold cmpD at h
  split at h
  · split at h
    · next hd =>
      cases h
      refine ⟨_, op_eqD (by omega), fun H x y Q h1 h2 k => ?_⟩
      obtain ⟨a, b⟩ := h1.dp hd.1
      obtain ⟨c, e⟩ := h2.dp hd.2
      refine ⟨_, _, a, c, b, e, k _ H (same_refl H) ?_⟩
      simp only [Fr, Rp]
      rw [eqD_eqv _ _ hd.1 hd.2]
    · cases h
  · split at h
    · next hd =>
      cases h
      refine ⟨_, op_neD (by omega), fun H x y Q h1 h2 k => ?_⟩
      obtain ⟨a, b⟩ := h1.dp hd.1
      obtain ⟨c, e⟩ := h2.dp hd.2
      refine ⟨_, _, a, c, b, e, k _ H (same_refl H) ?_⟩
      simp only [Fr, Rp]
      rw [eqD_eqv _ _ hd.1 hd.2]
    · cases h
  · cases h
    exact ⟨_, op_lt, fun H x y Q h1 h2 k => ⟨_, _, h1.int, h2.int, k _ H (same_refl H) (by simp only [Fr, Rp])⟩⟩
  · cases h
    exact ⟨_, op_le, fun H x y Q h1 h2 k => ⟨_, _, h1.int, h2.int, k _ H (same_refl H) (by simp only [Fr, Rp])⟩⟩
  · cases h
    exact ⟨_, op_gt, fun H x y Q h1 h2 k => ⟨_, _, h1.int, h2.int, k _ H (same_refl H) (by simp only [Fr, Rp])⟩⟩
  · cases h
    exact ⟨_, op_ge, fun H x y Q h1 h2 k => ⟨_, _, h1.int, h2.int, k _ H (same_refl H) (by simp only [Fr, Rp])⟩⟩
  · cases h
    exact ⟨_, op_lt_str, fun H x y Q h1 h2 k => ⟨_, _, h1.str.1, h2.str.1, k _ H (same_refl H) (by simp only [Fr, Rp])⟩⟩
  · exact (mem_ok (neg := false) hu h).1
  · cases hm : memD d1 d2 with
    | none => rw [hm] at h; cases h
    | some b' =>
      rw [hm] at h
      cases h
      exact (mem_ok (neg := true) hu hm).2
  · cases h
    exact ⟨_, op_isN, fun H x y Q h1 h2 k => ⟨h2.non, k _ H (same_refl H) (by simp only [Fr, Rp]; rw [isNon_v h1])⟩⟩
  · cases h
    exact ⟨_, op_notN, fun H x y Q h1 h2 k => ⟨h2.non, k _ H (same_refl H) (by simp only [Fr, Rp]; rw [isNon_v h1])⟩⟩
  · cases h
    exact ⟨_, op_isBl, fun H x y Q h1 h2 k => ⟨_, _, h1.bl, h2.bl, k _ H (same_refl H) (by simp only [Fr, Rp])⟩⟩
  · cases h
    exact ⟨_, op_notBl, fun H x y Q h1 h2 k => ⟨_, _, h1.bl, h2.bl, k _ H (same_refl H) (by simp only [Fr, Rp])⟩⟩
  · cases h
end
/-! an item, a slice -/
def ixD : D → D → Option D
  | .dK kvs, d => match keyOfD d with
    | some k => valD kvs k
    | none => none
  | .lst xs, .int i => atI xs i
  | .tup xs, .int i => atI xs i
  | .scr ns, .int i => (atI ns i).map .int
  | .str z, .int i => if z.length ≤ lim then (atI z.cps.toList i).map fun c => .str ⟨#[c]⟩ else none
  | _, _ => none
theorem atI_rp {K : PySem.W.Frag} {H : Hp} {xs : List D} {vs : List V} {i : Int} {d : D} (h : RpL K H xs vs) (ha : atI xs i = some d) : ∃ v, atI vs i = some v ∧ Rp K H d v := by
  unfold atI at ha ⊢
  rw [h.length]
  cases hx : ixN xs.length i with
  | none => rw [hx] at ha; cases ha
  | some j =>
    rw [hx] at ha
    exact h.get ha
theorem ix_ok {X : Cx} {d1 d2 d : D} (hu : X.A.units + 65 < cLine) (h : ixD d1 d2 = some d) : ∃ o, IxR X o ∧ OpS X.K o d1 d2 (.val d) := by
  unfold ixD at h
  split at h
  · next kvs d0 =>
    split at h
    · next k hk =>
      refine ⟨_, ix_dict hu, fun H x y Q h1 h2 q => ?_⟩
      obtain ⟨a, ws, rfl, hr, hw⟩ := h1.dk
      obtain ⟨v, g1, g2⟩ := hw.val.1 d h
      exact ⟨a, v, rfl, .inl ⟨ws, k, hr, keyOfD_v hk h2, g1.symm⟩, q _ H (same_refl H) g2⟩
    · cases h
  · refine ⟨_, ix_list, fun H x y Q h1 h2 k => ?_⟩
    obtain ⟨a, vs, rfl, hs, hv⟩ := h1.lst
    obtain ⟨v, g1, g2⟩ := atI_rp hv h
    exact ⟨a, vs, _, v, rfl, h2.int, hs, g1, k _ H (same_refl H) g2⟩
  · refine ⟨_, ix_tup, fun H x y Q h1 h2 k => ?_⟩
    obtain ⟨a, vs, rfl, hs, hv⟩ := h1.tup
    obtain ⟨v, g1, g2⟩ := atI_rp hv h
    exact ⟨a, vs, _, v, rfl, h2.int, hs, g1, k _ H (same_refl H) g2⟩
  · next ns i =>
    rw [Option.map_eq_some_iff] at h
    obtain ⟨n, h1, rfl⟩ := h
    refine ⟨_, ix_list, fun H x y Q q1 q2 k => ?_⟩
    obtain ⟨a, rfl, hs⟩ := q1.scr
    have g1 : atI (ns.map V.int) i = some (.int n) := by
      unfold atI at h1 ⊢
      rw [List.length_map]
      cases hx : ixN ns.length i with
      | none => rw [hx] at h1; cases h1
      | some j =>
        rw [hx] at h1
        show (ns.map V.int)[j]? = some (.int n)
        rw [List.getElem?_map, show ns[j]? = some n from h1]
        rfl
    exact ⟨a, _, _, _, rfl, q2.int, hs, g1, k _ H (same_refl H) (by simp only [Fr, Rp])⟩
  · next z i =>
    split at h
    · next hl =>
      cases ha : atI z.cps.toList i with
      | none => rw [ha] at h; cases h
      | some c =>
        rw [ha] at h
        cases h
        refine ⟨_, ix_str, fun H x y Q h1 h2 k => ⟨_, _, c, h1.str.1, h2.int, lim_size hl, ha, k _ H (same_refl H) ?_⟩⟩
        simp only [Fr, Rp, true_and]
        obtain ⟨j, _, hj, _⟩ := atI_get ha
        exact strOk_at h1.str.2 (List.mem_of_getElem? hj)
    · cases h
  · cases h
def cutD {α : Type} (xs : List α) (lo hi : Option Int) : List α := (xs.drop (HT.sIx xs.length 0 lo)).take (HT.sIx xs.length xs.length hi - HT.sIx xs.length 0 lo)
def slD : D → Option Int → Option Int → Option Rs
  | .lst xs, lo, hi => some (.new (.lst (cutD xs lo hi)))
  | .tup xs, lo, hi => some (.val (.tup (cutD xs lo hi)))
  | .str z, lo, hi => if z.length ≤ lim then some (.val (.str ⟨(cutD z.cps.toList lo hi).toArray⟩)) else none
  | _, _, _ => none
theorem RpL.drop {K : PySem.W.Frag} {H : Hp} : ∀ {xs : List D} {vs : List V} (n : Nat), RpL K H xs vs → RpL K H (xs.drop n) (vs.drop n)
  | xs, vs, 0, h => h
  | [], vs, n + 1, h => by
    simp only [RpL] at h
    subst h
    simp [RpL]
  | x :: xs, vs, n + 1, h => by
    simp only [RpL] at h
    obtain ⟨v, r, rfl, h1, h2⟩ := h
    exact RpL.drop n h2
theorem RpL.take {K : PySem.W.Frag} {H : Hp} : ∀ {xs : List D} {vs : List V} (n : Nat), RpL K H xs vs → RpL K H (xs.take n) (vs.take n)
  | xs, vs, 0, h => by simp [RpL]
  | [], vs, n + 1, h => by
    simp only [RpL] at h
    subst h
    simp [RpL]
  | x :: xs, vs, n + 1, h => by
    simp only [RpL] at h
    obtain ⟨v, r, rfl, h1, h2⟩ := h
    simp only [List.take_succ_cons, RpL]
    exact ⟨v, _, rfl, h1, RpL.take n h2⟩
theorem RpL.cut {K : PySem.W.Frag} {H : Hp} {xs : List D} {vs : List V} (lo hi : Option Int) (h : RpL K H xs vs) : RpL K H (cutD xs lo hi) (cutV vs lo hi) := by
  unfold cutD cutV
  rw [h.length]
  exact RpL.take _ (RpL.drop _ h)
def SlS (K : PySem.W.Frag) (o : V → Option Int → Option Int → Hp → VK → Prop) (d1 : D) (lo hi : Option Int) (r : Rs) : Prop := ∀ (H : Hp) (x : V) (Q : VK), RpR K H d1 x → (∀ v H', Same H H' → Fr K H r v H' → Q v H') → o x lo hi H Q
theorem strOk_sub {z : Str} {cs : List Nat} (h : PyData.strOk z = true) (hc : ∀ c ∈ cs, c ∈ z.cps.toList) : PyData.strOk ⟨cs.toArray⟩ = true := by
  unfold PyData.strOk at h ⊢
  rw [← Array.all_toList, List.all_eq_true] at h ⊢
  intro k hk
  exact h k (hc k (by simpa using hk))
theorem sl_ok {X : Cx} {d1 : D} {lo hi : Option Int} {r : Rs} (h : slD d1 lo hi = some r) : ∃ o, SlR X o ∧ SlS X.K o d1 lo hi r := by
  unfold slD at h
  split at h
  · cases h
    refine ⟨_, sl_list, fun H x Q h1 k => ?_⟩
    obtain ⟨a, vs, rfl, hs, hv⟩ := h1.lst
    refine ⟨a, vs, rfl, hs, fun p hp => k _ _ (same_new hp) ?_⟩
    exact ⟨p, rfl, hp, _, upd_same, RpL.per (Per.of_same (same_new hp)) _ _ (hv.cut _ _)⟩
  · cases h
    refine ⟨_, sl_tupA, fun H x Q h1 k => ?_⟩
    obtain ⟨a, vs, rfl, hs, hv⟩ := h1.tup
    refine ⟨a, vs, rfl, hs, fun hw => k _ H (same_refl H) ?_, fun hw p hp => k _ _ (same_new hp) ?_⟩
    · simp only [Fr, Rp]
      have := hv.cut lo hi
      have e : cutV vs lo hi = vs := by
        unfold cutV
        rw [hw.1, hw.2, List.drop_zero, Nat.sub_zero, List.take_length]
      rw [e] at this
      exact ⟨a, vs, rfl, hs, this⟩
    · simp only [Fr, Rp]
      exact ⟨p, _, rfl, SqT.of upd_same, RpL.per (Per.of_same (same_new hp)) _ _ (hv.cut _ _)⟩
  · split at h
    · next hl =>
      cases h
      refine ⟨_, sl_str, fun H x Q h1 k => ⟨_, h1.str.1, lim_size hl, k _ H (same_refl H) ?_⟩⟩
      simp only [Fr, Rp]
      refine ⟨rfl, strOk_sub h1.str.2 fun c hc => ?_⟩
      unfold cutD at hc
      exact List.mem_of_mem_drop (List.mem_of_mem_take hc)
    · cases h
  · cases h
def rdO (K : PySem.W.Frag) (Γ : Gm) (o : Option Int) (Γ' : Gm) : TO := fun σ H Q => EnvOk K Γ σ H ∧ ∀ H', Ste K Γ σ H Γ' σ H' → Q o H'
def DO (X : Cx) (e : Option Expr) (Γ : Gm) (o : Option Int) (Γ' : Gm) : Prop := PO X e (rdO X.K Γ o Γ')
section
variable {X : Cx} {Γ Γ1 Γ2 Γ3 : Gm} {e : Expr} {r r1 : Rs} {d1 : D} {pos p2 : Pos} {lo hi : Option Expr} {l u : Option Int}
theorem do_none : DO X none Γ none Γ := ⟨fun pins s σ H Q I q => po_none.run pins s σ H Q I (q.2 H (Ste.refl q.1))⟩
theorem do_some {i : Int} (h : DE X e Γ r Γ1) (hr : readR r Γ1 = some (.int i)) : DO X (some e) Γ (some i) Γ1 :=
  ⟨fun pins s σ H Q I q => (po_some h).run pins s σ H Q I ⟨q.1, fun v H1 s1 p1 o1 => ⟨i, (read_ok s1.env p1 hr).int, q.2 H1 s1⟩⟩⟩
theorem de_slice {o : V → Option Int → Option Int → Hp → VK → Prop} (ho : SlR X o) (he : DE X e Γ r1 Γ1) (hl : DO X lo Γ1 l Γ2) (hu : DO X hi Γ2 u Γ3) (h1 : readR r1 Γ3 = some d1) (hs : SlS X.K o d1 l u r) : DE X (.Subscript e (.Slice lo hi none p2) pos) Γ r Γ3 :=
  pe_sub (pe_slice ho he hl hu) fun σ H Q q => ⟨q.1, fun x H1 s1 p1 o1 => ⟨s1.env, fun H2 s2 => ⟨s2.env, fun H3 s3 => hs H3 x _ (read_ok s3.env ((p1.ste s2).ste s3) h1) fun v H4 sm f => by
    obtain ⟨s4, p4, o4⟩ := f.lift s3.env sm
    exact q.2 v H4 (((s1.trans s2).trans s3).trans s4) p4 (o4.ste ((s1.trans s2).trans s3))⟩⟩⟩
end
end Sv

namespace Sv
open PySem PySem.Spec PyProof.Rows L2
/-! built-in functions, by data -/
inductive Bi where
  | len | abs | min | max | sum | all | any | tuple | list | int | str
  deriving DecidableEq
def Bi.name : Bi → Str
  | .len => "len"
  | .abs => "abs"
  | .min => "min"
  | .max => "max"
  | .sum => "sum"
  | .all => "all"
  | .any => "any"
  | .tuple => "tuple"
  | .list => "list"
  | .int => "int"
  | .str => "str"
def Bi.val : Bi → Value
  | .len => .builtin "len"
  | .abs => .builtin "abs"
  | .min => .builtin "min"
  | .max => .builtin "max"
  | .sum => .builtin "sum"
  | .all => .builtin "all"
  | .any => .builtin "any"
  | .tuple => .type "tuple"
  | .list => .type "list"
  | .int => .type "int"
  | .str => .type "str"
theorem Bi.boot (b : Bi) : bootBuiltins b.name = some b.val := by cases b <;> decide +kernel
theorem Bi.plain (b : Bi) : b.name ≠ "__name__" ∧ (b.name == ("__debug__" : Str)) = false := by cases b <;> exact ⟨by decide, by decide⟩
def intsOf : List D → Option (List Int)
  | [] => some []
  | .int i :: ds => (intsOf ds).map (i :: ·)
  | _ => none
def boolsOf : List D → Option (List Bool)
  | [] => some []
  | .bl i :: ds => (boolsOf ds).map (i :: ·)
  | _ => none
def maxI : List Int → Int
  | [] => 0
  | [x] => x
  | x :: xs => max x (maxI xs)
def minI : List Int → Int
  | [] => 0
  | [x] => x
  | x :: xs => min x (minI xs)
def biD : Bi → List D → Option Rs
  | .len, [.lst xs] => some (.val (.int xs.length))
  | .len, [.tup xs] => some (.val (.int xs.length))
  | .len, [.scr xs] => some (.val (.int xs.length))
  | .len, [.str z] => if z.length ≤ lim then some (.val (.int z.length)) else none
  | .abs, [.int i] => some (.val (.int (if i < 0 then -i else i)))
  | .min, [.int i, .int j] => some (.val (.int (if j < i then j else i)))
  | .max, [.int i, .int j] => some (.val (.int (if j > i then j else i)))
  | .min, [.lst xs] => match intsOf xs with
    | some (n :: ns) => some (.val (.int (minI (n :: ns))))
    | _ => none
  | .max, [.lst xs] => match intsOf xs with
    | some (n :: ns) => some (.val (.int (maxI (n :: ns))))
    | _ => none
  | .sum, [.lst xs] => (intsOf xs).map fun ns => .val (.int ns.sum)
  | .all, [.lst xs] => (boolsOf xs).map fun bs => .val (.bl (bs.all id))
  | .any, [.lst xs] => (boolsOf xs).map fun bs => .val (.bl (bs.any id))
  | .tuple, [.lst xs] => some (.val (.tup xs))
  | .tuple, [.tup xs] => some (.val (.tup xs))
  | .list, [.lst xs] => some (.new (.lst xs))
  | .list, [.tup xs] => some (.new (.lst xs))
  | .int, [.int i] => some (.val (.int i))
  | .int, [.bl b] => some (.val (.int (if b then 1 else 0)))
  | .str, [.int i] => if i.natAbs < 2 ^ 200 then some (.val (.str (toString i : String))) else none
  | _, _ => none
section
variable {X : Cx} {K : PySem.W.Frag} {H : Hp}
theorem intsOf_v : ∀ {xs : List D} {ns : List Int} {vs : List V}, intsOf xs = some ns → RpL K H xs vs → vs = ns.map V.int
  | [], ns, vs, h, r => by
    simp only [intsOf, Option.some.injEq] at h
    subst h
    simp only [RpL] at r
    exact r
  | d :: xs, ns, vs, h, r => by
    cases d <;> simp only [intsOf, reduceCtorEq] at h
    next i =>
    cases hx : intsOf xs with
    | none => rw [hx] at h; cases h
    | some ms =>
      rw [hx] at h
      cases h
      simp only [RpL] at r
      obtain ⟨v, w, rfl, h1, h2⟩ := r
      simp only [Rp] at h1
      rw [h1, intsOf_v hx h2]
      rfl
theorem boolsOf_v : ∀ {xs : List D} {ns : List Bool} {vs : List V}, boolsOf xs = some ns → RpL K H xs vs → vs = ns.map V.bl
  | [], ns, vs, h, r => by
    simp only [boolsOf, Option.some.injEq] at h
    subst h
    simp only [RpL] at r
    exact r
  | d :: xs, ns, vs, h, r => by
    cases d <;> simp only [boolsOf, reduceCtorEq] at h
    next i =>
    cases hx : boolsOf xs with
    | none => rw [hx] at h; cases h
    | some ms =>
      rw [hx] at h
      cases h
      simp only [RpL] at r
      obtain ⟨v, w, rfl, h1, h2⟩ := r
      simp only [Rp] at h1
      rw [h1, boolsOf_v hx h2]
      rfl
theorem maxI_is : ∀ (x : Int) (xs : List Int) (m : Int), m ∈ x :: xs → (∀ y ∈ x :: xs, y ≤ m) → m = maxI (x :: xs)
  | x, [], m, h, _ => by simpa [maxI] using h
  | x, y :: ys, m, h, k => by
    have mm : ∀ (y : Int) (ys : List Int), maxI (y :: ys) ∈ y :: ys := by
      intro y ys
      induction ys generalizing y with
      | nil => simp [maxI]
      | cons z zs ih =>
        simp only [maxI]
        have := ih z
        by_cases c : y ≤ maxI (z :: zs)
        · rw [Int.max_eq_right c]; exact List.mem_cons_of_mem _ this
        · rw [Int.max_eq_left (by omega)]; exact List.mem_cons_self
    have ge : ∀ (y : Int) (ys : List Int), ∀ z ∈ y :: ys, z ≤ maxI (y :: ys) := by
      intro y ys
      induction ys generalizing y with
      | nil => intro z hz; simp at hz; simp [maxI, hz]
      | cons w ws ih =>
        intro z hz
        simp only [maxI]
        rcases List.mem_cons.1 hz with rfl | hz
        · omega
        · have := ih w z hz; omega
    have h1 := k _ (mm x (y :: ys))
    have h2 := ge x (y :: ys) m h
    omega
theorem minI_is : ∀ (x : Int) (xs : List Int) (m : Int), m ∈ x :: xs → (∀ y ∈ x :: xs, m ≤ y) → m = minI (x :: xs)
  | x, [], m, h, _ => by simpa [minI] using h
  | x, y :: ys, m, h, k => by
    have mm : ∀ (y : Int) (ys : List Int), minI (y :: ys) ∈ y :: ys := by
      intro y ys
      induction ys generalizing y with
      | nil => simp [minI]
      | cons z zs ih =>
        simp only [minI]
        have := ih z
        by_cases c : y ≤ minI (z :: zs)
        · rw [Int.min_eq_left c]; exact List.mem_cons_self
        · rw [Int.min_eq_right (by omega)]; exact List.mem_cons_of_mem _ this
    have ge : ∀ (y : Int) (ys : List Int), ∀ z ∈ y :: ys, minI (y :: ys) ≤ z := by
      intro y ys
      induction ys generalizing y with
      | nil => intro z hz; simp at hz; simp [minI, hz]
      | cons w ws ih =>
        intro z hz
        simp only [minI]
        rcases List.mem_cons.1 hz with rfl | hz
        · omega
        · have := ih w z hz; omega
    have h1 := k _ (mm x (y :: ys))
    have h2 := ge x (y :: ys) m h
    omega
theorem strOk_of_string (s : String) (h : PyData.strOk (Str.ofString s) = true) : PyData.strOk (s : Str) = true := h
theorem log2_small {i : Int} (h : i.natAbs < 2 ^ 200) : i.natAbs.log2 < 1920 := by
  by_cases z : i.natAbs = 0
  · rw [z]; decide
  · have := (Nat.log2_lt z).2 (Nat.lt_of_lt_of_le h (Nat.pow_le_pow_right (by decide) (by decide : 200 ≤ 1920)))
    exact this
theorem bi_ok {b : Bi} {ds : List D} {r : Rs} (hc : X.calm = true) (h : biD b ds = some r) (hns : b ≠ .str) : ∃ o, CallR X b.val o ∧ CaS X.K o ds r := by
  unfold biD at h
  split at h
  · cases h
    refine ⟨_, call_len_seq, fun H xs Q g0 k => ?_⟩
    obtain ⟨v, rfl, h1⟩ := RpRL.one g0
    obtain ⟨a, vs, rfl, hs, hv⟩ := h1.lst
    exact ⟨a, vs, rfl, .inl hs, k _ H (same_refl H) (by simp only [Fr, Rp]; rw [hv.length])⟩
  · cases h
    refine ⟨_, call_len_seq, fun H xs Q g0 k => ?_⟩
    obtain ⟨v, rfl, h1⟩ := RpRL.one g0
    obtain ⟨a, vs, rfl, hs, hv⟩ := h1.tup
    exact ⟨a, vs, rfl, .inr hs, k _ H (same_refl H) (by simp only [Fr, Rp]; rw [hv.length])⟩
  · cases h
    refine ⟨_, call_len_seq, fun H xs Q g0 k => ?_⟩
    obtain ⟨v, rfl, h1⟩ := RpRL.one g0
    obtain ⟨a, rfl, hs⟩ := h1.scr
    exact ⟨a, _, rfl, .inl hs, k _ H (same_refl H) (by simp only [Fr, Rp]; rw [List.length_map])⟩
  · split at h
    · next hl =>
      cases h
      refine ⟨_, call_len_str, fun H xs Q g0 k => ?_⟩
      obtain ⟨v, rfl, h1⟩ := RpRL.one g0
      rw [h1.str.1]
      exact ⟨_, rfl, lim_size hl, k _ H (same_refl H) (by simp only [Fr, Rp])⟩
    · cases h
  · cases h
    refine ⟨_, call_abs, fun H xs Q g0 k => ?_⟩
    obtain ⟨v, rfl, h1⟩ := RpRL.one g0
    rw [h1.int]
    exact ⟨_, rfl, k _ H (same_refl H) (by simp only [Fr, Rp])⟩
  · cases h
    refine ⟨_, call_min2 hc, fun H xs Q g0 k => ?_⟩
    obtain ⟨v, w, rfl, h1, h2⟩ := RpRL.two g0
    rw [h1.int, h2.int]
    exact ⟨_, _, rfl, k _ H (same_refl H) (by simp only [Fr, Rp])⟩
  · cases h
    refine ⟨_, call_max2 hc, fun H xs Q g0 k => ?_⟩
    obtain ⟨v, w, rfl, h1, h2⟩ := RpRL.two g0
    rw [h1.int, h2.int]
    exact ⟨_, _, rfl, k _ H (same_refl H) (by simp only [Fr, Rp])⟩
  · split at h
    · next n ns hn =>
      cases h
      refine ⟨_, cr_min hc, fun H xs Q g0 k => ?_⟩
      obtain ⟨v, rfl, h1⟩ := RpRL.one g0
      obtain ⟨a, vs, rfl, hs, hv⟩ := h1.lst
      have e := intsOf_v hn hv
      subst e
      refine ⟨a, n :: ns, rfl, hs, by simp, fun m hm hle => k _ H (same_refl H) ?_⟩
      simp only [Fr, Rp]
      rw [minI_is n ns m hm hle]
    · cases h
  · split at h
    · next n ns hn =>
      cases h
      refine ⟨_, cr_max hc, fun H xs Q g0 k => ?_⟩
      obtain ⟨v, rfl, h1⟩ := RpRL.one g0
      obtain ⟨a, vs, rfl, hs, hv⟩ := h1.lst
      have e := intsOf_v hn hv
      subst e
      refine ⟨a, n :: ns, rfl, hs, by simp, fun m hm hle => k _ H (same_refl H) ?_⟩
      simp only [Fr, Rp]
      rw [maxI_is n ns m hm hle]
    · cases h
  · next xs =>
    cases hn : intsOf xs with
    | none => rw [hn] at h; cases h
    | some ns =>
      rw [hn] at h
      cases h
      refine ⟨_, cr_sum hc, fun H xs Q g0 k => ?_⟩
      obtain ⟨v, rfl, h1⟩ := RpRL.one g0
      obtain ⟨a, vs, rfl, hs, hv⟩ := h1.lst
      have e := intsOf_v hn hv
      subst e
      exact ⟨a, ns, rfl, hs, k _ H (same_refl H) (by simp only [Fr, Rp])⟩
  · next xs =>
    cases hn : boolsOf xs with
    | none => rw [hn] at h; cases h
    | some ns =>
      rw [hn] at h
      cases h
      refine ⟨_, cr_all hc, fun H xs Q g0 k => ?_⟩
      obtain ⟨v, rfl, h1⟩ := RpRL.one g0
      obtain ⟨a, vs, rfl, hs, hv⟩ := h1.lst
      have e := boolsOf_v hn hv
      subst e
      exact ⟨a, ns, rfl, hs, k _ H (same_refl H) (by simp only [Fr, Rp])⟩
  · next xs =>
    cases hn : boolsOf xs with
    | none => rw [hn] at h; cases h
    | some ns =>
      rw [hn] at h
      cases h
      refine ⟨_, cr_any hc, fun H xs Q g0 k => ?_⟩
      obtain ⟨v, rfl, h1⟩ := RpRL.one g0
      obtain ⟨a, vs, rfl, hs, hv⟩ := h1.lst
      have e := boolsOf_v hn hv
      subst e
      exact ⟨a, ns, rfl, hs, k _ H (same_refl H) (by simp only [Fr, Rp])⟩
  · cases h
    refine ⟨_, call_tuple_of, fun H xs Q g0 k => ?_⟩
    obtain ⟨v, rfl, h1⟩ := RpRL.one g0
    obtain ⟨a, vs, rfl, hs, hv⟩ := h1.lst
    refine ⟨a, vs, rfl, .inl ⟨hs, fun l hl => k _ _ (same_new hl) ?_⟩⟩
    simp only [Fr, Rp]
    exact ⟨l, vs, rfl, SqT.of upd_same, RpL.per (Per.of_same (same_new hl)) _ _ hv⟩
  · cases h
    refine ⟨_, call_tuple_of, fun H xs Q g0 k => ?_⟩
    obtain ⟨v, rfl, h1⟩ := RpRL.one g0
    obtain ⟨a, vs, rfl, hs, hv⟩ := h1.tup
    refine ⟨a, vs, rfl, .inr ⟨hs, k _ _ (same_refl H) ?_⟩⟩
    simp only [Fr, Rp]
    exact ⟨a, vs, rfl, hs, hv⟩
  · cases h
    refine ⟨_, call_list_of, fun H xs Q g0 k => ?_⟩
    obtain ⟨v, rfl, h1⟩ := RpRL.one g0
    obtain ⟨a, vs, rfl, hs, hv⟩ := h1.lst
    exact ⟨a, vs, rfl, .inl hs, fun l hl => k _ _ (same_new hl) ⟨l, rfl, hl, vs, upd_same, RpL.per (Per.of_same (same_new hl)) _ _ hv⟩⟩
  · cases h
    refine ⟨_, call_list_of, fun H xs Q g0 k => ?_⟩
    obtain ⟨v, rfl, h1⟩ := RpRL.one g0
    obtain ⟨a, vs, rfl, hs, hv⟩ := h1.tup
    exact ⟨a, vs, rfl, .inr hs, fun l hl => k _ _ (same_new hl) ⟨l, rfl, hl, vs, upd_same, RpL.per (Per.of_same (same_new hl)) _ _ hv⟩⟩
  · cases h
    refine ⟨_, call_int1, fun H xs Q g0 k => ?_⟩
    obtain ⟨v, rfl, h1⟩ := RpRL.one g0
    rw [h1.int]
    exact .inl ⟨_, rfl, k _ H (same_refl H) (by simp only [Fr, Rp])⟩
  · cases h
    refine ⟨_, call_int1, fun H xs Q g0 k => ?_⟩
    obtain ⟨v, rfl, h1⟩ := RpRL.one g0
    rw [h1.bl]
    exact .inr ⟨_, rfl, k _ H (same_refl H) (by simp only [Fr, Rp])⟩
  · exact absurd rfl hns
  · cases h
end
/-- a built-in called -/
theorem de_bi {X : Cx} {Γ Γ1 : Gm} {b : Bi} {p pos : Pos} {e : Expr} {es : List Expr} {rs : List Rs} {ds : List D} {r : Rs} (hc : X.calm = true) (hg : Gl X b.name) (hm : X.mg b.name = none) (ha : DA X (e :: es) Γ rs Γ1) (hr : readRs rs Γ1 = some ds) (hb : biD b ds = some r) (hns : b ≠ .str)
    (he : starEach (e :: es) X.env = (false, eval e X.env) :: starEach es X.env) (hpl : (backTo pos (starEach es X.env)).any (·.1) = false) : DE X (.Call (.Name b.name p) (e :: es) [] pos) Γ r Γ1 := by
  obtain ⟨o, c1, c2⟩ := bi_ok hc hb hns
  have bt := b.boot
  cases hv : b.val with
  | builtin id =>
    rw [hv] at c1 bt
    exact de_callB c1 hg hm bt ha hr c2 b.plain.1 b.plain.2 he hpl
  | type T =>
    rw [hv] at c1 bt
    exact de_callTy c1 hg hm bt ha hr c2 b.plain.1 b.plain.2 he hpl
  | _ => cases b <;> simp [Bi.val] at hv
end Sv

namespace Sv
open PySem PySem.Spec PyProof.Rows L2
section
variable {X : Cx} {Γ Γ1 Γ2 Γ3 : Gm} {o e e2 : Expr} {es : List Expr} {r r1 r2 : Rs} {d d1 : D} {ds xs : List D} {i : Nat} {ap cp pos p p2 p3 : Pos}
/-- x.append(e) -/
theorem de_append (ho : DE X o Γ (.slot i) Γ1) (ha : DC X [e] Γ1 [d] Γ2) (hw : ownAt Γ2 i = some (.lst xs)) (hl : xs.length < 1000000)
    (hbase : attributeBase o "append" X.env (eval o X.env) = eval o X.env) (hst : starEach [e] X.env = [(false, eval e X.env)]) (hline : (ap.endLine == cp.line) = true) :
    (o' : ownAt Γ1 i ≠ none) → (∀ xs, ownAt Γ1 i = some xs → ∃ ys, xs = .lst ys) → DE X (.Call (.Attribute o "append" ap) [e] [] cp) Γ (.val .non) (setOwn Γ2 i (.lst (xs ++ [d]))) := by
  intro hn hlst
  refine pe_sub (pe_bm PySem.F.plainAttrs_list PySem.F.slot_list_append PySem.F.type_list_append mt_append ho ha hbase (by rw [hst]; rfl) hline (by rw [hst]; rfl) rfl) fun σ H Q q => ⟨q.1, fun x H1 s1 p1 o1 => ?_⟩
  cases hw1 : ownAt Γ1 i with
  | none => exact absurd hw1 hn
  | some x0 =>
    obtain ⟨ys, rfl⟩ := hlst x0 hw1
    obtain ⟨a, h1, c1⟩ := s1.env.mu i _ (ownAt_iff.1 hw1)
    have p1' : σ[i]? = some (some x) := p1
    rw [p1'] at h1
    cases h1
    obtain ⟨ws, hws, _⟩ := c1
    refine ⟨.inl ⟨rfl, ws, SqL.of hws⟩, s1.env, fun vs H2 s2 rp => ?_⟩
    obtain ⟨b, h2, c2⟩ := s2.env.mu i _ (ownAt_iff.1 hw)
    rw [p1'] at h2
    cases h2
    obtain ⟨us, hus, ru⟩ := c2
    simp only [RpL] at rp
    obtain ⟨y, w, rfl, ry, rfl⟩ := rp
    refine ⟨a, us, y, rfl, rfl, hus, by rw [ru.length]; exact Nat.lt_of_lt_of_le hl (by decide), ?_⟩
    have cl : Cell Γ2 σ a := ⟨i, _, ownAt_iff.1 hw, p1'⟩
    have pr : Per H2 (upd H2 a (.lst (us ++ [y]))) := fun b u im hb => by
      rw [upd_ne (fun z => by subst z; rw [hus] at hb; cases hb; exact im)]
      exact hb
    have st := Ste.own (d' := .lst (xs ++ [d])) s2.env hw p1' (H' := upd H2 a (.lst (us ++ [y]))) (fun b u nb hb => by rw [upd_ne nb]; exact hb) ⟨_, upd_same, (RpL.per pr _ _ ru).snoc (Rp.per pr _ _ ry)⟩
    exact q.2 _ _ ((s1.trans s2).trans st) (by simp only [Pd, Rp]) trivial
/-- f(..).append(e): the list is let go -/
theorem de_appendN {ys : List D} (ho : DE X o Γ (.new (.lst ys)) Γ1) (ha : DC X [e] Γ1 [d] Γ2) (hl : ys.length < 1000000)
    (hbase : attributeBase o "append" X.env (eval o X.env) = eval o X.env) (hst : starEach [e] X.env = [(false, eval e X.env)]) (hline : (ap.endLine == cp.line) = true) :
    DE X (.Call (.Attribute o "append" ap) [e] [] cp) Γ (.val .non) Γ2 := by
  refine pe_sub (pe_bm PySem.F.plainAttrs_list PySem.F.slot_list_append PySem.F.type_list_append mt_append ho ha hbase (by rw [hst]; rfl) hline (by rw [hst]; rfl) rfl) fun σ H Q q => ⟨q.1, fun x H1 s1 p1 o1 => ?_⟩
  obtain ⟨a, rfl, c1, n1⟩ := id p1
  obtain ⟨ws, hws, rw1⟩ := c1
  refine ⟨.inl ⟨rfl, ws, SqL.of hws⟩, s1.env, fun vs H2 s2 rp => ?_⟩
  obtain ⟨b, eb, c2, n2⟩ := p1.ste s2
  cases eb
  obtain ⟨us, hus, ru⟩ := c2
  simp only [RpL] at rp
  obtain ⟨y, w, rfl, ry, rfl⟩ := rp
  refine ⟨a, us, y, rfl, rfl, hus, by rw [ru.length]; exact Nat.lt_of_lt_of_le hl (by decide), ?_⟩
  have pr : Per H2 (upd H2 a (.lst (us ++ [y]))) := fun b u im hb => by
    rw [upd_ne (fun z => by subst z; rw [hus] at hb; cases hb; exact im)]
    exact hb
  have st := s1.trans s2
  refine q.2 _ _ ⟨st.e0, ⟨fun i d' hi => ?_, fun i d' hi => ?_, st.env.df, st.env.len⟩, fun b u hb nb => ?_, fun b hb => ?_, st.sub, st.io, st.gl, st.sl⟩ (by simp only [Pd, Rp]) trivial
  · obtain ⟨v, h1, h2⟩ := st.env.sh i d' hi
    exact ⟨v, h1, Rp.per pr _ _ h2⟩
  · obtain ⟨b, h1, h2⟩ := st.env.mu i d' hi
    exact ⟨b, h1, h2.keep pr fun u hu => by rw [upd_ne (fun z => by subst z; exact n2 ⟨i, d', hi, h1⟩)]; exact hu⟩
  · rw [upd_ne (fun z => by
      subst z
      rcases o1 b rfl with c | c
      · exact nb c
      · rw [hb] at c; cases c)]
    exact st.keep b u hb nb
  · by_cases z : b = a
    · subst z; rw [upd_same] at hb; cases hb
    · rw [upd_ne z] at hb; exact st.live b hb
/-- x[i] = e, x a list of one's own -/
theorem ds_ixset {ix : Expr} {n : Int} {j : Nat} (he : DE X e Γ (.val d) Γ1) (ho : DE X o Γ1 (.slot i) Γ2) (hi : DE X ix Γ2 r Γ3) (hr : readR r Γ3 = some (.int n)) (hw : ownAt Γ3 i = some (.lst xs)) (hj : ixN xs.length n = some j)
    (ha : ∀ v, assign (.Subscript o ix p2) X.env v = (do
      let ov ← holding [v] (eval o X.env)
      let iv ← holding [v, ov] (eval ix X.env)
      standAt p2
      holding [v, ov, iv] (setItem ov iv v)
      release [v, ov, iv] [])) (hs : swapsWithSole [.Subscript o ix p2] e pos.line X.env = pure false) (hww : swappedStores [.Subscript o ix p2] e X.env = pure none) (h1 : (assignEach [.Subscript o ix p2] X.env).map (·.2) = [assign (.Subscript o ix p2) X.env]) :
    DS X (.Assign [.Subscript o ix p2] e pos) Γ .nx (setOwn Γ3 i (.lst (xs.set j d))) := by
  refine ps_sub (ps_asg he (pg_sub ho hi set_list ha) hs hww h1) fun Dn σ H q => ⟨q.1, fun v H1 s1 p1 o1 => ⟨s1.env, fun x H2 s2 p2' o2 => ⟨s2.env, fun y H3 s3 p3' o3 => ?_⟩⟩⟩
  obtain ⟨a, h1', c1⟩ := s3.env.mu i _ (ownAt_iff.1 hw)
  have px : σ[i]? = some (some x) := p2'
  rw [px] at h1'
  cases h1'
  obtain ⟨us, hus, ru⟩ := c1
  have ey := (read_ok s3.env p3' hr).int
  subst ey
  have rv : Rp X.K H3 d v := Rp.per (s2.trans s3).per _ _ p1
  refine ⟨a, us, n, j, rfl, rfl, hus, by rw [ru.length]; exact hj, ?_⟩
  have pr : Per H3 (upd H3 a (.lst (us.set j v))) := fun b u im hb => by
    rw [upd_ne (fun z => by subst z; rw [hus] at hb; cases hb; exact im)]
    exact hb
  have rset : ∀ {H : Hp} {xs : List D} {us : List V} (j : Nat), RpL X.K H xs us → Rp X.K H d v → RpL X.K H (xs.set j d) (us.set j v) := by
    intro H xs
    induction xs with
    | nil => intro us j h _; simp only [RpL] at h; subst h; simp [RpL]
    | cons z zs ih =>
      intro us j h hd
      simp only [RpL] at h
      obtain ⟨w, ws, rfl, g1, g2⟩ := h
      cases j with
      | zero => simp only [List.set_cons_zero, RpL]; exact ⟨v, ws, rfl, hd, g2⟩
      | succ j => simp only [List.set_cons_succ, RpL]; exact ⟨w, _, rfl, g1, ih j g2 hd⟩
  have st := Ste.own (d' := .lst (xs.set j d)) s3.env hw px (H' := upd H3 a (.lst (us.set j v))) (fun b u nb hb => by rw [upd_ne nb]; exact hb) ⟨_, upd_same, rset j (RpL.per pr _ _ ru) (Rp.per pr _ _ rv)⟩
  exact q.2.2 σ _ (((s1.trans s2).trans s3).trans st)
/-- x op= e, ints -/
def augD : BOp → D → D → Option D
  | .add, .int a, .int b => some (.int (a + b))
  | .sub, .int a, .int b => some (.int (a - b))
  | _, _, _ => none
theorem ds_augI {x : Str} {b : BOp} {m n k : Int} (hN : X.N.Nodup) (hi : X.N[i]? = some x) (hx : Loc X.env.scope x) (hg : Γ[i]? = some (.sh (.int m))) (he : DE X e Γ r Γ1) (hr : readR r Γ1 = some (.int n)) (ha : augD b (.int m) (.int n) = some (.int k)) (hb : bindR i (.val (.int k)) Γ1 = some Γ2) (hf : X.fn x = true ∨ X.env.scope.names.lookup x = some .local) :
    DS X (.AugAssign (.Name x p2) b.op e pos) Γ .nx Γ2 := by
  have key : ∃ f : Int → Int → Int, PIp X b.op (ipI f) ∧ f m n = k := by
    cases b <;> simp only [augD, Option.some.injEq, D.int.injEq, reduceCtorEq] at ha
    · exact ⟨_, ip_add, ha⟩
    · exact ⟨_, ip_sub, ha⟩
  obtain ⟨f, hp, hf2⟩ := key
  refine ps_sub (ps_aug hN hi hx he hp hf) fun D σ H q => ?_
  obtain ⟨v, h1, h2⟩ := q.1.sh i _ hg
  simp only [Rp] at h2
  subst h2
  refine ⟨.int m, h1, q.1, fun y H1 s1 p1 o1 => ?_⟩
  have ey := (read_ok s1.env p1 hr).int
  subst ey
  refine ⟨m, n, rfl, rfl, ?_⟩
  rw [hf2]
  exact q.2.2 _ H1 (s1.bind (s1.lens q.2.1) hb (by simp only [Pd, Rp]) trivial)
/-- sep.join(xs) -/
def strsOf : List D → Option (List Str)
  | [] => some []
  | .str i :: ds => (strsOf ds).map (i :: ·)
  | _ => none
theorem strsOf_v {K : PySem.W.Frag} {H : Hp} : ∀ {xs : List D} {ns : List Str} {vs : List V}, strsOf xs = some ns → RpL K H xs vs → vs = ns.map V.str ∧ ∀ n ∈ ns, PyData.strOk n = true
  | [], ns, vs, h, q => by
    simp only [strsOf, Option.some.injEq] at h
    subst h
    simp only [RpL] at q
    exact ⟨q, fun _ h => by simp at h⟩
  | d :: xs, ns, vs, h, q => by
    cases d <;> simp only [strsOf, reduceCtorEq] at h
    next i =>
    cases hx : strsOf xs with
    | none => rw [hx] at h; cases h
    | some ms =>
      rw [hx] at h
      cases h
      simp only [RpL] at q
      obtain ⟨v, w, rfl, h1, h2⟩ := q
      simp only [Rp] at h1
      obtain ⟨e1, e2⟩ := strsOf_v hx h2
      rw [h1.1, e1]
      exact ⟨rfl, fun n hn => by
        rcases List.mem_cons.1 hn with rfl | hn
        · exact h1.2
        · exact e2 n hn⟩
def joinD (a : Str) : D → Option Str
  | .lst xs => match strsOf xs with
    | some ys => if (ys.map (·.length)).sum + ys.length * a.length ≤ lim then some (Str.join a ys) else none
    | none => none
  | .tup xs => match strsOf xs with
    | some ys => if (ys.map (·.length)).sum + ys.length * a.length ≤ lim then some (Str.join a ys) else none
    | none => none
  | _ => none
theorem strOk_join {a : Str} (ha : PyData.strOk a = true) : ∀ {ys : List Str}, (∀ y ∈ ys, PyData.strOk y = true) → PyData.strOk (Str.join a ys) = true
  | [], _ => by simp [PyData.strOk, Str.join, Str.empty]
  | [y], h => h y (by simp)
  | y :: z :: ys, h => by
    show PyData.strOk (y ++ a ++ Str.join a (z :: ys)) = true
    exact strOk_append (strOk_append (h y (by simp)) ha) (strOk_join ha fun w hw => h w (List.mem_cons_of_mem _ hw))
theorem de_join {a z : Str} (ho : DE X o Γ (.val (.str a)) Γ1) (he : DE X e Γ1 r Γ2) (hr : readR r Γ2 = some d) (hj : joinD a d = some z) (hst : starEach [e] X.env = [(false, eval e X.env)]) (hbase : attributeBase o "join" X.env (eval o X.env) = eval o X.env) (hline : (ap.endLine == cp.line) = true) :
    DE X (.Call (.Attribute o "join" ap) [e] [] cp) Γ (.val (.str z)) Γ2 :=
  pe_sub (pe_join ho he hst hbase hline) fun σ H Q q => ⟨q.1, fun x H1 s1 p1 o1 => by
    simp only [Pd, Rp] at p1
    refine ⟨⟨a, p1.1⟩, s1.env, fun y H2 s2 p2 o2 => ?_⟩
    have rd := read_ok s2.env p2 hr
    unfold joinD at hj
    split at hj
    · split at hj
      · next ys hy =>
        split at hj
        · next hl =>
          cases hj
          obtain ⟨b, vs, rfl, hs, hv⟩ := rd.lst
          obtain ⟨e1, e2⟩ := strsOf_v hy hv
          subst e1
          refine ⟨a, b, ys, p1.1, rfl, .inl hs, Nat.le_trans hl (by decide), ?_⟩
          rw [TL.join_eq]
          exact q.2 _ H2 (s1.trans s2) (by simp only [Pd, Rp, true_and]; exact strOk_join p1.2 e2) trivial
        · cases hj
      · cases hj
    · split at hj
      · next ys hy =>
        split at hj
        · next hl =>
          cases hj
          obtain ⟨b, vs, rfl, hs, hv⟩ := rd.tup
          obtain ⟨e1, e2⟩ := strsOf_v hy hv
          subst e1
          refine ⟨a, b, ys, p1.1, rfl, .inr hs, Nat.le_trans hl (by decide), ?_⟩
          rw [TL.join_eq]
          exact q.2 _ H2 (s1.trans s2) (by simp only [Pd, Rp, true_and]; exact strOk_join p1.2 e2) trivial
        · cases hj
      · cases hj
    · cases hj⟩
/-- list(range(..)) -/
theorem rgV_rp {K : PySem.W.Frag} {H : Hp} (a b : Int) : RpL K H (rangeD a (b - a).toNat) (rgV a b) := by
  unfold rangeD rgV
  generalize (b - a).toNat = n
  have key : ∀ l : List Nat, RpL K H (l.map fun (k : Nat) => D.int (a + (k : Int))) (l.map fun (i : Nat) => V.int (a + (i : Nat))) := by
    intro l
    induction l with
    | nil => simp [RpL]
    | cons x l ih =>
      simp only [List.map_cons, RpL, Rp]
      exact ⟨_, _, rfl, rfl, ih⟩
  exact key _
def okRng (a b : Int) : Bool := small62 a && small62 b && decide ((b - a).toNat ≤ lim)
theorem okRng_of {a b : Int} (h : okRng a b = true) : RgOk a b := by
  unfold okRng at h
  simp only [Bool.and_eq_true, decide_eq_true_eq] at h
  obtain ⟨⟨h1, h2⟩, h3⟩ := h
  have a1 := small62_of h1
  have a2 := small62_of h2
  exact ⟨a1.1, a1.2, a2.1, a2.2, Nat.le_trans h3 (by decide)⟩
theorem de_lrng1 {n : Int} (hc : X.calm = true) (hg : Gl X "list") (hm : X.mg "list" = none) (hg2 : Gl X "range") (hm2 : X.mg "range" = none) (he : DE X e Γ r Γ1) (hr : readR r Γ1 = some (.int n)) (hn : okRng 0 n = true)
    (hst : starEach [e] X.env = (false, eval e X.env) :: starEach [] X.env) (hst2 : starEach [.Call (.Name "range" p) [e] [] p2] X.env = (false, eval (.Call (.Name "range" p) [e] [] p2) X.env) :: starEach [] X.env) :
    DE X (.Call (.Name "list" p3) [.Call (.Name "range" p) [e] [] p2] [] pos) Γ (.new (.lst (rangeD 0 n.toNat))) Γ1 :=
  pe_sub (pe_listRg hc hg hm (prg_1 hg2 hm2 he hst) hst2) fun σ H Q q => ⟨q.1, fun v H1 s1 p1 o1 => ⟨n, (read_ok s1.env p1 hr).int, okRng_of hn, fun l hl => by
    have f : Fr X.K H1 (.new (.lst (rangeD 0 n.toNat))) (.ref l) (upd H1 l (.lst (rgV 0 n))) := ⟨l, rfl, hl, _, upd_same, by have := rgV_rp (K := X.K) (H := upd H1 l (.lst (rgV 0 n))) 0 n; rw [Int.sub_zero] at this; exact this⟩
    obtain ⟨s2, p2, o2⟩ := f.lift s1.env (same_new hl)
    exact q.2 _ _ (s1.trans s2) p2 (o2.ste s1)⟩⟩
theorem de_lrng2 {m n : Int} (hc : X.calm = true) (hg : Gl X "list") (hm : X.mg "list" = none) (hg2 : Gl X "range") (hm2 : X.mg "range" = none) (he : DE X e Γ r1 Γ1) (he2 : DE X e2 Γ1 r2 Γ2) (hr : readR r1 Γ2 = some (.int m)) (hr2 : readR r2 Γ2 = some (.int n)) (hn : okRng m n = true)
    (hst : starEach [e, e2] X.env = (false, eval e X.env) :: starEach [e2] X.env) (hst3 : starEach [e2] X.env = (false, eval e2 X.env) :: starEach [] X.env) (hst2 : starEach [.Call (.Name "range" p) [e, e2] [] p2] X.env = (false, eval (.Call (.Name "range" p) [e, e2] [] p2) X.env) :: starEach [] X.env) (hpl : (backTo p2 (starEach [e2] X.env)).any (·.1) = false) :
    DE X (.Call (.Name "list" p3) [.Call (.Name "range" p) [e, e2] [] p2] [] pos) Γ (.new (.lst (rangeD m (n - m).toNat))) Γ2 :=
  pe_sub (pe_listRg hc hg hm (prg_2 hg2 hm2 he he2 hst hst3 hpl) hst2) fun σ H Q q => ⟨q.1, fun v H1 s1 p1 o1 => ⟨s1.env, fun w H2 s2 p2' o2 => ⟨m, n, (read_ok s2.env (p1.ste s2) hr).int, (read_ok s2.env p2' hr2).int, okRng_of hn, fun l hl => by
    have f : Fr X.K H2 (.new (.lst (rangeD m (n - m).toNat))) (.ref l) (upd H2 l (.lst (rgV m n))) := ⟨l, rfl, hl, _, upd_same, rgV_rp m n⟩
    obtain ⟨s3, p3, o3⟩ := f.lift s2.env (same_new hl)
    exact q.2 _ _ ((s1.trans s2).trans s3) p3 (o3.ste (s1.trans s2))⟩⟩⟩
end
end Sv

namespace Sv
open PySem PySem.Spec PyProof.Rows L2
/-! isinstance -/
inductive Ty where
  | int | str | bool | list | tuple | dict
  deriving DecidableEq
def Ty.name : Ty → Str
  | .int => "int"
  | .str => "str"
  | .bool => "bool"
  | .list => "list"
  | .tuple => "tuple"
  | .dict => "dict"
def Ty.id : Ty → String
  | .int => "int"
  | .str => "str"
  | .bool => "bool"
  | .list => "list"
  | .tuple => "tuple"
  | .dict => "dict"
theorem Ty.boot (b : Ty) : bootBuiltins b.name = some (.type b.id) := by cases b <;> decide +kernel
theorem Ty.plain (b : Ty) : b.name ≠ "__name__" ∧ (b.name == ("__debug__" : Str)) = false := by cases b <;> exact ⟨by decide, by decide⟩
def tyD : D → Option String
  | .non => some "NoneType"
  | .bl _ => some "bool"
  | .int _ => some "int"
  | .str _ => some "str"
  | .tup _ => some "tuple"
  | .lst _ => some "list"
  | .dK _ => some "dict"
  | .dT _ => none
  | .scr _ => none
  | .hid _ => none
def isi1 : D → Ty → Bool
  | .bl _, .bool => true
  | .bl _, .int => true
  | .int _, .int => true
  | .str _, .str => true
  | .tup _, .tuple => true
  | .lst _, .list => true
  | .dK _, .dict => true
  | _, _ => false
def noT : D → Bool
  | .dT _ => false
  | .scr _ => false
  | .hid _ => false
  | _ => true
theorem kit_tab (t : Ty) : kitB "NoneType" t.id = some false ∧ kitB "bool" t.id = some (t == .bool || t == .int) ∧ kitB "int" t.id = some (t == .int) ∧ kitB "str" t.id = some (t == .str) ∧ kitB "tuple" t.id = some (t == .tuple) ∧ kitB "list" t.id = some (t == .list) ∧ kitB "dict" t.id = some (t == .dict) := by
  cases t <;> decide +kernel
section
variable {X : Cx} {K : PySem.W.Frag} {H : Hp} {Γ Γ1 : Gm} {e : Expr} {r : Rs} {d : D} {p pos p2 p3 : Pos}
theorem tyX_of {v : V} (h : RpR K H d v) (hn : noT d = true) : ∃ T, TyX K H v (.type T) ∧ ∀ t : Ty, PySem.W.kitOne K (.type T) (.type t.id) = some (isi1 d t) := by
  cases d with
  | non => rw [h.non]; exact ⟨_, .base .non, fun t => kit_ty (by rw [(kit_tab t).1]; rfl)⟩
  | bl b => rw [h.bl]; exact ⟨_, .base (.bl b), fun t => kit_ty (by rw [(kit_tab t).2.1]; cases t <;> rfl)⟩
  | int b => rw [h.int]; exact ⟨_, .base (.int b), fun t => kit_ty (by rw [(kit_tab t).2.2.1]; cases t <;> rfl)⟩
  | str b => rw [h.str.1]; exact ⟨_, .base (.str b), fun t => kit_ty (by rw [(kit_tab t).2.2.2.1]; cases t <;> rfl)⟩
  | tup b =>
    obtain ⟨a, vs, rfl, hs, _⟩ := h.tup
    refine ⟨"tuple", ?_, fun t => kit_ty (by rw [(kit_tab t).2.2.2.2.1]; cases t <;> rfl)⟩
    rcases hs with (hs | ⟨o, hs⟩) | ⟨o, its, n, h1, h2, _⟩
    · exact .base (.tup hs)
    · exact .fTuple hs
    · exact .kTuple h1 h2
  | lst b =>
    obtain ⟨a, vs, rfl, hs, _⟩ := h.rd
    refine ⟨"list", ?_, fun t => kit_ty (by rw [(kit_tab t).2.2.2.2.2.1]; cases t <;> rfl)⟩
    rcases hs with hs | ⟨o, hs⟩
    · exact .base (.lst hs)
    · exact .base (.frz hs)
  | dK b =>
    refine ⟨"dict", ?_, fun t => kit_ty (by rw [(kit_tab t).2.2.2.2.2.2]; cases t <;> rfl)⟩
    rcases h with h | ⟨a, rfl, h⟩
    · simp only [Rp] at h
      obtain ⟨a, o, ws, rfl, hs, _⟩ := h
      exact .fDict hs
    · obtain ⟨ws, hs, _⟩ := h
      exact .base (.dK hs)
  | dT b => cases hn
  | scr b => cases hn
  | hid b => cases hn
theorem pe_ty (t : Ty) (hg : Gl X t.name) (hm : X.mg t.name = none) : PE X (.Name t.name p) (tC (.ty t.id)) := pe_bltn hg hm t.boot rfl t.plain.1 t.plain.2
theorem de_isi {t : Ty} (he : DE X e Γ r Γ1) (hr : readR r Γ1 = some d) (hn : noT d = true) (hg : Gl X "isinstance") (hm : X.mg "isinstance" = none) (hg2 : Gl X t.name) (hm2 : X.mg t.name = none)
    (hst : starEach (e :: [.Name t.name p2]) X.env = (false, eval e X.env) :: starEach [.Name t.name p2] X.env) : DE X (.Call (.Name "isinstance" p) (e :: [.Name t.name p2]) [] pos) Γ (.val (.bl (isi1 d t))) Γ1 := by
  refine pe_sub (pe_callB call_isi hg hm (by decide +kernel) (pa_cons he (pa_cons (pe_ty t hg2 hm2) pa_nil) hst) (by decide) (by decide) hst) fun σ H Q q => ⟨q.1, fun v H1 s1 p1 o1 => ?_⟩
  obtain ⟨T, h1, h2⟩ := tyX_of (read_ok s1.env p1 hr) hn
  exact ⟨v, .ty t.id, .type T, .type t.id, _, rfl, .ty _, h1, h2 t, q.2 _ H1 s1 (by simp only [Pd, Rp]) trivial⟩
theorem de_isi2 {t u : Ty} {kk : Nat} (he : DE X e Γ r Γ1) (hr : readR r Γ1 = some d) (hn : noT d = true) (hg : Gl X "isinstance") (hm : X.mg "isinstance" = none) (hg2 : Gl X t.name) (hm2 : X.mg t.name = none) (hg3 : Gl X u.name) (hm3 : X.mg u.name = none)
    (hst : starEach (e :: [.Tuple [.Name t.name p2, .Name u.name p3] kk pos]) X.env = (false, eval e X.env) :: starEach [.Tuple [.Name t.name p2, .Name u.name p3] kk pos] X.env) {pos' : Pos} : DE X (.Call (.Name "isinstance" p) (e :: [.Tuple [.Name t.name p2, .Name u.name p3] kk pos]) [] pos') Γ (.val (.bl (isi1 d t || isi1 d u))) Γ1 := by
  refine pe_sub (pe_callB call_isiT hg hm (by decide +kernel) (pa_cons he (pa_cons (pe_tup (pa_cons (pe_ty t hg2 hm2) (pa_cons (pe_ty u hg3 hm3) pa_nil))) pa_nil) hst) (by decide) (by decide) hst) fun σ H Q q => ⟨q.1, fun v H1 s1 p1 o1 => ⟨show 2 ≤ sizeLine by decide, fun tp htp => ?_⟩⟩
  have s2 := Ste.same s1.env (same_new (o := .tup [.ty t.id, .ty u.id]) htp)
  obtain ⟨T, h1, h2⟩ := tyX_of (read_ok s2.env (p1.ste s2) hr) hn
  refine ⟨v, tp, [.ty t.id, .ty u.id], .type T, [.type t.id, .type u.id], (isi1 d t || isi1 d u), rfl, upd_same, .cons (.ty _) (.cons (.ty _) .nil), h1, ?_, q.2 _ _ (s1.trans s2) (by simp only [Pd, Rp]) trivial⟩
  refine kitAny_cons (h2 t) (fun h => ?_) (fun h => by rw [h]; rfl)
  rw [h, Bool.false_or]
  refine kitAny_cons (h2 u) (fun h' => ?_) (fun h' => h')
  rw [h']
  exact kitAny_nil
end
end Sv

/-! sets of texts -/
namespace Tx
open PySem PySem.Spec PyProof.Rows L2

/-! ### what a set of truth values is -/
def keyX (e : Int × Value) : Str := match e.2 with | .str k _ => k | _ => Str.empty
def GoodX (w : World) (e : Int × Value) : Prop := ∃ k tk, e.2 = Value.str k tk ∧ e.1 = hashStr w k
theorem isX (P : Program) (w : World) (k : Str) (tk : Tok) : (PySem.strKind P w).is k (.str k tk) = true := by
  show Value.isStrOf k (.str k tk) = true
  simp [Value.isStrOf]
/-- the set of bools at a: S its members, n their number; its table rises and can be walked -/
def SetX (w : World) (h : Heap) (a : Addr) (S : Str → Bool) (n : Nat) : Prop :=
  ∃ o es ep t, h.get? a = some o ∧ o.ExactSet ∧ o.data = .set es ep t ∧ (∀ e ∈ es.toList, GoodX w e) ∧ (es.toList.map keyX).Nodup ∧ (∀ k, S k = true ↔ k ∈ es.toList.map keyX) ∧
    es.size < scanBound ∧ t.fits es.size = true ∧ es.size = n ∧ Ris t.place.toList ∧ (w.params.followText "set-order" = true ∨ t.led = true)

section
variable {P : Program} {w : World} {h h' : Heap} {a : Addr} {S : Str → Bool} {n : Nat}

theorem SetX.at (R : SetX w h a S n) (k : ∀ o, h.get? a = some o → h'.get? a = some o) : SetX w h' a S n := by
  obtain ⟨o, es, ep, t, ho, r⟩ := R
  exact ⟨o, es, ep, t, k o ho, r⟩
theorem SetX.lt (R : SetX w h a S n) : a < h.objs.size := by
  obtain ⟨o, es, ep, t, ho, r⟩ := R
  exact Heap.lt_size ho
theorem SetX.congr {S' : Str → Bool} (R : SetX w h a S n) (e : ∀ k, S' k = S k) : SetX w h a S' n := by
  have q : S' = S := funext e
  rw [q]; exact R
theorem goodX_elems {l : List (Int × Value)} (g : ∀ e ∈ l, GoodX w e) : ElemsOf (PySem.strKind P w) l := fun e he => by
  obtain ⟨k, tk, h1, h2⟩ := g e he
  exact ⟨⟨k, by rw [h1]; exact isX P w k tk, h2⟩, by rw [h1] <;> rfl⟩
theorem goodX_is {e : Int × Value} (g : GoodX w e) (k : Str) : (PySem.strKind P w).is k e.2 = true ↔ keyX e = k := by
  obtain ⟨k0, tk, h1, _⟩ := g
  unfold keyX
  rw [h1]
  constructor
  · intro h
    obtain ⟨t, ht⟩ := Value.isStrOf_shape (show Value.isStrOf k (Value.str k0 tk) = true from h)
    injection ht
  · intro h
    subst h
    exact isX P w k0 tk
theorem goodX_mem {l : List (Int × Value)} (g : ∀ e ∈ l, GoodX w e) (k : Str) : k ∈ l.map keyX ↔ ∃ e ∈ l, (PySem.strKind P w).is k e.2 = true := by
  rw [List.mem_map]
  constructor
  · rintro ⟨e, he, q⟩
    exact ⟨e, he, (goodX_is (g e he) k).2 q⟩
  · rintro ⟨e, he, q⟩
    exact ⟨e, he, (goodX_is (g e he) k).1 q⟩
theorem SetX.setOf (R : SetX w h a S n) : h.SetOf (PySem.strKind P w) a S n := by
  obtain ⟨o, es, ep, t, ho, hx, hd, g, nd, hm, hb, hf, hn, _⟩ := R
  exact ⟨o, es, ep, t, ho, hx, hd, goodX_elems g, fun k => (hm k).trans (goodX_mem g k), hb, hf, hn⟩
end

section
variable {P : Program} {w : World} {A : Around} {E : Value → Shared → Prop} {s : Shared} {a : Addr} {S : Str → Bool} {n : Nat}

/-! ### add -/
theorem storeX_at {h : Heap} {a : Addr} {o : Obj} {es es' : Array (Int × Value)} {ep : Nat} {t t' : SetTable} (ho : h.get? a = some o) (hd : o.data = .set es ep t) :
    (h.update a (Obj.putSet es' t')).get? a = some { o with data := .set es' (ep + 1) t' } := by
  have q := Heap.get?_update_self (Obj.putSet es' t') ho (by rw [putSet_of es' t' hd]; rfl)
  rw [putSet_of es' t' hd] at q
  exact q

theorem setX_add_tail {g : Bool → Sem Unit} (hg : ∀ (b : Bool) (s₁ : Shared) (Q' : Unit → Shared → Prop), Q' () s₁ → wpAny (model P w) A (g b) Q' E s₁)
    {o : Obj} {es : Array (Int × Value)} {ep : Nat} {t : SetTable} (ho : s.heap.get? a = some o) (hex : o.ExactSet) (hd : o.data = .set es ep t)
    {es1 : Array (Int × Value)} {t2 : SetTable} {S' : Str → Bool} (g1 : ∀ e ∈ es1.toList, GoodX w e) (nd1 : (es1.toList.map keyX).Nodup) (m1 : ∀ k, S' k = true ↔ k ∈ es1.toList.map keyX)
    (hb1 : es1.size < scanBound) (hf2 : t2.fits es1.size = true) (hr : Ris t2.place.toList) (hl : w.params.followText "set-order" = true ∨ t2.led = true) {wasDummy : Bool} {R : Option Bool → Shared → Prop}
    (hR : ∀ h', Heap.SameBut a s.heap h' → SetX w h' a S' es1.size → R (some true) { s with heap := h' }) :
    wpAny (model P w) A (do
        storeSet a es1 t2
        if (!wasDummy && t2.tooFull) = true then do
            g (relayAll t2 es1 (SetTable.grown es1.size)).2.2
            storeSet a (relayAll t2 es1 (SetTable.grown es1.size)).1 (relayAll t2 es1 (SetTable.grown es1.size)).2.1
            pure (some true)
          else pure (some true)) R E s := by
  refine wpAny_bind (wpAny_storeSet_of ho hd ?_ (fits_of_scanBound hb1))
  have ho1 := storeX_at (es' := es1) (t' := t2) ho hd
  have sb1 := Heap.SameBut.update s.heap a (Obj.putSet es1 t2)
  split
  · have pm := relayAll_perm t2 es1 (SetTable.grown es1.size)
    have hf3 := relayAll_fits t2 es1 (SetTable.grown es1.size)
    have hr3 := relayAll_ris t2 es1 (SetTable.grown es1.size)
    have hl3 := relayAll_led t2 es1 (SetTable.grown es1.size)
    generalize relayAll t2 es1 (SetTable.grown es1.size) = Z at pm hf3 hr3 hl3 ⊢
    obtain ⟨es2, t3, gave⟩ := Z
    dsimp only at pm hf3 hr3 hl3 ⊢
    have hsz : es2.size = es1.size := by rw [← Array.length_toList, pm.length_eq, Array.length_toList]
    have hb2 : es2.size < scanBound := by rw [hsz]; exact hb1
    refine wpAny_bind (hg _ _ _ ?_)
    refine wpAny_bind (wpAny_storeSet_of ho1 rfl ?_ (fits_of_scanBound hb2))
    have ho2 := storeX_at (es' := es2) (t' := t3) ho1 rfl
    refine wpAny_pure (hR _ (sb1.trans (Heap.SameBut.update _ a _)) ?_)
    exact ⟨_, es2, _, t3, ho2, hex, rfl, fun e he => g1 e (pm.mem_iff.mp he), (pm.map keyX).nodup_iff.mpr nd1, fun k => (m1 k).trans (pm.map keyX).mem_iff.symm, hb2, hf3, hsz, hr3,
      hl.imp id fun z => by rw [hl3]; exact z⟩
  · exact wpAny_pure (hR _ sb1 ⟨_, es1, _, t2, ho1, hex, rfl, g1, nd1, m1, hb1, hf2, rfl, hr, hl⟩)

theorem setX_add_hashed {k : Str} {tk : Tok} {Q : Bool → Shared → Prop} (R : SetX w s.heap a S n) (room : n + 1 < scanBound)
    (hQ : ∀ h', Heap.SameBut a s.heap h' → SetX w h' a (fun j => S j || decide (j = k)) (if S k = true then n else n + 1) → Q (!S k) { s with heap := h' }) :
    wpAny (model P w) A (setAddHashed a (.str k tk) ((PySem.strKind P w).hash k)) Q E s := by
  obtain ⟨o, es, ep, t, ho, hex, hd, g, nd, hm, hb, hf, hn, hr, hl⟩ := R
  have hkey : (PySem.strKind P w).is k (.str k tk) = true := isX P w k tk
  have hsc : (Value.str k tk).scannable = true := rfl
  have hel : ElemsOf (PySem.strKind P w) es.toList := goodX_elems g
  unfold setAddHashed setAddHashedIn
  refine wpAny_holding (wpAny_bind (wpAny_setState_of ho hd hf ?_))
  dsimp only
  rw [byScan_of hsc hb hel]
  simp only [↓reduceIte]
  unfold setAddByScan
  refine wpAny_bind ?_
  refine wpAny_bind (wpAny_rule ?_)
  refine wpAny_bind (wpAny_setScan_of hkey ho hd hf hel ?_)
  cases hfi : List.findIdx? (fun e => (PySem.strKind P w).is k e.2) es.toList with
  | some j =>
    dsimp only
    obtain ⟨hj, pj, _⟩ := List.findIdx?_eq_some_iff_getElem.mp hfi
    have hSk : S k = true := (hm k).2 ((goodX_mem (P := P) (w := w) g k).2 ⟨es.toList[j], List.getElem_mem hj, pj⟩)
    refine wpAny_pure (wpAny_pure ?_)
    have q := hQ s.heap (Heap.SameBut.refl a s.heap) ⟨o, es, ep, t, ho, hex, hd, g, nd, fun i => by
      rw [Bool.or_eq_true, decide_eq_true_eq, ← hm i]
      exact ⟨fun z => z.elim id (fun e => e ▸ hSk), .inl⟩, hb, hf, by rw [if_pos hSk]; exact hn, hr, hl⟩
    rw [hSk] at q
    exact q
  | none =>
    dsimp only
    have hnk : k ∉ es.toList.map keyX := fun z => by
      obtain ⟨e, he, q⟩ := (goodX_mem (P := P) (w := w) g k).1 z
      have c := List.findIdx?_eq_none_iff.mp hfi e he
      rw [q] at c
      cases c
    have hSk : S k = false := by
      cases q : S k with
      | false => rfl
      | true => exact absurd ((hm k).1 q) hnk
    have hgw : ∀ (b : Bool) {s₁ : Shared} {Q' : Unit → Shared → Prop}, Q' () s₁ → wpAny (model P w) A (match b with | true => rule "set.scan.the-table-gave-way" | false => pure ()) Q' E s₁ :=
      fun b s₁ Q' q => by cases b <;> first | exact wpAny_pure q | exact wpAny_rule q
    have pm := layNew_perm t es ((PySem.strKind P w).hash k) (.str k tk)
    have hf1 := layNew_fits t es ((PySem.strKind P w).hash k) (.str k tk)
    have hr1 := layNew_ris t es ((PySem.strKind P w).hash k) (.str k tk) hr
    have hl1 := layNew_led t es ((PySem.strKind P w).hash k) (.str k tk)
    generalize layNew t es ((PySem.strKind P w).hash k) (.str k tk) = Z at pm hf1 hr1 hl1 ⊢
    obtain ⟨es1, t1, wasDummy, gave⟩ := Z
    dsimp only at pm hf1 hr1 hl1 ⊢
    rw [Array.toList_push] at pm
    have pc : es1.toList.Perm (((PySem.strKind P w).hash k, Value.str k tk) :: es.toList) := pm.trans (List.perm_append_singleton _ _)
    have pk : (es1.toList.map keyX).Perm (k :: es.toList.map keyX) := pc.map keyX
    have g1 : ∀ e ∈ es1.toList, GoodX w e := fun e he => by
      rcases List.mem_cons.mp (pc.mem_iff.mp he) with z | z
      · rw [z]; exact ⟨k, tk, rfl, rfl⟩
      · exact g e z
    have nd1 : (es1.toList.map keyX).Nodup := pk.nodup_iff.mpr (List.nodup_cons.mpr ⟨hnk, nd⟩)
    have m1 : ∀ i, (S i || decide (i = k)) = true ↔ i ∈ es1.toList.map keyX := fun i => by
      rw [Bool.or_eq_true, decide_eq_true_eq, hm i, pk.mem_iff, List.mem_cons]
      exact Or.comm
    have hsz : es1.size = n + 1 := by rw [← Array.length_toList, pc.length_eq, List.length_cons, Array.length_toList, hn]
    have hb1 : es1.size < scanBound := by rw [hsz]; exact room
    have hled : w.params.followText "set-order" = true ∨ t1.led = true := hl.imp id fun z => by rw [hl1]; exact z
    have fin : ∀ h', Heap.SameBut a s.heap h' → SetX w h' a (fun j => S j || decide (j = k)) es1.size → Q true { s with heap := h' } := fun h' sb r => by
      have q := hQ h' sb
      rw [hSk] at q
      rw [hsz] at r
      exact q r
    refine wpAny_bind (hgw _ ?_)
    split
    · refine wpAny_bind ?_
      rw [hashByValue_scannable 8 hsc]
      refine wpAny_pure ?_
      refine setX_add_tail ?_ ho hex hd g1 nd1 m1 hb1 ?_ ?_ ?_ ?_
      · intro b s₁ Q' q; cases b <;> first | exact wpAny_pure q | exact wpAny_rule q
      · first | (split <;> first | exact hf1 | exact SetTable.fits_plain_off hf1) | exact hf1
      · first | (split <;> exact hr1) | exact hr1
      · first | (split <;> exact hled) | exact hled
      · intro h' sb r; dsimp only; exact wpAny_pure (fin h' sb r)
    · refine wpAny_bind (wpAny_pure ?_)
      simp only [↓reduceIte]
      refine setX_add_tail ?_ ho hex hd g1 nd1 m1 hb1 hf1 hr1 hled ?_
      · intro b s₁ Q' q; cases b <;> first | exact wpAny_pure q | exact wpAny_rule q
      · intro h' sb r; dsimp only; exact wpAny_pure (fin h' sb r)

/-- found.add(k) -/
theorem setX_add {k : Str} {tk : Tok} {Q : Value → Shared → Prop} (R : SetX w s.heap a S n) (room : n + 1 < scanBound)
    (hQ : ∀ h', Heap.SameBut a s.heap h' → SetX w h' a (fun j => S j || decide (j = k)) (if S k = true then n else n + 1) → Q .none { s with heap := h', toks := s.toks + 1 }) :
    wpAny (model P w) A (call (.builtin "set.add") [.ref a, .str k tk]) Q E s := by
  have hS : s.heap.SetOf (PySem.strKind P w) a S n := R.setOf
  refine wpAny_call_entry F.slot_set_add hS.typeIs F.entry_set_add ?_ (F.args_set_add_2 _ _)
  unfold Builtin.«set.add» Builtin.Frozenset.oneOther
  simp only [List.isEmpty_nil, bind_assoc]
  unfold Builtin.Frozenset.addrOf setAdd
  refine wpAny_bind (wpAny_pure ?_)
  try dsimp only
  refine wpAny_bind (wpAny_pure ?_)
  try dsimp only
  refine wpAny_bind ?_
  refine wpAny_holding ?_
  refine wpAny_bind ((PySem.strKind P w).pyHash (isX P w k tk) ?_)
  refine setX_add_hashed (s := { s with toks := s.toks + 1 }) R room fun h' sb r => ?_
  show wpAny _ _ (ret Value.none) _ _ _
  exact wpAny_pure ⟨_, rfl, hQ h' sb r⟩

end
section
variable {P : Program} {w : World} {A : Around} {E : Value → Shared → Prop} {s : Shared}
/-! ### a new set -/
theorem setX_fresh {h : Heap} (w : World) : SetX w (h.push { cls := .type "set", dict := none, data := .set #[] 0 (.fresh 0 0 (!w.params.followText "set-order")) }) h.objs.size (fun _ => false) 0 := by
  refine ⟨_, #[], 0, _, Heap.get?_push_size _ rfl, ⟨rfl, rfl, rfl⟩, rfl, (fun e he => by simp at he), (by simp), (fun k => by simp), (by decide), (by rfl), rfl, List.Pairwise.nil, ?_⟩
  show _ ∨ (!w.params.followText "set-order") = true
  cases w.params.followText "set-order"
  · exact .inr rfl
  · exact .inl rfl
theorem newSetX {Q : Value → Shared → Prop} (h : Q (.ref s.heap.objs.size) { s with heap := s.heap.push { cls := .type "set", dict := none, data := .set #[] 0 (.fresh 0 0 (!w.params.followText "set-order")) } }) :
    wpAny (model P w) A (newSet (.type "set")) Q E s := by
  unfold newSet
  refine wpAny_bind (wpAny_byText ?_)
  dsimp only
  simp only [newObj]
  exact wpAny_bind (wpAny_alloc (wpAny_pure h))
/-! sorted -/
theorem strs_of : ∀ (l : List Value), (∀ v ∈ l, ∃ k tk, v = Value.str k tk) → ∃ xs, StrsAre l xs ∧ xs = l.map fun v => keyX (0, v)
  | [], _ => ⟨[], .nil, rfl⟩
  | v :: l, h => by
    obtain ⟨k, tk, rfl⟩ := h v List.mem_cons_self
    obtain ⟨xs, h1, h2⟩ := strs_of l fun u hu => h u (List.mem_cons_of_mem _ hu)
    exact ⟨k :: xs, .cons k tk h1, by rw [h2]; rfl⟩
end
end Tx

namespace Tx
open PySem PySem.Spec PyProof.Rows L2
section
variable {P : Program} {w : World} {A : Around} {E : Value → Shared → Prop} {s : Shared}
theorem sorted_setX {a : Addr} {S : Str → Bool} {n : Nat} {Q : Value → Shared → Prop} (R : SetX w s.heap a S n) (hh : A.handled = none)
    (hQ : ∀ s' p (out : Array Value) (c : Nat) (ys : List Str), (∀ b o, s.heap.get? b = some o → s'.heap.get? b = some o) → s'.gens = s.gens → s'.os = s.os → s.heap.objs.size ≤ p →
      s'.heap.get? p = some (seqObj "list" out c) → StrsAre out.toList ys → sortedS ys = true → ys.Nodup → (∀ k, k ∈ ys ↔ S k = true) → ys.length ≤ sizeLine → Q (.ref p) s') :
    wpAny (model P w) A (call (.builtin "sorted") [.ref a]) Q E s := by
  obtain ⟨o, es, ep, t, ho, hex, hd, g, nd, hm, hb, hf, hn, hr, hl⟩ := R
  refine Calls.call_function_entry kind_sorted plain_sorted entry_sorted (args_sorted1 _) ?_
  unfold Builtin.«sorted»
  refine wpAny_bind (m := checkCount "sorted" 1 1 _) (wpAny_pure ?_)
  refine wpAny_bind (collect_set (A := A.in1) hh ⟨o, ho, hex.1, hd⟩ hf hb hr hl fun s1 vs k1 hz g1 o1 pm => ?_)
  have hvl : vs.length ≤ sizeLine := by rw [pm.length_eq, List.length_map, Array.length_toList]; exact fits_of_scanBound hb
  obtain ⟨xs, hS, hxs⟩ := strs_of vs fun v hv => by
    obtain ⟨e, he, q⟩ := List.mem_map.mp (pm.mem_iff.mp hv)
    obtain ⟨k, tk, h1, _⟩ := g e he
    exact ⟨k, tk, by rw [← q]; exact h1⟩
  have pk : xs.Perm (es.toList.map keyX) := by
    have q := pm.map (fun v => keyX (0, v))
    rw [List.map_map, ← hxs] at q
    exact q
  refine wpAny_bind (wpAny_newList ?_ hvl)
  have hoL : (s1.heap.push (seqObj "list" vs.toArray 0)).get? s1.heap.objs.size = some (seqObj "list" vs.toArray 0) := Heap.get?_push_size _ rfl
  refine wpAny_bind (wpAny_holding (wpAny_call_entry slot_list_sort ⟨_, hoL, rfl⟩ entry_list_sort
    (list_sort_treeKAny strKind_oneLt (s := { s1 with heap := s1.heap.push (seqObj "list" vs.toArray 0) }) hoL hS.keysOf (fun v₁ v₂ rest e => keyKind_strs (by rw [← e]; exact hS)) hvl fun st' hp hs => ⟨_, rfl, ?_⟩) (args_list_sort _)))
  obtain ⟨ys, a1, a2, a3⟩ := sorted_out_str hS hp hs
  obtain ⟨c, hc⟩ := sortedHeap_at (vs := vs) (out := (arrOf st').map (·.2)) hoL
  have pn : ys.Perm (es.toList.map keyX) := a2.trans pk
  refine wpAny_pure ⟨_, rfl, hQ _ s1.heap.objs.size _ c ys (fun b u e => ?_) g1 o1 hz hc a1 a3 (pn.nodup_iff.mpr nd) (fun k => by rw [pn.mem_iff, ← hm k]) ?_⟩
  · have q := k1 b u e
    have hlt := Heap.lt_size q
    show (sortedHeap (s1.heap.push (seqObj "list" vs.toArray 0)) s1.heap.objs.size vs _).get? b = some u
    rw [sortedHeap_old (Nat.ne_of_lt hlt) (by rw [size_push']; exact Nat.lt_succ_of_lt hlt)]
    exact Heap.get?_push_of_some _ q
  · rw [pn.length_eq, List.length_map, Array.length_toList]; exact fits_of_scanBound hb
end
/-! as tracked things -/
def SetXO (w : World) (a : Addr) (S : Str → Bool) (n : Nat) : HO := .ext fun h => SetX w h a S n
theorem setXO_new {w : World} {P : Program} {H : Hp} {h : Heap} {a : Addr} {S : Str → Bool} {n : Nat} (R : SetX w h a S n) : ObjOk P w H h a (SetXO w a S n) := by
  have ⟨o, _, _, _, ho, _⟩ := R
  exact ⟨R, ⟨o, ho⟩, fun h1 h2 p k => SetX.at p k⟩
section
variable {X : Cx}
theorem setXO_get {pins : List (Addr × Obj)} {σ : L2.St} {H : Hp} {s : Shared} {a : Addr} {S : Str → Bool} {n : Nat} (I : Inv X pins σ H s) (ha : H a = some (SetXO X.w a S n)) : SetX X.w s.heap a S n := (I.hok a _ ha).1
theorem addX_ok {pins : List (Addr × Obj)} {σ : L2.St} {H : Hp} {s : Shared} {E : Value → Shared → Prop} {D : Addr} {S : Str → Bool} {n : Nat} {y : Str} {u : Value} {Q : Value → Shared → Prop} (I : Inv X pins σ H s) (ru : RelV (.str y) u) (hD : H D = some (SetXO X.w D S n)) (room : n + 1 < scanBound)
    (h : ∀ s', Inv X pins σ (upd H D (SetXO X.w D (fun j => S j || decide (j = y)) (if S y = true then n else n + 1))) s' → Q .none s') : wpAny (model X.prog X.w) X.A (call (.builtin "set.add") [.ref D, u]) Q E s := by
  obtain ⟨tk, rfl⟩ := ru
  have R := setXO_get I hD
  refine setX_add R room fun h' sb new => ?_
  have he : ∃ u, h'.get? D = some u := by
    have ⟨o, _, _, _, ho, _⟩ := new
    exact ⟨o, ho⟩
  exact h _ (I.write (e := D) (t' := s.toks + 1) (by rw [hD]; trivial) (.inl rfl) (fun b u hb hu => (sb.2 b hb).trans hu) he (setXO_new new))
/-- sorted(a set of texts) -/
def rSortX (w : World) : List V → Hp → VK → Prop := fun vs H Q => ∃ (a : Addr) (S : Str → Bool) (n : Nat), vs = [V.ref a] ∧ H a = some (SetXO w a S n) ∧
  ∀ (ys : List Str) (p : Addr), sortedS ys = true → ys.Nodup → (∀ k, k ∈ ys ↔ S k = true) → H p = none → Q (.ref p) (upd H p (.lst (ys.map V.str)))
theorem cr_sortX (hc : X.calm = true) : CallR X (.builtin "sorted") (rSortX X.w) := by
  intro pins s σ H vs us Q I r h
  obtain ⟨a, S, n, rfl, ha, q⟩ := h
  have R := setXO_get I ha
  rw [Vals.ref1 r]
  refine sorted_setX R (I.ok.hd hc) fun s' p out c ys k g o hp hg hi hs hnd hm hl => ?_
  have hlen : (ys.map V.str).length ≤ sizeLine := by rw [List.length_map]; exact hl
  have hn : H p = none := I.hok.fresh hp
  have J : Inv X pins σ (upd H p (.lst (ys.map V.str))) { s with heap := s'.heap, gens := s'.gens, drawn := s'.drawn, toks := s'.toks } :=
    I.call (ch := []) (Un.laid k hp hn) (I.hok.laid k hp ⟨hlen, out.toList, c, vals_of_strs hi, hg⟩) (by rw [g]; exact I.bare) (fun _ z => nomatch z)
  have e : s' = { s with heap := s'.heap, gens := s'.gens, drawn := s'.drawn, toks := s'.toks } := by
    cases s'
    cases s
    cases o
    rfl
  rw [e]
  exact ⟨.ref p, _, J, rfl, q ys p hs hnd hm hn⟩
end
end Tx

namespace Tx
open PySem PySem.Spec PyProof.Rows L2
theorem scTurn_out (elt t0 i0 t1 i1 : Expr) (ifs0 ifs1 : List Expr) (scope : Scope) (pos : Pos) (it acc : Value) (env : Env) :
    compTurn (.SetComp elt [⟨t0, i0, ifs0, 0⟩, ⟨t1, i1, ifs1, 0⟩] scope pos) 0 it acc env = (do
      standAt i0.pos
      match ← pyNext it with
      | none => pure (.done .next)
      | some v =>
        letOwnedTupleGo t0 it v
        assign t0 env v
        let mut ok := true
        for c in ifs0 do
          if ok then ok ← isTrue c env (eval c env)
        if ok then
          let x ← eval i1 env
          standAt i1.pos
          let x ← foldedSetIterable i1 env x
          let _ ← runOwn (.compStart (.SetComp elt [⟨t0, i0, ifs0, 0⟩, ⟨t1, i1, ifs1, 0⟩] scope pos) 1 (← holding [x] (pyIter x)) acc env) env
        again (.compLoop (.SetComp elt [⟨t0, i0, ifs0, 0⟩, ⟨t1, i1, ifs1, 0⟩] scope pos) 0 it acc env)) := by rfl
theorem scTurn_in (elt t0 i0 t1 i1 : Expr) (ifs0 ifs1 : List Expr) (scope : Scope) (pos : Pos) (it acc : Value) (env : Env) :
    compTurn (.SetComp elt [⟨t0, i0, ifs0, 0⟩, ⟨t1, i1, ifs1, 0⟩] scope pos) 1 it acc env = (do
      standAt i1.pos
      match ← pyNext it with
      | none => pure (.done .next)
      | some v =>
        letOwnedTupleGo t1 it v
        assign t1 env v
        let mut ok := true
        for c in ifs1 do
          if ok then ok ← isTrue c env (eval c env)
        if ok then
          (do let v ← eval elt env; standAt elt.pos; let _ ← call (.builtin "set.add") [acc, v])
        again (.compLoop (.SetComp elt [⟨t0, i0, ifs0, 0⟩, ⟨t1, i1, ifs1, 0⟩] scope pos) 1 it acc env)) := by rfl

section
variable {prog : Program} {w : World} {A : Around} {R : Result → Shared → Prop} {s : Shared} {elt t0 i0 t1 i1 : Expr} {ifs0 ifs1 : List Expr} {scope : Scope} {pos : Pos} {it acc : Value} {env : Env}
/-- the loop of the first clause -/
theorem scLoop_out (hs : ∀ x, foldedSetIterable i1 env x = pure x) (I : Nat → Shared → Prop)
    (turn : ∀ n s, I n s → wpAny (model prog w) A (pyNext it) (fun r s₁ => match r with
      | none => R (.ok .next) s₁
      | some v => wpAny (model prog w) A (letOwnedTupleGo t0 it v) (fun _ s₁' => wpAny (model prog w) A (assign t0 env v) (fun _ s₂ =>
          wpAny (model prog w) A (forIn ifs0 true fun c r => if r = true then do let ok ← isTrue c env (eval c env); pure (ForInStep.yield ok) else pure (ForInStep.yield r)) (fun ok s₃ =>
            if ok = true then wpAny (model prog w) A (eval i1 env) (fun x s₄ => wpAny (model prog w) A (pyIter x) (fun it1 s₅ =>
              codeAny (model prog w) A (.compStart (.SetComp elt [⟨t0, i0, ifs0, 0⟩, ⟨t1, i1, ifs1, 0⟩] scope pos) 1 it1 acc env) (fun r s' => match r with
                | .ok _ => ∃ m, m < n ∧ I m s'
                | .error _ => False) s₅) (notedBy (model prog w) A env fun e s' => R (.error e) s') s₄) (notedBy (model prog w) A env fun e s' => R (.error e) s') s₃
            else ∃ m, m < n ∧ I m s₃) (notedBy (model prog w) A env fun e s' => R (.error e) s') s₂) (notedBy (model prog w) A env fun e s' => R (.error e) s') s₁') (notedBy (model prog w) A env fun e s' => R (.error e) s') s₁) (notedBy (model prog w) A env fun e s' => R (.error e) s') s)
    (n : Nat) (h : I n s) :
    codeAny (model prog w) A (.compLoop (.SetComp elt [⟨t0, i0, ifs0, 0⟩, ⟨t1, i1, ifs1, 0⟩] scope pos) 0 it acc env) R s := by
  refine codeAny_loop rfl I (fun n s hI => ?_) n h
  show wpAny _ A ((compTurn (.SetComp elt [⟨t0, i0, ifs0, 0⟩, ⟨t1, i1, ifs1, 0⟩] scope pos) 0 it acc env).onRaise (fun x => do noteFrame x env; theTreesLotGoes x)) _ _ s
  refine wpAny_noted ?_
  rw [scTurn_out]
  refine wpAny_bind (wpAny_standAt (wpAny_bind (wpAny_mono (turn n s hI) (fun r s₁ h₁ => ?_) fun _ _ h' => h')))
  cases r with
  | none => exact wpAny_pure h₁
  | some v =>
    refine wpAny_bind (wpAny_mono h₁ (fun _ s₁' h₁' => ?_) fun _ _ h' => h')
    refine wpAny_bind (wpAny_mono h₁' (fun _ s₂ h₂ => wpAny_bind (wpAny_mono h₂ (fun ok s₃ h₃ => ?_) fun _ _ h' => h')) fun _ _ h' => h')
    cases ok with
    | false => exact wpAny_pure ⟨rfl, h₃⟩
    | true =>
      refine wpAny_bind (wpAny_mono h₃ (fun x s₄ h₄ => ?_) fun _ _ h' => h')
      refine wpAny_bind (wpAny_standAt (wpAny_bind (wpAny_of_eq (hs x) (wpAny_bind (wpAny_holding (wpAny_mono h₄ (fun it1 s₅ h₅ => ?_) fun _ _ h' => h'))))))
      refine wpAny_bind (wpAny_runOwn ?_)
      rw [Around.mark_none]
      refine codeAny_mono h₅ fun r s' hr => ?_
      cases r with
      | ok f =>
        first
          | exact wpAny_pure ⟨rfl, hr⟩
          | exact wpAny_bind (wpAny_pure (wpAny_pure ⟨rfl, hr⟩))
      | error e => exact hr.elim
/-- the loop of the second -/
theorem scLoop_in (I : Nat → Shared → Prop)
    (turn : ∀ n s, I n s → wpAny (model prog w) A (pyNext it) (fun r s₁ => match r with
      | none => R (.ok .next) s₁
      | some v => wpAny (model prog w) A (letOwnedTupleGo t1 it v) (fun _ s₁' => wpAny (model prog w) A (assign t1 env v) (fun _ s₂ =>
          wpAny (model prog w) A (forIn ifs1 true fun c r => if r = true then do let ok ← isTrue c env (eval c env); pure (ForInStep.yield ok) else pure (ForInStep.yield r)) (fun ok s₃ =>
            if ok = true then wpAny (model prog w) A (eval elt env) (fun x s₄ =>
              wpAny (model prog w) A (call (.builtin "set.add") [acc, x]) (fun _ s₅ => ∃ m, m < n ∧ I m s₅) (notedBy (model prog w) A env fun e s' => R (.error e) s') s₄) (notedBy (model prog w) A env fun e s' => R (.error e) s') s₃
            else ∃ m, m < n ∧ I m s₃) (notedBy (model prog w) A env fun e s' => R (.error e) s') s₂) (notedBy (model prog w) A env fun e s' => R (.error e) s') s₁') (notedBy (model prog w) A env fun e s' => R (.error e) s') s₁) (notedBy (model prog w) A env fun e s' => R (.error e) s') s)
    (n : Nat) (h : I n s) :
    codeAny (model prog w) A (.compLoop (.SetComp elt [⟨t0, i0, ifs0, 0⟩, ⟨t1, i1, ifs1, 0⟩] scope pos) 1 it acc env) R s := by
  refine codeAny_loop rfl I (fun n s hI => ?_) n h
  show wpAny _ A ((compTurn (.SetComp elt [⟨t0, i0, ifs0, 0⟩, ⟨t1, i1, ifs1, 0⟩] scope pos) 1 it acc env).onRaise (fun x => do noteFrame x env; theTreesLotGoes x)) _ _ s
  refine wpAny_noted ?_
  rw [scTurn_in]
  refine wpAny_bind (wpAny_standAt (wpAny_bind (wpAny_mono (turn n s hI) (fun r s₁ h₁ => ?_) fun _ _ h' => h')))
  cases r with
  | none => exact wpAny_pure h₁
  | some v =>
    refine wpAny_bind (wpAny_mono h₁ (fun _ s₁' h₁' => ?_) fun _ _ h' => h')
    refine wpAny_bind (wpAny_mono h₁' (fun _ s₂ h₂ => wpAny_bind (wpAny_mono h₂ (fun ok s₃ h₃ => ?_) fun _ _ h' => h')) fun _ _ h' => h')
    cases ok with
    | false => exact wpAny_pure ⟨rfl, h₃⟩
    | true =>
      exact wpAny_bind (wpAny_bind (wpAny_mono h₃ (fun x s₄ h₄ => wpAny_bind (wpAny_standAt (wpAny_bind (wpAny_mono h₄ (fun _ s₅ h₅ => wpAny_pure (wpAny_pure ⟨rfl, h₅⟩)) fun _ _ h' => h')))) fun _ _ h' => h'))
/-- the second clause's start -/
theorem scStart1 (h0 : codeAny (model prog w) A (.compLoop (.SetComp elt [⟨t0, i0, ifs0, 0⟩, ⟨t1, i1, ifs1, 0⟩] scope pos) 1 it acc env) R s)
    (h : wpAny (model prog w) A (pyIter it) (fun it' s' => codeAny (model prog w) A (.compLoop (.SetComp elt [⟨t0, i0, ifs0, 0⟩, ⟨t1, i1, ifs1, 0⟩] scope pos) 1 it' acc env) R s')
      (notedBy (model prog w) A env fun x s' => R (.error x) s') s) :
    codeAny (model prog w) A (.compStart (.SetComp elt [⟨t0, i0, ifs0, 0⟩, ⟨t1, i1, ifs1, 0⟩] scope pos) 1 it acc env) R s := by
  refine codeAny_of_tree ?_
  show wpAny _ _ ((compStart (.SetComp elt [⟨t0, i0, ifs0, 0⟩, ⟨t1, i1, ifs1, 0⟩] scope pos) 1 it acc env).onRaise (fun x => do noteFrame x env; standAt theWindowsPlace)) _ _ s
  refine wpAny_notedAt ?_
  unfold compStart
  show wpAny _ _ (ask >>= _) _ _ s
  refine wpAny_bind (wpAny_askSetting (wpAny_ite ?_))
  split
  · first
      | exact wpAny_bind (wpAny_pure (wpAny_pure (And.intro rfl h0)))
      | exact wpAny_pure (And.intro rfl h0)
  · first
      | exact wpAny_bind (wpAny_rule (wpAny_bind (wpAny_standAt (wpAny_bind (wpAny_mono h (fun it' s' h' => wpAny_pure (And.intro rfl h')) fun _ _ x => x)))))
      | (refine wpAny_bind (wpAny_rule ?_); show wpAny _ _ (standAt i1.pos >>= _) _ _ s; exact wpAny_bind (wpAny_standAt (wpAny_bind (wpAny_mono h (fun it' s' h' => wpAny_pure (And.intro rfl h')) fun _ _ x => x))))
end


section
variable {prog : Program} {w : World} {A : Around} {R : Result → Shared → Prop} {s : Shared} {env : Env}
theorem codeAny_compStart_setX {elt target iter : Expr} {ifs : List Expr} {rest : List Comprehension} {scope : Scope} {pos : Pos} {it acc : Value}
    (h0 : codeAny (model prog w) A (.compLoop (.SetComp elt (⟨target, iter, ifs, 0⟩ :: rest) scope pos) 0 it acc env) R s)
    (h : wpAny (model prog w) A (pyIter it) (fun it' s' => codeAny (model prog w) A (.compLoop (.SetComp elt (⟨target, iter, ifs, 0⟩ :: rest) scope pos) 0 it' acc env) R s')
      (notedBy (model prog w) A env fun x s' => R (.error x) s') s) :
    codeAny (model prog w) A (.compStart (.SetComp elt (⟨target, iter, ifs, 0⟩ :: rest) scope pos) 0 it acc env) R s := by
  refine codeAny_of_tree ?_
  show wpAny _ _ ((compStart (.SetComp elt (⟨target, iter, ifs, 0⟩ :: rest) scope pos) 0 it acc env).onRaise (fun x => do noteFrame x env; standAt theWindowsPlace)) _ _ s
  refine wpAny_notedAt ?_
  unfold compStart
  show wpAny _ _ (ask >>= _) _ _ s
  refine wpAny_bind (wpAny_askSetting (wpAny_ite ?_))
  split
  · first
      | exact wpAny_bind (wpAny_pure (wpAny_pure (And.intro rfl h0)))
      | exact wpAny_pure (And.intro rfl h0)
  · first
      | exact wpAny_bind (wpAny_rule (wpAny_bind (wpAny_standAt (wpAny_bind (wpAny_mono h (fun it' s' h' => wpAny_pure (And.intro rfl h')) fun _ _ x => x)))))
      | (refine wpAny_bind (wpAny_rule ?_); show wpAny _ _ (standAt iter.pos >>= _) _ _ s; exact wpAny_bind (wpAny_standAt (wpAny_bind (wpAny_mono h (fun it' s' h' => wpAny_pure (And.intro rfl h')) fun _ _ x => x))))
end
theorem eval_SetCompX {env : Env} (elt : Expr) (gens : List Comprehension) (scope : Scope) (pos : Pos) : eval (.SetComp elt gens scope pos) env =
    comprehension (.SetComp elt gens scope pos) scope env (firstIterPos gens pos) (newSet (.type "set")) (firstAsync gens) (firstIter gens env) := rfl
section
variable {X : Cx}
def tSc2 (w : World) (wi : TI) (g : TG) (tt : TT) (wi1 : TI) (g1 : TG) (tt1 : TT) (te : TE) (vs vs1 : List Nat) : TE := fun σ H Q => wi σ H fun J H1 => ∀ D, H1 D = none → ∃ W : Nat → Nat → Hp → Prop, (∃ m, W 0 m (upd H1 D (SetXO w D (fun _ => false) 0))) ∧ ∀ i m H, W i m H →
  (J.stop i H ∧ Q (.ref D) H) ∨ (J.go i H ∧ ∃ Nx : Hp → Prop, (∀ H', Nx H' → ∃ m', m' < m ∧ W (i + 1) m' H') ∧ ∀ x H', J.yld i H x H' → g x (wipe σ vs) H' fun σ2 H2 => wipe σ2 vs = wipe σ vs ∧ tt σ2 H2 fun b H3 =>
    if b = true then wi1 σ2 H3 fun J1 H4 => ∃ W1 : Nat → Nat → Hp → Prop, (∃ m, W1 0 m H4) ∧ ∀ j k H, W1 j k H →
      (J1.stop j H ∧ Nx H) ∨ (J1.go j H ∧ ∃ Nx1 : Hp → Prop, (∀ H', Nx1 H' → ∃ k', k' < k ∧ W1 (j + 1) k' H') ∧ ∀ x H', J1.yld j H x H' → g1 x (wipe σ2 vs1) H' fun σ3 H5 => wipe σ3 vs1 = wipe σ2 vs1 ∧ tt1 σ3 H5 fun b H6 =>
        if b = true then te σ3 H6 fun y H7 => ∃ (c : Str) (S : Str → Bool) (n : Nat), y = .str c ∧ H7 D = some (SetXO w D S n) ∧ n + 1 < scanBound ∧ Nx1 (upd H7 D (SetXO w D (fun j => S j || decide (j = c)) (if S c = true then n else n + 1))) else Nx1 H6)
    else Nx H3)
theorem sc2_core {pins : List (Addr × Obj)} {s : Shared} {σ : L2.St} {H : Hp} {Q : VK} {elt tg iter tg1 iter1 : Expr} {ifs ifs1 : List Expr} {scope : Scope} {own : List (Str × Nat)} {vs1 : List Nat} {pos pos' : Pos} {wi wi1 : TI} {g g1 : TG} {tt tt1 : TT} {te : TE} {use : Option (Value → Sem Unit)} {Qf : Value → Shared → Prop}
    (hc : X.calm = true) (hN : X.N.Nodup) (I : Inv X pins σ H s) (hi : PI X tg iter wi) (ok : BlkOk X.N X.env.scope scope own) (hv : ∀ i ∈ vs1, i ∈ own.map (·.2))
    (hg : ∀ (s : Shared) (H : Hp) (C : Addr) (cl : List (Str × Addr)) (fp : List Addr), PG (X.blk s H scope (compEnvC scope cl C X.env) fp) tg g) (ht : ∀ (s : Shared) (H : Hp) (C : Addr) (cl : List (Str × Addr)) (fp : List Addr), PTs (X.blk s H scope (compEnvC scope cl C X.env) fp) ifs tt)
    (he : ∀ (s : Shared) (H : Hp) (C : Addr) (cl : List (Str × Addr)) (fp : List Addr), PE (X.blk s H scope (compEnvC scope cl C X.env) fp) elt te) (hs : ∀ x, foldedSetIterable iter X.env x = pure x)
    (hi1 : ∀ (s : Shared) (H : Hp) (C : Addr) (cl : List (Str × Addr)) (fp : List Addr), PI (X.blk s H scope (compEnvC scope cl C X.env) fp) tg1 iter1 wi1)
    (hg1 : ∀ (s : Shared) (H : Hp) (C : Addr) (cl : List (Str × Addr)) (fp : List Addr), PG (X.blk s H scope (compEnvC scope cl C X.env) fp) tg1 g1)
    (ht1 : ∀ (s : Shared) (H : Hp) (C : Addr) (cl : List (Str × Addr)) (fp : List Addr), PTs (X.blk s H scope (compEnvC scope cl C X.env) fp) ifs1 tt1)
    (hs1 : ∀ env x, foldedSetIterable iter1 env x = pure x)
    (h : tSc2 X.w wi g tt wi1 g1 tt1 te (own.map (·.2)) vs1 σ H Q)
    (hRR : ∀ D C s' m H', Inv X pins σ H' s' → Q (.ref D) H' → s'.heap.Ns C m → FpOk X pins H' C → compPost (model X.prog X.w) X.A X.xe use Qf (.ref D) C (.ok .next) s') :
    wpAny (model X.prog X.w) X.A (comprehension (.SetComp elt [⟨tg, iter, ifs, 0⟩, ⟨tg1, iter1, ifs1, 0⟩] scope pos) scope X.env pos' (newSet (.type "set")) false (eval iter X.env) use) Qf X.xe s := by
  have hfree : ∀ y ∈ scope.names, y.2 = .free → ∃ c, X.env.cells.lookup y.1 = some c := fun y hy e => by
    rcases ok.free y hy e with k | k
    · exact I.ok.has _ (.inl k)
    · exact I.ok.has _ (.inr k)
  refine wpAny_comprehension_free (use := use) rfl hs (closure_ok hfree) ok.kind (fun y hy e => by rw [ok.uniq y hy, e])
    (thn (hi.run pins s σ H _ I h) fun xv s1 hx => thn hx fun itv s2 h2 => ?_)
  obtain ⟨it, fp, tn, J, H2, e, I2, T, st2, f2, q⟩ := h2
  subst e
  refine newSetX (newEnv_comp ?_)
  generalize hD : s2.heap.objs.size = D
  have hDn : H2 D = none := I2.hok.fresh (Nat.le_of_eq hD)
  obtain ⟨W, ⟨m0, w0⟩, turn⟩ := q D hDn
  -- the new list
  generalize hs3 : ({ s2 with heap := s2.heap.push { cls := .type "set", dict := none, data := .set #[] 0 (.fresh 0 0 (!X.w.params.followText "set-order")) } } : Shared) = s3
  have I3 : Inv X pins σ (upd H2 D (SetXO X.w D (fun _ => false) 0)) s3 := by
    rw [← hs3]
    refine I2.laid (t' := s2.toks) (fun b o e => Heap.get?_push_of_some _ e) (Nat.le_of_eq hD) ?_
    rw [← hD]
    exact setXO_new (setX_fresh X.w)
  have h3 : s3.heap = s2.heap.push { cls := .type "set", dict := none, data := .set #[] 0 (.fresh 0 0 (!X.w.params.followText "set-order")) } := by rw [← hs3]
  have sz : ∀ b ∈ fp, b < s2.heap.objs.size := fun b hb => by
    obtain ⟨o, e, _⟩ := T.obj _ _ st2 b hb
    exact Heap.lt_size e
  have f3 : ∀ b ∈ fp, FpOk X pins (upd H2 D (SetXO X.w D (fun _ => false) 0)) b ∧ b < s3.heap.objs.size := fun b hb => by
    have hlt := sz b hb
    refine ⟨⟨?_, (f2 b hb).2⟩, by rw [h3, Heap.size_push]; exact Nat.lt_succ_of_lt hlt⟩
    rw [upd_ne (by rw [← hD]; exact Nat.ne_of_lt hlt)]
    exact (f2 b hb).1
  have st3 : tn 0 s3.heap := T.keep _ _ _ st2 fun b _ o e => by rw [h3]; exact Heap.get?_push_of_some _ e
  have I4 := block_start I3 ok hN f3
  have pg := hg s3 (upd H2 D (SetXO X.w D (fun _ => false) 0)) s3.heap.objs.size (cellsFrom (s3.heap.objs.size + 1) scope.names (cloFrom X.env.cells scope.names [])) fp
  have pt := ht s3 (upd H2 D (SetXO X.w D (fun _ => false) 0)) s3.heap.objs.size (cellsFrom (s3.heap.objs.size + 1) scope.names (cloFrom X.env.cells scope.names [])) fp
  have pe := he s3 (upd H2 D (SetXO X.w D (fun _ => false) 0)) s3.heap.objs.size (cellsFrom (s3.heap.objs.size + 1) scope.names (cloFrom X.env.cells scope.names [])) fp
  have pi1 := hi1 s3 (upd H2 D (SetXO X.w D (fun _ => false) 0)) s3.heap.objs.size (cellsFrom (s3.heap.objs.size + 1) scope.names (cloFrom X.env.cells scope.names [])) fp
  have pg1 := hg1 s3 (upd H2 D (SetXO X.w D (fun _ => false) 0)) s3.heap.objs.size (cellsFrom (s3.heap.objs.size + 1) scope.names (cloFrom X.env.cells scope.names [])) fp
  have pt1 := ht1 s3 (upd H2 D (SetXO X.w D (fun _ => false) 0)) s3.heap.objs.size (cellsFrom (s3.heap.objs.size + 1) scope.names (cloFrom X.env.cells scope.names [])) fp
  show codeAny _ _ (.compStart (.SetComp elt [⟨tg, iter, ifs, 0⟩, ⟨tg1, iter1, ifs1, 0⟩] scope pos) 0 (.ref it) (.ref D) (compEnvC scope (cellsFrom (s3.heap.objs.size + 1) scope.names (cloFrom X.env.cells scope.names [])) s3.heap.objs.size X.env)) (compPost (model X.prog X.w) X.A X.xe use Qf (.ref D) s3.heap.objs.size) { s3 with heap := pushCells (s3.heap.push { cls := .type "dict", data := .dict #[] }) scope.names }
  have nfp : ∀ b ∈ fp, (upd H2 D (SetXO X.w D (fun _ => false) 0)) b = none := fun b hb => (f3 b hb).1.1
  generalize hce : compEnvC scope (cellsFrom (s3.heap.objs.size + 1) scope.names (cloFrom X.env.cells scope.names [])) s3.heap.objs.size X.env = ce at I4 pg pt pe pi1 pg1 pt1 ⊢
  have cL : ce.locals = s3.heap.objs.size := by subst hce; rfl
  generalize hH3 : upd H2 D (SetXO X.w D (fun _ => false) 0) = H3 at I3 I4 pg pt pe pi1 pg1 pt1 w0 nfp f3
  generalize hs4 : ({ s3 with heap := pushCells (s3.heap.push { cls := .type "dict", data := .dict #[] }) scope.names } : Shared) = s4 at I4 ⊢
  have st4 : tn 0 s4.heap := T.keep _ _ _ st3 fun b _ o e => by rw [← hs4]; exact pushCells_keeps _ _ _ _ (Heap.get?_push_of_some _ e)
  have stat : ∀ {σ' : L2.St} {H' : Hp} {s' : Shared}, Inv (X.blk s3 H3 scope ce fp) [] σ' H' s' → (∀ b ∈ fp, H' b = none) → ∀ b ∈ fp, FpOk (X.blk s3 H3 scope ce fp) [] H' b := fun {σ' H' s'} I' hn b hb =>
    ⟨hn b hb, (I'.ok.exf b hb).1, I'.ok.exfs b hb, .inl hb, fun x c e => (I'.ok.exf b hb).2 x c e, fun p hp => absurd (show p ∈ ([] : List (Addr × Obj)) ++ [] from hp) (by simp)⟩
  have loop : codeAny (model X.prog X.w) X.A (.compLoop (.SetComp elt [⟨tg, iter, ifs, 0⟩, ⟨tg1, iter1, ifs1, 0⟩] scope pos) 0 (.ref it) (.ref D) ce) (compPost (model X.prog X.w) X.A X.xe use Qf (.ref D) s3.heap.objs.size) s4 := by
    refine scLoop_out (hs1 ce) (fun n s' => ∃ i H', Inv (X.blk s3 H3 scope ce fp) [] (wipe σ (own.map (·.2))) H' s' ∧ tn i s'.heap ∧ (∀ b ∈ fp, H' b = none) ∧ W i n H') ?_ m0 ⟨0, H3, I4, st4, nfp, w0⟩
    rintro n s5 ⟨i, H5, I5, st5, n5, w5⟩
    rcases turn i n H5 w5 with ⟨stop, qq⟩ | ⟨go, Nx, hNx, step⟩
    · have td := T.done (X.blk s3 H3 scope ce fp) rfl rfl rfl hc i [] s5 _ H5 (fun _ _ => False) I5 (stat I5 n5) st5 stop
      refine thnF td fun r s6 ⟨hr, I6⟩ => ?_
      subst hr
      -- back in the def's context
      have I7 : Inv X pins σ H5 s6 := I3.call' (ch := fp) I6.os I6.base I6.hok I6.bare fun b hb => ⟨(f3 b hb).1.2.2.2.1, (f3 b hb).1.2.1, (f3 b hb).1.2.2.2.2.1, (f3 b hb).1.2.2.2.2.2⟩
      have nC : H5 s3.heap.objs.size = none := by
        have z : H5 ce.locals = none := I6.free
        rw [cL] at z
        exact z
      obtain ⟨m, hn, _⟩ := I6.loc
      have hn : s6.heap.Ns ce.locals m := hn
      rw [cL] at hn
      exact hRR D s3.heap.objs.size s6 m H5 I7 qq hn (I3.fpOk (Nat.le_refl _) nC)
    · have ti := T.item (X.blk s3 H3 scope ce fp) rfl rfl rfl hc i [] s5 _ H5 (fun _ _ => False) I5 (stat I5 n5) st5 go
      refine thnF ti fun r s6 ⟨u, hr, h6⟩ => ?_
      subst hr
      refine thnF h6 fun _ s7 ⟨x, H7, I7, r7, y7, st7, n7⟩ => ?_
      have I7' := I7.pinned (stat I7 n7) (T.obj _ _ st7)
      refine thnF (pg.run _ s7 _ H7 x u _ I7' r7 (step x H7 y7)) fun _ s8 ⟨σ8, H8, I8, hw8, q8⟩ => ?_
      refine thnF (pt.run _ s8 σ8 H8 _ I8 q8) fun b s9 ⟨H9, I9, q9⟩ => ?_
      -- the turn's end, from any slots that know what the block knew at its start
      have fin : ∀ {σ9 : L2.St} {s' : Shared} {H' : Hp}, Inv (X.blk s3 H3 scope ce fp) ([] ++ pinsAt fp s7.heap) σ9 H' s' → (wipe σ (own.map (·.2))).length = σ9.length → (∀ (j : Nat) v, (wipe σ (own.map (·.2)))[j]? = some (some v) → σ9[j]? = some (some v)) → Nx H' →
          ∃ m, m < n ∧ ∃ i H', Inv (X.blk s3 H3 scope ce fp) [] (wipe σ (own.map (·.2))) H' s' ∧ tn i s'.heap ∧ (∀ b ∈ fp, H' b = none) ∧ W i m H' := fun {σ9 s' H'} I' hl hk nx => by
        obtain ⟨m', hm, w'⟩ := hNx H' nx
        have pin' : ∀ b ∈ fp, ∀ o, s7.heap.get? b = some o → s'.heap.get? b = some o ∧ H' b = none := fun b hb o e =>
          let z := I'.pin (b, o) (List.mem_append_right _ (List.mem_append_right _ (mem_pinsAt hb e)))
          ⟨z.1, z.2.1⟩
        refine ⟨m', hm, i + 1, H', (I'.unpinned (pins := [])).weak hl hk, T.keep _ _ _ st7 fun b hb o e => (pin' b hb o e).1, fun b hb => ?_, w'⟩
        obtain ⟨o, e, _⟩ := T.obj _ _ st7 b hb
        exact (pin' b hb o e).2
      have hl8 : (wipe σ (own.map (·.2))).length = σ8.length := by rw [← hw8, wipe_length]
      have hk8 : ∀ (j : Nat) v, (wipe σ (own.map (·.2)))[j]? = some (some v) → σ8[j]? = some (some v) := fun j v e => by
        rw [← hw8] at e
        exact (wipe_some e).1
      have hk9 : ∀ (j : Nat) v, (wipe σ (own.map (·.2)))[j]? = some (some v) → (wipe σ8 vs1)[j]? = some (some v) := fun j v e => by
        rw [← hw8] at e
        obtain ⟨e1, e2⟩ := wipe_some e
        rw [wipe_out fun z => e2 (hv j z)]
        exact e1
      cases b with
      | false =>
        simp only [Bool.false_eq_true, if_false] at q9 ⊢
        exact fin I9 hl8 hk8 q9
      | true =>
        simp only [if_true] at q9 ⊢
        refine thnF (pi1.run _ s9 σ8 H9 _ I9 q9) fun xv s10 hx => thnF hx fun itv s11 h11 => ?_
        obtain ⟨it1, fp1, tn1, J1, H11, e1, I11, T1, st11, f11, W1, ⟨m1, w1⟩, turn1⟩ := h11
        subst e1
        -- the inner loop
        have stat1 : ∀ {H' : Hp}, (∀ b ∈ fp1, H' b = none) → ∀ b ∈ fp1, FpOk (X.blk s3 H3 scope ce fp) ([] ++ pinsAt fp s7.heap) H' b := fun hn b hb => ⟨hn b hb, (f11 b hb).2⟩
        have loop1 : codeAny (model X.prog X.w) X.A (.compLoop (.SetComp elt [⟨tg, iter, ifs, 0⟩, ⟨tg1, iter1, ifs1, 0⟩] scope pos) 1 (.ref it1) (.ref D) ce)
            (fun r s' => match r with
              | .ok _ => ∃ m, m < n ∧ ∃ i H', Inv (X.blk s3 H3 scope ce fp) [] (wipe σ (own.map (·.2))) H' s' ∧ tn i s'.heap ∧ (∀ b ∈ fp, H' b = none) ∧ W i m H'
              | .error _ => False) s11 := by
          refine scLoop_in (fun k s' => ∃ j H', Inv (X.blk s3 H3 scope ce fp) ([] ++ pinsAt fp s7.heap) (wipe σ8 vs1) H' s' ∧ tn1 j s'.heap ∧ (∀ b ∈ fp1, H' b = none) ∧ W1 j k H') ?_ m1 ⟨0, H11, I11.weak (wipe_length _ _) (fun j v e => (wipe_some e).1), st11, fun b hb => (f11 b hb).1, w1⟩
          rintro k s12 ⟨j, H12, I12, st12, n12, w12⟩
          rcases turn1 j k H12 w12 with ⟨stop1, nx1⟩ | ⟨go1, Nx1, hNx1, step1⟩
          · refine thnF (T1.done (X.blk s3 H3 scope ce fp) rfl rfl rfl hc j _ s12 (wipe σ8 vs1) H12 (fun _ _ => False) I12 (stat1 n12) st12 stop1) fun r s13 ⟨hr, I13⟩ => ?_
            subst hr
            exact fin I13 (hl8.trans (wipe_length σ8 vs1).symm) hk9 nx1
          · refine thnF (T1.item (X.blk s3 H3 scope ce fp) rfl rfl rfl hc j _ s12 (wipe σ8 vs1) H12 (fun _ _ => False) I12 (stat1 n12) st12 go1) fun r s13 ⟨u1, hr, h13⟩ => ?_
            subst hr
            refine thnF h13 fun _ s14 ⟨x1, H14, I14, r14, y14, st14, n14⟩ => ?_
            have I14' := I14.pinned (stat1 n14) (T1.obj _ _ st14)
            refine thnF (pg1.run _ s14 (wipe σ8 vs1) H14 x1 u1 _ I14' r14 (step1 x1 H14 y14)) fun _ s15 ⟨σ15, H15, I15, hw15, q15⟩ => ?_
            refine thnF (pt1.run _ s15 σ15 H15 _ I15 q15) fun b1 s16 ⟨H16, I16, q16⟩ => ?_
            have fin1 : ∀ {s' : Shared} {H' : Hp}, Inv (X.blk s3 H3 scope ce fp) (([] ++ pinsAt fp s7.heap) ++ pinsAt fp1 s14.heap) σ15 H' s' → Nx1 H' → ∃ m, m < k ∧ ∃ j H', Inv (X.blk s3 H3 scope ce fp) ([] ++ pinsAt fp s7.heap) (wipe σ8 vs1) H' s' ∧ tn1 j s'.heap ∧ (∀ b ∈ fp1, H' b = none) ∧ W1 j m H' := fun {s' H'} I' nx => by
              obtain ⟨m', hm, w'⟩ := hNx1 H' nx
              have pin' : ∀ b ∈ fp1, ∀ o, s14.heap.get? b = some o → s'.heap.get? b = some o ∧ H' b = none := fun b hb o e =>
                let z := I'.pin (b, o) (List.mem_append_right _ (List.mem_append_right _ (mem_pinsAt hb e)))
                ⟨z.1, z.2.1⟩
              refine ⟨m', hm, j + 1, H', I'.unpinned.weak (by rw [← hw15, wipe_length]) (fun j v e => by rw [← hw15] at e; exact (wipe_some e).1), T1.keep _ _ _ st14 fun b hb o e => (pin' b hb o e).1, fun b hb => ?_, w'⟩
              obtain ⟨o, e, _⟩ := T1.obj _ _ st14 b hb
              exact (pin' b hb o e).2
            cases b1 with
            | false =>
              simp only [Bool.false_eq_true, if_false] at q16 ⊢
              exact fin1 I16 q16
            | true =>
              simp only [if_true] at q16 ⊢
              refine thnF (pe.run _ s16 σ15 H16 _ I16 q16) fun z s17 ⟨yv, H17, I17, r17, cb, S0, n0, ey, hD17, hz17, nx⟩ => ?_
              subst ey
              exact addX_ok (X := X.blk s3 H3 scope ce fp) I17 r17 hD17 hz17 fun s18 I18 => fin1 I18 nx
        exact scStart1 loop1 (T1.self X.A 0 _ _ _ st11 loop1)
  exact codeAny_compStart_setX loop (T.self X.A 0 _ _ _ st4 loop)
/-- as a value -/
theorem pe_sc2 {elt tg iter tg1 iter1 : Expr} {ifs ifs1 : List Expr} {scope : Scope} {own : List (Str × Nat)} {vs1 : List Nat} {pos : Pos} {wi wi1 : TI} {g g1 : TG} {tt tt1 : TT} {te : TE} (hc : X.calm = true) (hN : X.N.Nodup) (hi : PI X tg iter wi) (ok : BlkOk X.N X.env.scope scope own) (hv : ∀ i ∈ vs1, i ∈ own.map (·.2))
    (hg : ∀ (s : Shared) (H : Hp) (C : Addr) (cl : List (Str × Addr)) (fp : List Addr), PG (X.blk s H scope (compEnvC scope cl C X.env) fp) tg g) (ht : ∀ (s : Shared) (H : Hp) (C : Addr) (cl : List (Str × Addr)) (fp : List Addr), PTs (X.blk s H scope (compEnvC scope cl C X.env) fp) ifs tt)
    (hi1 : ∀ (s : Shared) (H : Hp) (C : Addr) (cl : List (Str × Addr)) (fp : List Addr), PI (X.blk s H scope (compEnvC scope cl C X.env) fp) tg1 iter1 wi1)
    (hg1 : ∀ (s : Shared) (H : Hp) (C : Addr) (cl : List (Str × Addr)) (fp : List Addr), PG (X.blk s H scope (compEnvC scope cl C X.env) fp) tg1 g1) (ht1 : ∀ (s : Shared) (H : Hp) (C : Addr) (cl : List (Str × Addr)) (fp : List Addr), PTs (X.blk s H scope (compEnvC scope cl C X.env) fp) ifs1 tt1)
    (he : ∀ (s : Shared) (H : Hp) (C : Addr) (cl : List (Str × Addr)) (fp : List Addr), PE (X.blk s H scope (compEnvC scope cl C X.env) fp) elt te) (hs : ∀ x, foldedSetIterable iter X.env x = pure x := by intro _; rfl) (hs1 : ∀ env x, foldedSetIterable iter1 env x = pure x := by intro _ _; rfl) :
    PE X (.SetComp elt [⟨tg, iter, ifs, 0⟩, ⟨tg1, iter1, ifs1, 0⟩] scope pos) (tSc2 X.w wi g tt wi1 g1 tt1 te (own.map (·.2)) vs1) := by
  refine ⟨fun pins s σ H Q I h => ?_⟩
  rw [eval_SetCompX]
  refine sc2_core hc hN I hi ok hv hg ht he hs hi1 hg1 ht1 hs1 h fun D C s' m H' I' q hn f => ⟨m, hn, fun h'' sb => ?_⟩
  obtain ⟨f0, f1, f2, f3, f4, f5⟩ := f
  exact ⟨.ref D, H', I'.turned (t' := s'.toks) (fun b o hb e => (sb.2 b hb).trans e) f0 f1 f3 f4 f5, rfl, q⟩

end
end Tx

namespace Sv
open PySem PySem.Spec PyProof.Rows L2
/-! a comprehension of two clauses -/
def comp2L (vs vs1 : List Nat) (fg : D → Gm → Option Gm) (ft : Gm → Option (Bool × Gm)) (fi : Gm → Option (List D × Gm)) (fg1 : D → Gm → Option Gm) (ft1 : Gm → Option (Bool × Gm)) (fe : Gm → Option (D × Gm)) : List D → List D → Gm → Option (List D × Gm)
  | [], acc, Γ => some (acc, Γ)
  | d :: ds, acc, Γ => match fg d Γ with
    | none => none
    | some Γ1 => match ft Γ1 with
      | none => none
      | some (false, Γ2) => comp2L vs vs1 fg ft fi fg1 ft1 fe ds acc (wipeG Γ2 vs)
      | some (true, Γ2) => match fi Γ2 with
        | none => none
        | some (ds1, Γ3) => match compL vs1 fg1 ft1 fe ds1 acc (wipeG Γ3 vs1) with
          | none => none
          | some (acc', Γ4) => comp2L vs vs1 fg ft fi fg1 ft1 fe ds acc' (wipeG Γ4 vs)
theorem wipe_in {j : Nat} {σ : L2.St} : ∀ {vs : List Nat}, j ∈ vs → (wipe σ vs)[j]? = if j < σ.length then some none else none
  | v :: vs, h => by
    rw [wipe]
    by_cases y : v = j
    · subst y
      by_cases lt : v < σ.length
      · rw [if_pos lt, set_lt (by rw [wipe_length]; exact lt)]
      · rw [if_neg lt, List.getElem?_eq_none]
        rw [List.length_set, wipe_length]
        omega
    · rw [get_set_ne y]
      rcases List.mem_cons.1 h with h | h
      · exact absurd h.symm y
      · exact wipe_in h
theorem wipe_wipe {σ : L2.St} {vs vs1 : List Nat} (hv : ∀ i ∈ vs1, i ∈ vs) : wipe (wipe σ vs1) vs = wipe σ vs := by
  apply List.ext_getElem?
  intro j
  by_cases z : j ∈ vs
  · rw [wipe_in z, wipe_in z, wipe_length]
  · rw [wipe_out z, wipe_out z, wipe_out fun y => z (hv j y)]
section
variable {K : PySem.W.Frag} {Γ Γ1 Γe : Gm} {ds out : List D} {vs vs1 sl sl1 : List Nat} {fg fg1 : D → Gm → Option Gm} {ft ft1 : Gm → Option (Bool × Gm)} {fe : Gm → Option (D × Gm)} {fi : Gm → Option (List D × Gm)}
/-- what is gathered: a list -/
def AccL (K : PySem.W.Frag) (H : Hp) (D : Addr) (acc : List Sv.D) : Prop := ∃ ws, H D = some (.lst ws) ∧ RpL K H acc ws
theorem AccL.keep {H H' : Hp} {D : Addr} {acc : List Sv.D} (h : AccL K H D acc) (p : Per H H') (k : ∀ o, H D = some o → H' D = some o) : AccL K H' D acc := by
  obtain ⟨ws, h1, h2⟩ := h
  exact ⟨ws, k _ h1, RpL.per p _ _ h2⟩
theorem AccL.mut {H : Hp} {D : Addr} {acc : List Sv.D} (h : AccL K H D acc) : ∃ u, H D = some u ∧ ¬ Imm u := by
  obtain ⟨ws, h1, h2⟩ := h
  exact ⟨_, h1, id⟩
theorem lc2_reads (hcomp : comp2L vs vs1 fg ft fi fg1 ft1 fe ds [] (wipeG Γ1 vs) = some (out, Γe)) (nio : ∀ j ∈ vs, ∀ d, Γ1[j]? ≠ some (.io d)) (hsl : ∀ j ∈ sl, j ∈ vs) (hsl1 : ∀ j ∈ sl1, j ∈ vs1) (hv : ∀ j ∈ vs1, j ∈ vs) (σ : L2.St) (H : Hp) (Q : VK) (q : rdE K Γ (.new (.lst out)) (restore Γ1 Γe vs) σ H Q) :
    tLc2 (rdI K Γ ds Γ1) (fun v σ H Q => ∃ d Γ Γ1, fg d Γ = some Γ1 ∧ (∀ j ∈ vs, ∀ d, Γ[j]? ≠ some (.io d)) ∧ rdG K sl Γ d Γ1 v σ H Q) (fun σ H Q => ∃ Γ b Γ1, ft Γ = some (b, Γ1) ∧ rdT K Γ b Γ1 σ H Q)
      (fun σ H R => ∃ Γ ds Γ1, fi Γ = some (ds, Γ1) ∧ rdI K Γ ds Γ1 σ H R) (fun v σ H Q => ∃ d Γ Γ1, fg1 d Γ = some Γ1 ∧ rdG K sl1 Γ d Γ1 v σ H Q) (fun σ H Q => ∃ Γ b Γ1, ft1 Γ = some (b, Γ1) ∧ rdT K Γ b Γ1 σ H Q)
      (fun σ H Q => ∃ Γ d Γ1, fe Γ = some (d, Γ1) ∧ rdE K Γ (.val d) Γ1 σ H Q) vs vs1 σ H Q := by
  refine ⟨q.1, fun J S H1 s1 wk sH => fun D hD => ?_⟩
  have sm1 := same_new (o := .lst []) hD
  have l1 : σ.length = Γ1.length := s1.env.len
  have W0 : Ste K (wipeG Γ1 vs) (wipe σ vs) H1 (wipeG Γ1 vs) (wipe σ vs) (upd H1 D (.lst [])) := Ste.same ((Ste.refl s1.env).wiped nio).env sm1
  have nio' : ∀ j ∈ vs, ∀ d, (wipeG Γ1 vs)[j]? ≠ some (.io d) := fun j z d e => by have := wipeG_in z e; cases this
  refine ⟨fun i m H' => i + m = ds.length ∧ S H' ∧ ∃ Γ' acc, comp2L vs vs1 fg ft fi fg1 ft1 fe (ds.drop i) acc Γ' = some (out, Γe) ∧ Ste K (wipeG Γ1 vs) (wipe σ vs) H1 Γ' (wipe σ vs) H' ∧ ¬ Cell Γ' (wipe σ vs) D ∧ AccL K H' D acc ∧ (∀ j ∈ vs, ∀ d, Γ'[j]? ≠ some (.io d)),
    ⟨ds.length, by omega, wk.per _ _ sH (Per.of_same sm1), wipeG Γ1 vs, [], hcomp, W0, fun c => ?_, ⟨[], upd_same, by simp only [RpL]⟩, nio'⟩, fun i m H' hw => ?_⟩
  · obtain ⟨u, hu, _⟩ := s1.env.cellMut (cell_wipe c)
    rw [hD] at hu
    cases hu
  obtain ⟨him, sH', Γ', acc, hf, A, nc, hac, nioG⟩ := hw
  by_cases hi : i < ds.length
  · right
    refine ⟨wk.go i H' sH' hi, ?_⟩
    rw [List.drop_eq_getElem_cons hi] at hf
    simp only [comp2L] at hf
    cases hgd : fg ds[i] Γ' with
    | none => rw [hgd] at hf; cases hf
    | some Γ3 =>
      rw [hgd] at hf
      simp only at hf
      cases hbd : ft Γ3 with
      | none => rw [hbd] at hf; cases hf
      | some p =>
        obtain ⟨b, Γ4⟩ := p
        rw [hbd] at hf
        refine ⟨fun H'' => ∃ m', m' < m ∧ (i + 1) + m' = ds.length ∧ S H'' ∧ ∃ Γ' acc, comp2L vs vs1 fg ft fi fg1 ft1 fe (ds.drop (i + 1)) acc Γ' = some (out, Γe) ∧ Ste K (wipeG Γ1 vs) (wipe σ vs) H1 Γ' (wipe σ vs) H'' ∧ ¬ Cell Γ' (wipe σ vs) D ∧ AccL K H'' D acc ∧ (∀ j ∈ vs, ∀ d, Γ'[j]? ≠ some (.io d)),
          fun H'' hh => hh, fun x H2 hy => ?_⟩
        obtain ⟨sm, d, hd, rpd⟩ := wk.yld i H' x H2 sH' hy hi
        have ed : ds[i] = d := by rw [List.getElem?_eq_getElem hi] at hd; injection hd
        have s2 : Ste K Γ' (wipe σ vs) H' Γ' (wipe σ vs) H2 := Ste.same A.env sm
        have lw : (wipe σ vs).length = Γ'.length := by rw [A.gl, wipeG_length, wipe_length]; exact l1
        refine ⟨d, Γ', Γ3, by rw [← ed]; exact hgd, nioG, s2.env, lw, rpd, fun σ3 s3 ag => ?_⟩
        have wag : wipe σ3 vs = wipe σ vs := wipe_agree (by rw [s3.sl, wipe_length]) hsl ag
        refine ⟨wag, Γ3, b, Γ4, hbd, s3.env, fun H4 s4 => ?_⟩
        have B := (A.trans s2).trans (s3.trans s4)
        have sH4 : S H4 := wk.per H' H4 sH' (Per.trans (Per.of_same sm) (s3.trans s4).per)
        obtain ⟨u0, hu0, _⟩ := hac.mut
        have nc4 : ¬ Cell Γ4 σ3 D := (s2.trans (s3.trans s4)).noCell hu0 nc
        have ac4 : AccL K H4 D acc := hac.keep (s2.trans (s3.trans s4)).per fun o ho => (s2.trans (s3.trans s4)).keep D o ho nc
        cases b with
        | false =>
          dsimp only
          rw [if_neg (by decide)]
          simp only at hf
          refine ⟨m - 1, by omega, by omega, sH4, wipeG Γ4 vs, acc, hf, ?_, ?_, ac4, fun j z d e => by have := wipeG_in z e; cases this⟩
          · rw [← wag]
            have C := B.wiped (vs := vs) nio'
            rw [wag] at C ⊢
            exact C
          · rw [← wag]
            exact fun c => nc4 (cell_wipe c)
        | true =>
          dsimp only
          rw [if_pos rfl]
          simp only at hf
          cases hid : fi Γ4 with
          | none => rw [hid] at hf; cases hf
          | some p =>
            obtain ⟨ds1, Γ5⟩ := p
            rw [hid] at hf
            simp only at hf
            cases hcd : compL vs1 fg1 ft1 fe ds1 acc (wipeG Γ5 vs1) with
            | none => rw [hcd] at hf; cases hf
            | some p =>
              obtain ⟨acc', Γ6⟩ := p
              rw [hcd] at hf
              simp only at hf
              refine ⟨Γ4, ds1, Γ5, hid, B.env, fun J1 S1 H5 s5 wk1 sH5 => ?_⟩
              have B5 := B.trans s5
              obtain ⟨u4, hu4, _⟩ := ac4.mut
              have nc5 : ¬ Cell Γ5 σ3 D := s5.noCell hu4 nc4
              have ac5 : AccL K H5 D acc := ac4.keep s5.per fun o ho => s5.keep D o ho nc4
              have sH5' : S H5 := wk.per _ _ sH4 s5.per
              have nio1 : ∀ j ∈ vs1, ∀ d, (wipeG Γ1 vs)[j]? ≠ some (.io d) := fun j z d e => nio' j (hv j z) d e
              have l3 : σ3.length = σ.length := by rw [s3.sl, wipe_length]
              refine ⟨fun j k H'' => j + k = ds1.length ∧ S H'' ∧ S1 H'' ∧ ∃ Γ' acc, compL vs1 fg1 ft1 fe (ds1.drop j) acc Γ' = some (acc', Γ6) ∧ Ste K (wipeG Γ1 vs) (wipe σ vs) H1 Γ' (wipe σ3 vs1) H'' ∧ ¬ Cell Γ' (wipe σ3 vs1) D ∧ AccL K H'' D acc,
                ⟨ds1.length, by omega, sH5', sH5, wipeG Γ5 vs1, acc, hcd, B5.wiped nio1, fun c => nc5 (cell_wipe c), ac5⟩, fun j k H6 hw1 => ?_⟩
              obtain ⟨hjk, sH6, sJ6, Γ7, acc1, hf1, A1, nc7, ac7⟩ := hw1
              by_cases hj : j < ds1.length
              · right
                refine ⟨wk1.go j H6 sJ6 hj, ?_⟩
                rw [List.drop_eq_getElem_cons hj] at hf1
                simp only [compL] at hf1
                cases hgd1 : fg1 ds1[j] Γ7 with
                | none => rw [hgd1] at hf1; cases hf1
                | some Γ8 =>
                  rw [hgd1] at hf1
                  simp only at hf1
                  cases hbd1 : ft1 Γ8 with
                  | none => rw [hbd1] at hf1; cases hf1
                  | some p =>
                    obtain ⟨b1, Γ9⟩ := p
                    rw [hbd1] at hf1
                    refine ⟨fun H'' => ∃ k', k' < k ∧ (j + 1) + k' = ds1.length ∧ S H'' ∧ S1 H'' ∧ ∃ Γ' acc, compL vs1 fg1 ft1 fe (ds1.drop (j + 1)) acc Γ' = some (acc', Γ6) ∧ Ste K (wipeG Γ1 vs) (wipe σ vs) H1 Γ' (wipe σ3 vs1) H'' ∧ ¬ Cell Γ' (wipe σ3 vs1) D ∧ AccL K H'' D acc,
                      fun H'' hh => hh, fun x1 H7 hy1 => ?_⟩
                    obtain ⟨sm7, d1, hd1, rpd1⟩ := wk1.yld j H6 x1 H7 sJ6 hy1 hj
                    have ed1 : ds1[j] = d1 := by rw [List.getElem?_eq_getElem hj] at hd1; injection hd1
                    have s7 : Ste K Γ7 (wipe σ3 vs1) H6 Γ7 (wipe σ3 vs1) H7 := Ste.same A1.env sm7
                    have lw1 : (wipe σ3 vs1).length = Γ7.length := A1.env.len
                    refine ⟨d1, Γ7, Γ8, by rw [← ed1]; exact hgd1, s7.env, lw1, rpd1, fun σ4 s8 ag1 => ?_⟩
                    have wag1 : wipe σ4 vs1 = wipe σ3 vs1 := wipe_agree (by rw [s8.sl, wipe_length]) hsl1 ag1
                    refine ⟨wag1, Γ8, b1, Γ9, hbd1, s8.env, fun H9 s9 => ?_⟩
                    have B9 := (A1.trans s7).trans (s8.trans s9)
                    have pr9 := Per.trans (Per.of_same sm7) (s8.trans s9).per
                    have sH9 : S H9 := wk.per H6 H9 sH6 pr9
                    have sJ9 : S1 H9 := wk1.per H6 H9 sJ6 pr9
                    obtain ⟨u7, hu7, _⟩ := ac7.mut
                    have nc9 : ¬ Cell Γ9 σ4 D := (s7.trans (s8.trans s9)).noCell hu7 nc7
                    have ac9 : AccL K H9 D acc1 := ac7.keep (s7.trans (s8.trans s9)).per fun o ho => (s7.trans (s8.trans s9)).keep D o ho nc7
                    cases b1 with
                    | false =>
                      dsimp only
                      rw [if_neg (by decide)]
                      simp only at hf1
                      refine ⟨k - 1, by omega, by omega, sH9, sJ9, wipeG Γ9 vs1, acc1, hf1, ?_, ?_, ac9⟩
                      · have C := B9.wiped (vs := vs1) nio1
                        rw [wag1] at C
                        exact C
                      · rw [← wag1]
                        exact fun c => nc9 (cell_wipe c)
                    | true =>
                      dsimp only
                      rw [if_pos rfl]
                      simp only at hf1
                      cases hed : fe Γ9 with
                      | none => rw [hed] at hf1; cases hf1
                      | some p =>
                        obtain ⟨e, Γ10⟩ := p
                        rw [hed] at hf1
                        simp only at hf1
                        refine ⟨Γ9, e, Γ10, hed, B9.env, fun y H10 s10 p10 o10 => ?_⟩
                        by_cases lt : acc1.length < 1000000
                        · rw [if_pos lt] at hf1
                          obtain ⟨ws, hws, rp⟩ := ac9
                          have hD10 : H10 D = some (.lst ws) := s10.keep D _ hws nc9
                          have nc10 : ¬ Cell Γ10 σ4 D := s10.noCell hws nc9
                          have C := (B9.trans s10).wiped (vs := vs1) nio1
                          rw [wag1] at C
                          have ncw : ¬ Cell (wipeG Γ10 vs1) (wipe σ3 vs1) D := by
                            rw [← wag1]
                            exact fun c => nc10 (cell_wipe c)
                          obtain ⟨C', pr⟩ := C.updNew (u' := .lst (ws ++ [y])) hD hD10 id ncw
                          refine ⟨ws, hD10, ?_, k - 1, by omega, by omega, wk.per _ _ sH9 (s10.per.trans pr), wk1.per _ _ sJ9 (s10.per.trans pr), wipeG Γ10 vs1, acc1 ++ [e], hf1, C', ncw, ⟨ws ++ [y], upd_same, ?_⟩⟩
                          · rw [rp.length]
                            exact Nat.lt_of_lt_of_le lt (by decide)
                          · exact (RpL.per (s10.per.trans pr) _ _ rp).snoc (Rp.per pr _ _ p10)
                        · rw [if_neg lt] at hf1
                          cases hf1
              · left
                refine ⟨wk1.stop j H6 sJ6 (by omega), ?_⟩
                rw [List.drop_eq_nil_of_le (by omega)] at hf1
                simp only [compL, Option.some.injEq, Prod.mk.injEq] at hf1
                obtain ⟨rfl, rfl⟩ := hf1
                have C := A1.wiped (vs := vs) nio'
                have ww : wipe (wipe σ3 vs1) vs = wipe σ vs := by rw [wipe_wipe hv, wag]
                rw [ww] at C
                refine ⟨m - 1, by omega, by omega, sH6, wipeG Γ7 vs, acc1, hf, C, ?_, ac7, fun j z d e => by have := wipeG_in z e; cases this⟩
                rw [← ww]
                exact fun c => nc7 (cell_wipe c)
  · left
    refine ⟨wk.stop i H' sH' (by omega), ?_⟩
    rw [List.drop_eq_nil_of_le (by omega)] at hf
    simp only [comp2L, Option.some.injEq, Prod.mk.injEq] at hf
    obtain ⟨rfl, rfl⟩ := hf
    obtain ⟨ws, hws, rp⟩ := hac
    have R := Ste.restored s1.env A nio
    refine q.2 (.ref D) H' (s1.trans R) ⟨D, rfl, ⟨ws, hws, rp⟩, ?_⟩ fun a ea => .inr ?_
    · intro c
      rcases R.sub D c with c | c
      · obtain ⟨u, hu, _⟩ := s1.env.cellMut c
        rw [hD] at hu
        cases hu
      · obtain ⟨j, e, hj, hb⟩ := ‹Cell (restore Γ1 Γ' vs) σ D›
        by_cases z : j ∈ vs
        · have hj1 : Own Γ1 j e := by
            unfold Own at hj ⊢
            rw [restore_in (by rw [A.gl, wipeG_length]) z] at hj
            exact hj
          obtain ⟨u, hu, _⟩ := s1.env.cellMut ⟨j, e, hj1, hb⟩
          rw [hD] at hu
          cases hu
        · have hje : Own Γ' j e := by
            unfold Own at hj ⊢
            rw [restore_out z] at hj
            exact hj
          exact nc ⟨j, e, hje, by rw [wipe_out z]; exact hb⟩
    · cases ea
      exact s1.live D hD
end
end Sv

namespace Sv
open PySem PySem.Spec PyProof.Rows L2 Tx
section
variable {K : PySem.W.Frag} {Γ Γ1 Γe : Gm} {ds out : List D} {vs vs1 sl sl1 : List Nat} {fg fg1 : D → Gm → Option Gm} {ft ft1 : Gm → Option (Bool × Gm)} {fe : Gm → Option (D × Gm)} {fi : Gm → Option (List D × Gm)}
theorem compL_len : ∀ {ds acc out : List D} {Γ Γe : Gm}, compL vs fg ft fe ds acc Γ = some (out, Γe) → acc.length ≤ out.length
  | [], acc, out, Γ, Γe, h => by
    simp only [compL, Option.some.injEq, Prod.mk.injEq] at h
    rw [h.1]; exact Nat.le_refl _
  | d :: ds, acc, out, Γ, Γe, h => by
    simp only [compL] at h
    repeat' split at h
    all_goals first
      | cases h
      | exact compL_len h
      | (have := compL_len h; rw [List.length_append] at this; omega)
theorem comp2L_len : ∀ {ds acc out : List D} {Γ Γe : Gm}, comp2L vs vs1 fg ft fi fg1 ft1 fe ds acc Γ = some (out, Γe) → acc.length ≤ out.length
  | [], acc, out, Γ, Γe, h => by
    simp only [comp2L, Option.some.injEq, Prod.mk.injEq] at h
    rw [h.1]; exact Nat.le_refl _
  | d :: ds, acc, out, Γ, Γe, h => by
    simp only [comp2L] at h
    repeat' split at h
    all_goals first
      | cases h
      | exact comp2L_len h
      | (next _ _ _ _ h1 => exact Nat.le_trans (compL_len h1) (comp2L_len h))
      | (next h1 => exact Nat.le_trans (compL_len h1) (comp2L_len h))
/-- what is gathered: a set of texts -/
def AccS (w : World) (K : PySem.W.Frag) (H : Hp) (D : Addr) (acc : List Sv.D) : Prop := ∃ (S : Str → Bool) (n : Nat), H D = some (SetXO w D S n) ∧ (∀ k, S k = true ↔ Sv.D.str k ∈ acc) ∧ n ≤ acc.length ∧ ∀ d ∈ acc, ∃ x, d = .str x ∧ PyData.strOk x = true
theorem AccS.keep {w : World} {H H' : Hp} {D : Addr} {acc : List Sv.D} (h : AccS w K H D acc) (p : Per H H') (k : ∀ o, H D = some o → H' D = some o) : AccS w K H' D acc := by
  obtain ⟨S, n, h1, h2⟩ := h
  exact ⟨S, n, k _ h1, h2⟩
theorem AccS.mut {w : World} {H : Hp} {D : Addr} {acc : List Sv.D} (h : AccS w K H D acc) : ∃ u, H D = some u ∧ ¬ Imm u := by
  obtain ⟨S, n, h1, h2⟩ := h
  exact ⟨_, h1, id⟩
/-- a new set of texts -/
def rdX (w : World) (K : PySem.W.Frag) (Γ : Gm) (out : List D) (Γ' : Gm) : TE := fun σ H Q => EnvOk K Γ σ H ∧ ∀ (D : Addr) (S : Str → Bool) (n : Nat) (H' : Hp), Ste K Γ σ H Γ' σ H' → H' D = some (SetXO w D S n) → (∀ k, S k = true ↔ Sv.D.str k ∈ out) → (∀ d ∈ out, ∃ x, d = .str x ∧ PyData.strOk x = true) → ¬ Cell Γ' σ D → H D = none → Q (.ref D) H'
theorem sc2_reads {w : World} (hout : out.length ≤ 4000) (hstr : ∀ Γ d Γ1, fe Γ = some (d, Γ1) → ∃ x, d = .str x) (hcomp : comp2L vs vs1 fg ft fi fg1 ft1 fe ds [] (wipeG Γ1 vs) = some (out, Γe)) (nio : ∀ j ∈ vs, ∀ d, Γ1[j]? ≠ some (.io d)) (hsl : ∀ j ∈ sl, j ∈ vs) (hsl1 : ∀ j ∈ sl1, j ∈ vs1) (hv : ∀ j ∈ vs1, j ∈ vs) (σ : L2.St) (H : Hp) (Q : VK) (q : rdX w K Γ out (restore Γ1 Γe vs) σ H Q) :
    tSc2 w (rdI K Γ ds Γ1) (fun v σ H Q => ∃ d Γ Γ1, fg d Γ = some Γ1 ∧ (∀ j ∈ vs, ∀ d, Γ[j]? ≠ some (.io d)) ∧ rdG K sl Γ d Γ1 v σ H Q) (fun σ H Q => ∃ Γ b Γ1, ft Γ = some (b, Γ1) ∧ rdT K Γ b Γ1 σ H Q)
      (fun σ H R => ∃ Γ ds Γ1, fi Γ = some (ds, Γ1) ∧ rdI K Γ ds Γ1 σ H R) (fun v σ H Q => ∃ d Γ Γ1, fg1 d Γ = some Γ1 ∧ rdG K sl1 Γ d Γ1 v σ H Q) (fun σ H Q => ∃ Γ b Γ1, ft1 Γ = some (b, Γ1) ∧ rdT K Γ b Γ1 σ H Q)
      (fun σ H Q => ∃ Γ d Γ1, fe Γ = some (d, Γ1) ∧ rdE K Γ (.val d) Γ1 σ H Q) vs vs1 σ H Q := by
  refine ⟨q.1, fun J S H1 s1 wk sH => fun D hD => ?_⟩
  have sm1 := same_new (o := SetXO w D (fun _ => false) 0) hD
  have l1 : σ.length = Γ1.length := s1.env.len
  have W0 : Ste K (wipeG Γ1 vs) (wipe σ vs) H1 (wipeG Γ1 vs) (wipe σ vs) (upd H1 D (SetXO w D (fun _ => false) 0)) := Ste.same ((Ste.refl s1.env).wiped nio).env sm1
  have nio' : ∀ j ∈ vs, ∀ d, (wipeG Γ1 vs)[j]? ≠ some (.io d) := fun j z d e => by have := wipeG_in z e; cases this
  refine ⟨fun i m H' => i + m = ds.length ∧ S H' ∧ ∃ Γ' acc, comp2L vs vs1 fg ft fi fg1 ft1 fe (ds.drop i) acc Γ' = some (out, Γe) ∧ Ste K (wipeG Γ1 vs) (wipe σ vs) H1 Γ' (wipe σ vs) H' ∧ ¬ Cell Γ' (wipe σ vs) D ∧ AccS w K H' D acc ∧ (∀ j ∈ vs, ∀ d, Γ'[j]? ≠ some (.io d)),
    ⟨ds.length, by omega, wk.per _ _ sH (Per.of_same sm1), wipeG Γ1 vs, [], hcomp, W0, fun c => ?_, ⟨_, 0, upd_same, fun k => by simp, Nat.le_refl _, fun d h => by simp at h⟩, nio'⟩, fun i m H' hw => ?_⟩
  · obtain ⟨u, hu, _⟩ := s1.env.cellMut (cell_wipe c)
    rw [hD] at hu
    cases hu
  obtain ⟨him, sH', Γ', acc, hf, A, nc, hac, nioG⟩ := hw
  by_cases hi : i < ds.length
  · right
    refine ⟨wk.go i H' sH' hi, ?_⟩
    rw [List.drop_eq_getElem_cons hi] at hf
    simp only [comp2L] at hf
    cases hgd : fg ds[i] Γ' with
    | none => rw [hgd] at hf; cases hf
    | some Γ3 =>
      rw [hgd] at hf
      simp only at hf
      cases hbd : ft Γ3 with
      | none => rw [hbd] at hf; cases hf
      | some p =>
        obtain ⟨b, Γ4⟩ := p
        rw [hbd] at hf
        refine ⟨fun H'' => ∃ m', m' < m ∧ (i + 1) + m' = ds.length ∧ S H'' ∧ ∃ Γ' acc, comp2L vs vs1 fg ft fi fg1 ft1 fe (ds.drop (i + 1)) acc Γ' = some (out, Γe) ∧ Ste K (wipeG Γ1 vs) (wipe σ vs) H1 Γ' (wipe σ vs) H'' ∧ ¬ Cell Γ' (wipe σ vs) D ∧ AccS w K H'' D acc ∧ (∀ j ∈ vs, ∀ d, Γ'[j]? ≠ some (.io d)),
          fun H'' hh => hh, fun x H2 hy => ?_⟩
        obtain ⟨sm, d, hd, rpd⟩ := wk.yld i H' x H2 sH' hy hi
        have ed : ds[i] = d := by rw [List.getElem?_eq_getElem hi] at hd; injection hd
        have s2 : Ste K Γ' (wipe σ vs) H' Γ' (wipe σ vs) H2 := Ste.same A.env sm
        have lw : (wipe σ vs).length = Γ'.length := by rw [A.gl, wipeG_length, wipe_length]; exact l1
        refine ⟨d, Γ', Γ3, by rw [← ed]; exact hgd, nioG, s2.env, lw, rpd, fun σ3 s3 ag => ?_⟩
        have wag : wipe σ3 vs = wipe σ vs := wipe_agree (by rw [s3.sl, wipe_length]) hsl ag
        refine ⟨wag, Γ3, b, Γ4, hbd, s3.env, fun H4 s4 => ?_⟩
        have B := (A.trans s2).trans (s3.trans s4)
        have sH4 : S H4 := wk.per H' H4 sH' (Per.trans (Per.of_same sm) (s3.trans s4).per)
        obtain ⟨u0, hu0, _⟩ := hac.mut
        have nc4 : ¬ Cell Γ4 σ3 D := (s2.trans (s3.trans s4)).noCell hu0 nc
        have ac4 : AccS w K H4 D acc := hac.keep (s2.trans (s3.trans s4)).per fun o ho => (s2.trans (s3.trans s4)).keep D o ho nc
        cases b with
        | false =>
          dsimp only
          rw [if_neg (by decide)]
          simp only at hf
          refine ⟨m - 1, by omega, by omega, sH4, wipeG Γ4 vs, acc, hf, ?_, ?_, ac4, fun j z d e => by have := wipeG_in z e; cases this⟩
          · rw [← wag]
            have C := B.wiped (vs := vs) nio'
            rw [wag] at C ⊢
            exact C
          · rw [← wag]
            exact fun c => nc4 (cell_wipe c)
        | true =>
          dsimp only
          rw [if_pos rfl]
          simp only at hf
          cases hid : fi Γ4 with
          | none => rw [hid] at hf; cases hf
          | some p =>
            obtain ⟨ds1, Γ5⟩ := p
            rw [hid] at hf
            simp only at hf
            cases hcd : compL vs1 fg1 ft1 fe ds1 acc (wipeG Γ5 vs1) with
            | none => rw [hcd] at hf; cases hf
            | some p =>
              obtain ⟨acc', Γ6⟩ := p
              rw [hcd] at hf
              simp only at hf
              refine ⟨Γ4, ds1, Γ5, hid, B.env, fun J1 S1 H5 s5 wk1 sH5 => ?_⟩
              have B5 := B.trans s5
              obtain ⟨u4, hu4, _⟩ := ac4.mut
              have nc5 : ¬ Cell Γ5 σ3 D := s5.noCell hu4 nc4
              have ac5 : AccS w K H5 D acc := ac4.keep s5.per fun o ho => s5.keep D o ho nc4
              have sH5' : S H5 := wk.per _ _ sH4 s5.per
              have nio1 : ∀ j ∈ vs1, ∀ d, (wipeG Γ1 vs)[j]? ≠ some (.io d) := fun j z d e => nio' j (hv j z) d e
              have l3 : σ3.length = σ.length := by rw [s3.sl, wipe_length]
              refine ⟨fun j k H'' => j + k = ds1.length ∧ S H'' ∧ S1 H'' ∧ ∃ Γ' acc, compL vs1 fg1 ft1 fe (ds1.drop j) acc Γ' = some (acc', Γ6) ∧ Ste K (wipeG Γ1 vs) (wipe σ vs) H1 Γ' (wipe σ3 vs1) H'' ∧ ¬ Cell Γ' (wipe σ3 vs1) D ∧ AccS w K H'' D acc,
                ⟨ds1.length, by omega, sH5', sH5, wipeG Γ5 vs1, acc, hcd, B5.wiped nio1, fun c => nc5 (cell_wipe c), ac5⟩, fun j k H6 hw1 => ?_⟩
              obtain ⟨hjk, sH6, sJ6, Γ7, acc1, hf1, A1, nc7, ac7⟩ := hw1
              by_cases hj : j < ds1.length
              · right
                refine ⟨wk1.go j H6 sJ6 hj, ?_⟩
                rw [List.drop_eq_getElem_cons hj] at hf1
                simp only [compL] at hf1
                cases hgd1 : fg1 ds1[j] Γ7 with
                | none => rw [hgd1] at hf1; cases hf1
                | some Γ8 =>
                  rw [hgd1] at hf1
                  simp only at hf1
                  cases hbd1 : ft1 Γ8 with
                  | none => rw [hbd1] at hf1; cases hf1
                  | some p =>
                    obtain ⟨b1, Γ9⟩ := p
                    rw [hbd1] at hf1
                    refine ⟨fun H'' => ∃ k', k' < k ∧ (j + 1) + k' = ds1.length ∧ S H'' ∧ S1 H'' ∧ ∃ Γ' acc, compL vs1 fg1 ft1 fe (ds1.drop (j + 1)) acc Γ' = some (acc', Γ6) ∧ Ste K (wipeG Γ1 vs) (wipe σ vs) H1 Γ' (wipe σ3 vs1) H'' ∧ ¬ Cell Γ' (wipe σ3 vs1) D ∧ AccS w K H'' D acc,
                      fun H'' hh => hh, fun x1 H7 hy1 => ?_⟩
                    obtain ⟨sm7, d1, hd1, rpd1⟩ := wk1.yld j H6 x1 H7 sJ6 hy1 hj
                    have ed1 : ds1[j] = d1 := by rw [List.getElem?_eq_getElem hj] at hd1; injection hd1
                    have s7 : Ste K Γ7 (wipe σ3 vs1) H6 Γ7 (wipe σ3 vs1) H7 := Ste.same A1.env sm7
                    have lw1 : (wipe σ3 vs1).length = Γ7.length := A1.env.len
                    refine ⟨d1, Γ7, Γ8, by rw [← ed1]; exact hgd1, s7.env, lw1, rpd1, fun σ4 s8 ag1 => ?_⟩
                    have wag1 : wipe σ4 vs1 = wipe σ3 vs1 := wipe_agree (by rw [s8.sl, wipe_length]) hsl1 ag1
                    refine ⟨wag1, Γ8, b1, Γ9, hbd1, s8.env, fun H9 s9 => ?_⟩
                    have B9 := (A1.trans s7).trans (s8.trans s9)
                    have pr9 := Per.trans (Per.of_same sm7) (s8.trans s9).per
                    have sH9 : S H9 := wk.per H6 H9 sH6 pr9
                    have sJ9 : S1 H9 := wk1.per H6 H9 sJ6 pr9
                    obtain ⟨u7, hu7, _⟩ := ac7.mut
                    have nc9 : ¬ Cell Γ9 σ4 D := (s7.trans (s8.trans s9)).noCell hu7 nc7
                    have ac9 : AccS w K H9 D acc1 := ac7.keep (s7.trans (s8.trans s9)).per fun o ho => (s7.trans (s8.trans s9)).keep D o ho nc7
                    cases b1 with
                    | false =>
                      dsimp only
                      rw [if_neg (by decide)]
                      simp only at hf1
                      refine ⟨k - 1, by omega, by omega, sH9, sJ9, wipeG Γ9 vs1, acc1, hf1, ?_, ?_, ac9⟩
                      · have C := B9.wiped (vs := vs1) nio1
                        rw [wag1] at C
                        exact C
                      · rw [← wag1]
                        exact fun c => nc9 (cell_wipe c)
                    | true =>
                      dsimp only
                      rw [if_pos rfl]
                      simp only at hf1
                      cases hed : fe Γ9 with
                      | none => rw [hed] at hf1; cases hf1
                      | some p =>
                        obtain ⟨e, Γ10⟩ := p
                        rw [hed] at hf1
                        simp only at hf1
                        refine ⟨Γ9, e, Γ10, hed, B9.env, fun y H10 s10 p10 o10 => ?_⟩
                        by_cases lt : acc1.length < 1000000
                        · rw [if_pos lt] at hf1
                          obtain ⟨S0, n0, hws, hS, hn, hall⟩ := ac9
                          have hD10 : H10 D = some (SetXO w D S0 n0) := s10.keep D _ hws nc9
                          have nc10 : ¬ Cell Γ10 σ4 D := s10.noCell hws nc9
                          have C := (B9.trans s10).wiped (vs := vs1) nio1
                          rw [wag1] at C
                          have ncw : ¬ Cell (wipeG Γ10 vs1) (wipe σ3 vs1) D := by
                            rw [← wag1]
                            exact fun c => nc10 (cell_wipe c)
                          obtain ⟨x, rfl⟩ := hstr _ _ _ hed
                          have hx : y = .str x ∧ PyData.strOk x = true := by
                            have := p10
                            simp only [Pd, Rp] at this
                            exact this
                          obtain ⟨C', pr⟩ := C.updNew (u' := SetXO w D (fun j => S0 j || decide (j = x)) (if S0 x = true then n0 else n0 + 1)) hD hD10 id ncw
                          have ln := compL_len hf1
                          have ln2 := comp2L_len hf
                          rw [List.length_append] at ln
                          refine ⟨x, S0, n0, hx.1, hD10, ?_, k - 1, by omega, by omega, wk.per _ _ sH9 (s10.per.trans pr), wk1.per _ _ sJ9 (s10.per.trans pr), wipeG Γ10 vs1, acc1 ++ [.str x], hf1, C', ncw, ⟨_, _, upd_same, fun k => ?_, ?_, fun d hd => ?_⟩⟩
                          · show n0 + 1 < 4096
                            simp only [List.length_cons, List.length_nil] at ln
                            omega
                          · rw [Bool.or_eq_true, decide_eq_true_eq, hS k, List.mem_append, List.mem_singleton, Sv.D.str.injEq]
                          · rw [List.length_append]
                            simp only [List.length_cons, List.length_nil]
                            split <;> omega
                          · rcases List.mem_append.1 hd with h | h
                            · exact hall d h
                            · rw [List.mem_singleton] at h
                              exact ⟨x, h, hx.2⟩
                        · rw [if_neg lt] at hf1
                          cases hf1
              · left
                refine ⟨wk1.stop j H6 sJ6 (by omega), ?_⟩
                rw [List.drop_eq_nil_of_le (by omega)] at hf1
                simp only [compL, Option.some.injEq, Prod.mk.injEq] at hf1
                obtain ⟨rfl, rfl⟩ := hf1
                have C := A1.wiped (vs := vs) nio'
                have ww : wipe (wipe σ3 vs1) vs = wipe σ vs := by rw [wipe_wipe hv, wag]
                rw [ww] at C
                refine ⟨m - 1, by omega, by omega, sH6, wipeG Γ7 vs, acc1, hf, C, ?_, ac7, fun j z d e => by have := wipeG_in z e; cases this⟩
                rw [← ww]
                exact fun c => nc7 (cell_wipe c)
  · left
    refine ⟨wk.stop i H' sH' (by omega), ?_⟩
    rw [List.drop_eq_nil_of_le (by omega)] at hf
    simp only [comp2L, Option.some.injEq, Prod.mk.injEq] at hf
    obtain ⟨rfl, rfl⟩ := hf
    obtain ⟨S0, n0, hws, hS, hn, hall⟩ := hac
    have R := Ste.restored s1.env A nio
    refine q.2 D S0 n0 H' (s1.trans R) hws hS hall ?_ ?_
    · intro c
      rcases R.sub D c with c | c
      · obtain ⟨u, hu, _⟩ := s1.env.cellMut c
        rw [hD] at hu
        cases hu
      · obtain ⟨j, e, hj, hb⟩ := ‹Cell (restore Γ1 Γ' vs) σ D›
        by_cases z : j ∈ vs
        · have hj1 : Own Γ1 j e := by
            unfold Own at hj ⊢
            rw [restore_in (by rw [A.gl, wipeG_length]) z] at hj
            exact hj
          obtain ⟨u, hu, _⟩ := s1.env.cellMut ⟨j, e, hj1, hb⟩
          rw [hD] at hu
          cases hu
        · have hje : Own Γ' j e := by
            unfold Own at hj ⊢
            rw [restore_out z] at hj
            exact hj
          exact nc ⟨j, e, hje, by rw [wipe_out z]; exact hb⟩
    · exact s1.live D hD
end
end Sv

namespace Sv
open PySem PySem.Spec PyProof.Rows L2 Tx
section
variable {X : Cx} {Γ Γ1 Γe : Gm} {ds out : List D} {sl sl1 vs1 : List Nat} {fg fg1 : D → Gm → Option Gm} {ft ft1 : Gm → Option (Bool × Gm)} {fe : Gm → Option (D × Gm)} {fi : Gm → Option (List D × Gm)} {elt tg iter tg1 iter1 : Expr} {ifs ifs1 : List Expr} {scope : Scope} {own : List (Str × Nat)} {pos : Pos}
/-- the block's parts -/
structure Blk2 (X : Cx) (scope : Scope) (elt tg tg1 iter1 : Expr) (ifs ifs1 : List Expr) (sl sl1 : List Nat) (fg fg1 : D → Gm → Option Gm) (ft ft1 : Gm → Option (Bool × Gm)) (fe : Gm → Option (D × Gm)) (fi : Gm → Option (List D × Gm)) : Prop where
  hg : ∀ (s : Shared) (H : Hp) (C : Addr) (cl : List (Str × Addr)) (fp : List Addr) (d : D) (Γ Γ1 : Gm), fg d Γ = some Γ1 → DG (X.blk s H scope (compEnvC scope cl C X.env) fp) tg sl Γ d Γ1
  ht : ∀ (s : Shared) (H : Hp) (C : Addr) (cl : List (Str × Addr)) (fp : List Addr) (Γ : Gm) (b : Bool) (Γ1 : Gm), ft Γ = some (b, Γ1) → PTs (X.blk s H scope (compEnvC scope cl C X.env) fp) ifs (rdT X.K Γ b Γ1)
  hi : ∀ (s : Shared) (H : Hp) (C : Addr) (cl : List (Str × Addr)) (fp : List Addr) (Γ : Gm) (ds : List D) (Γ1 : Gm), fi Γ = some (ds, Γ1) → DI (X.blk s H scope (compEnvC scope cl C X.env) fp) tg1 iter1 Γ ds Γ1
  hg1 : ∀ (s : Shared) (H : Hp) (C : Addr) (cl : List (Str × Addr)) (fp : List Addr) (d : D) (Γ Γ1 : Gm), fg1 d Γ = some Γ1 → DG (X.blk s H scope (compEnvC scope cl C X.env) fp) tg1 sl1 Γ d Γ1
  ht1 : ∀ (s : Shared) (H : Hp) (C : Addr) (cl : List (Str × Addr)) (fp : List Addr) (Γ : Gm) (b : Bool) (Γ1 : Gm), ft1 Γ = some (b, Γ1) → PTs (X.blk s H scope (compEnvC scope cl C X.env) fp) ifs1 (rdT X.K Γ b Γ1)
  he : ∀ (s : Shared) (H : Hp) (C : Addr) (cl : List (Str × Addr)) (fp : List Addr) (Γ : Gm) (d : D) (Γ1 : Gm), fe Γ = some (d, Γ1) → DE (X.blk s H scope (compEnvC scope cl C X.env) fp) elt Γ (.val d) Γ1
theorem de_lc2 (hc : X.calm = true) (hN : X.N.Nodup) (hi : DI X tg iter Γ ds Γ1) (ok : BlkOk X.N X.env.scope scope own) (B : Blk2 X scope elt tg tg1 iter1 ifs ifs1 sl sl1 fg fg1 ft ft1 fe fi)
    (hs : ∀ x, foldedSetIterable iter X.env x = pure x) (hs1 : ∀ env x, foldedSetIterable iter1 env x = pure x) (hcomp : comp2L (own.map (·.2)) vs1 fg ft fi fg1 ft1 fe ds [] (wipeG Γ1 (own.map (·.2))) = some (out, Γe)) (nio : ∀ j ∈ own.map (·.2), ∀ d, Γ1[j]? ≠ some (.io d)) (hsl : ∀ j ∈ sl, j ∈ own.map (·.2)) (hsl1 : ∀ j ∈ sl1, j ∈ vs1) (hv : ∀ j ∈ vs1, j ∈ own.map (·.2)) :
    DE X (.ListComp elt [⟨tg, iter, ifs, 0⟩, ⟨tg1, iter1, ifs1, 0⟩] scope pos) Γ (.new (.lst out)) (restore Γ1 Γe (own.map (·.2))) :=
  pe_sub (pe_lc2 hc hN hi ok hv (fun s H C cl fp => ⟨fun pins s' σ H' v u Q I r q => by obtain ⟨d, Γ, Γ1, e, _, q⟩ := q; exact (B.hg s H C cl fp d Γ Γ1 e).run pins s' σ H' v u Q I r q⟩)
    (fun s H C cl fp => ⟨fun pins s' σ H' Q I q => by obtain ⟨Γ, d, Γ1, e, q⟩ := q; exact (B.ht s H C cl fp Γ d Γ1 e).run pins s' σ H' Q I q⟩)
    (fun s H C cl fp => ⟨fun pins s' σ H' R I q => by obtain ⟨Γ, d, Γ1, e, q⟩ := q; exact (B.hi s H C cl fp Γ d Γ1 e).run pins s' σ H' R I q⟩)
    (fun s H C cl fp => ⟨fun pins s' σ H' v u Q I r q => by obtain ⟨d, Γ, Γ1, e, q⟩ := q; exact (B.hg1 s H C cl fp d Γ Γ1 e).run pins s' σ H' v u Q I r q⟩)
    (fun s H C cl fp => ⟨fun pins s' σ H' Q I q => by obtain ⟨Γ, d, Γ1, e, q⟩ := q; exact (B.ht1 s H C cl fp Γ d Γ1 e).run pins s' σ H' Q I q⟩)
    (fun s H C cl fp => ⟨fun pins s' σ H' Q I q => by obtain ⟨Γ, d, Γ1, e, q⟩ := q; exact (B.he s H C cl fp Γ d Γ1 e).run pins s' σ H' Q I q⟩) hs hs1) fun σ H Q q => lc2_reads hcomp nio hsl hsl1 hv σ H Q q
theorem pe_sx2 (hc : X.calm = true) (hN : X.N.Nodup) (hi : DI X tg iter Γ ds Γ1) (ok : BlkOk X.N X.env.scope scope own) (B : Blk2 X scope elt tg tg1 iter1 ifs ifs1 sl sl1 fg fg1 ft ft1 fe fi) (hout : out.length ≤ 4000) (hstr : ∀ Γ d Γ1, fe Γ = some (d, Γ1) → ∃ x, d = .str x)
    (hs : ∀ x, foldedSetIterable iter X.env x = pure x) (hs1 : ∀ env x, foldedSetIterable iter1 env x = pure x) (hcomp : comp2L (own.map (·.2)) vs1 fg ft fi fg1 ft1 fe ds [] (wipeG Γ1 (own.map (·.2))) = some (out, Γe)) (nio : ∀ j ∈ own.map (·.2), ∀ d, Γ1[j]? ≠ some (.io d)) (hsl : ∀ j ∈ sl, j ∈ own.map (·.2)) (hsl1 : ∀ j ∈ sl1, j ∈ vs1) (hv : ∀ j ∈ vs1, j ∈ own.map (·.2)) :
    PE X (.SetComp elt [⟨tg, iter, ifs, 0⟩, ⟨tg1, iter1, ifs1, 0⟩] scope pos) (rdX X.w X.K Γ out (restore Γ1 Γe (own.map (·.2)))) :=
  pe_sub (pe_sc2 hc hN hi ok hv (fun s H C cl fp => ⟨fun pins s' σ H' v u Q I r q => by obtain ⟨d, Γ, Γ1, e, _, q⟩ := q; exact (B.hg s H C cl fp d Γ Γ1 e).run pins s' σ H' v u Q I r q⟩)
    (fun s H C cl fp => ⟨fun pins s' σ H' Q I q => by obtain ⟨Γ, d, Γ1, e, q⟩ := q; exact (B.ht s H C cl fp Γ d Γ1 e).run pins s' σ H' Q I q⟩)
    (fun s H C cl fp => ⟨fun pins s' σ H' R I q => by obtain ⟨Γ, d, Γ1, e, q⟩ := q; exact (B.hi s H C cl fp Γ d Γ1 e).run pins s' σ H' R I q⟩)
    (fun s H C cl fp => ⟨fun pins s' σ H' v u Q I r q => by obtain ⟨d, Γ, Γ1, e, q⟩ := q; exact (B.hg1 s H C cl fp d Γ Γ1 e).run pins s' σ H' v u Q I r q⟩)
    (fun s H C cl fp => ⟨fun pins s' σ H' Q I q => by obtain ⟨Γ, d, Γ1, e, q⟩ := q; exact (B.ht1 s H C cl fp Γ d Γ1 e).run pins s' σ H' Q I q⟩)
    (fun s H C cl fp => ⟨fun pins s' σ H' Q I q => by obtain ⟨Γ, d, Γ1, e, q⟩ := q; exact (B.he s H C cl fp Γ d Γ1 e).run pins s' σ H' Q I q⟩) hs hs1) fun σ H Q q => sc2_reads hout hstr hcomp nio hsl hsl1 hv σ H Q q
end
/-! the sorted list of texts, each once -/
def insX (x : Str) : List Str → List Str
  | [] => [x]
  | y :: ys => if ltCps x.cps.toList y.cps.toList then x :: y :: ys else if x = y then y :: ys else y :: insX x ys
def sortX : List Str → List Str
  | [] => []
  | x :: xs => insX x (sortX xs)
end Sv

namespace Sv
open PySem PySem.Spec PyProof.Rows L2 Tx
/-! sorting, plainly -/
structure SLt {α : Type} (lt : α → α → Bool) : Prop where
  irr : ∀ a, lt a a = false
  tr : ∀ a b c, lt a b = true → lt b c = true → lt a c = true
  tri : ∀ a b, lt a b = false → lt b a = false → a = b
section
variable {α : Type} {lt : α → α → Bool}
theorem SLt.asy (O : SLt lt) {a b : α} (h : lt a b = true) : lt b a = false := by
  cases h2 : lt b a with
  | false => rfl
  | true => have := O.tr _ _ _ h h2; rw [O.irr] at this; cases this
def insBy (lt : α → α → Bool) (x : α) : List α → List α
  | [] => [x]
  | y :: ys => if lt y x then y :: insBy lt x ys else x :: y :: ys
def sortBy (lt : α → α → Bool) : List α → List α
  | [] => []
  | x :: xs => insBy lt x (sortBy lt xs)
def Srt (lt : α → α → Bool) (l : List α) : Prop := l.Pairwise fun a b => lt b a = false
theorem insBy_perm (x : α) : ∀ l : List α, (insBy lt x l).Perm (x :: l)
  | [] => List.Perm.refl _
  | y :: ys => by
    rw [insBy]
    split
    · exact ((insBy_perm x ys).cons y).trans (List.Perm.swap x y ys)
    · exact List.Perm.refl _
theorem sortBy_perm : ∀ l : List α, (sortBy lt l).Perm l
  | [] => List.Perm.refl _
  | x :: xs => (insBy_perm x _).trans ((sortBy_perm xs).cons x)
theorem insBy_srt (O : SLt lt) (x : α) : ∀ l : List α, Srt lt l → Srt lt (insBy lt x l)
  | [], _ => List.pairwise_singleton _ _
  | y :: ys, h => by
    rw [insBy]
    have h' := List.pairwise_cons.1 h
    split
    · next hy =>
      refine List.pairwise_cons.2 ⟨fun z hz => ?_, insBy_srt O x ys h'.2⟩
      rcases List.mem_cons.1 ((insBy_perm x ys).mem_iff.1 hz) with rfl | hz
      · exact O.asy hy
      · exact h'.1 z hz
    · next hy =>
      refine List.pairwise_cons.2 ⟨fun z hz => ?_, h⟩
      rcases List.mem_cons.1 hz with rfl | hz
      · simpa using hy
      · have h1 := h'.1 z hz
        cases h2 : lt z x with
        | false => rfl
        | true =>
          have h3 : lt y x = false := by simpa using hy
          cases h4 : lt y z with
          | true => have := O.tr _ _ _ h4 h2; rw [h3] at this; cases this
          | false => have := O.tri _ _ h4 h1; subst this; rw [h3] at h2; cases h2
theorem sortBy_srt (O : SLt lt) : ∀ l : List α, Srt lt (sortBy lt l)
  | [] => List.Pairwise.nil
  | x :: xs => insBy_srt O x _ (sortBy_srt O xs)
theorem srt_uniq (O : SLt lt) : ∀ {l m : List α}, Srt lt l → Srt lt m → l.Perm m → l = m
  | [], m, _, _, p => (List.nil_perm.1 p).symm
  | x :: l, [], _, _, p => by have := p.length_eq; simp at this
  | x :: l, y :: m, hl, hm, p => by
    have h1 := List.pairwise_cons.1 hl
    have h2 := List.pairwise_cons.1 hm
    have e : x = y := by
      have hx : x ∈ y :: m := p.mem_iff.1 List.mem_cons_self
      have hy : y ∈ x :: l := p.mem_iff.2 List.mem_cons_self
      rcases List.mem_cons.1 hx with h | h
      · exact h
      rcases List.mem_cons.1 hy with h' | h'
      · exact h'.symm
      exact O.tri _ _ (h2.1 x h) (h1.1 y h') |>.symm ▸ rfl
    subst e
    rw [srt_uniq O h1.2 h2.2 (List.perm_cons x |>.1 p)]
theorem srt_is (O : SLt lt) {l m : List α} (hl : Srt lt l) (p : l.Perm m) : l = sortBy lt m :=
  srt_uniq O hl (sortBy_srt O m) (p.trans (sortBy_perm m).symm)
/-! each once -/
def insU [DecidableEq α] (lt : α → α → Bool) (x : α) : List α → List α
  | [] => [x]
  | y :: ys => if lt y x then y :: insU lt x ys else if x = y then y :: ys else x :: y :: ys
def sortU [DecidableEq α] (lt : α → α → Bool) : List α → List α
  | [] => []
  | x :: xs => insU lt x (sortU lt xs)
variable [DecidableEq α]
theorem insU_mem (x z : α) : ∀ l : List α, z ∈ insU lt x l ↔ z = x ∨ z ∈ l
  | [] => by simp [insU]
  | y :: ys => by
    rw [insU]
    split
    · rw [List.mem_cons, insU_mem x z ys, List.mem_cons]
      constructor
      · rintro (h | h | h)
        · exact .inr (.inl h)
        · exact .inl h
        · exact .inr (.inr h)
      · rintro (h | h | h)
        · exact .inr (.inl h)
        · exact .inl h
        · exact .inr (.inr h)
    · split
      · next e => subst e; simp
      · simp
theorem sortU_mem (z : α) : ∀ l : List α, z ∈ sortU lt l ↔ z ∈ l
  | [] => by simp [sortU]
  | x :: xs => by rw [sortU, insU_mem, sortU_mem z xs, List.mem_cons]
def SrtU (lt : α → α → Bool) (l : List α) : Prop := l.Pairwise fun a b => lt a b = true
theorem insU_srt (O : SLt lt) (x : α) : ∀ l : List α, SrtU lt l → SrtU lt (insU lt x l)
  | [], _ => List.pairwise_singleton _ _
  | y :: ys, h => by
    rw [insU]
    have h' := List.pairwise_cons.1 h
    split
    · next hy =>
      refine List.pairwise_cons.2 ⟨fun z hz => ?_, insU_srt O x ys h'.2⟩
      rcases (insU_mem x z ys).1 hz with rfl | hz
      · exact hy
      · exact h'.1 z hz
    · next hy =>
      split
      · exact h
      · next ne =>
        refine List.pairwise_cons.2 ⟨fun z hz => ?_, h⟩
        have hxy : lt x y = true := by
          cases h2 : lt x y with
          | true => rfl
          | false => exact absurd (O.tri _ _ h2 (by simpa using hy)) ne
        rcases List.mem_cons.1 hz with rfl | hz
        · exact hxy
        · exact O.tr _ _ _ hxy (h'.1 z hz)
theorem sortU_srt (O : SLt lt) : ∀ l : List α, SrtU lt (sortU lt l)
  | [] => List.Pairwise.nil
  | x :: xs => insU_srt O x _ (sortU_srt O xs)
theorem srtU_nodup (O : SLt lt) {l : List α} (h : SrtU lt l) : l.Nodup := by
  refine h.imp ?_
  intro a b hab e
  subst e
  rw [O.irr] at hab
  cases hab
theorem srtU_uniq (O : SLt lt) : ∀ {l m : List α}, SrtU lt l → SrtU lt m → (∀ z, z ∈ l ↔ z ∈ m) → l = m
  | [], [], _, _, _ => rfl
  | [], y :: m, _, _, h => absurd ((h y).2 List.mem_cons_self) (by simp)
  | x :: l, [], _, _, h => absurd ((h x).1 List.mem_cons_self) (by simp)
  | x :: l, y :: m, hl, hm, h => by
    have h1 := List.pairwise_cons.1 hl
    have h2 := List.pairwise_cons.1 hm
    have e : x = y := by
      rcases List.mem_cons.1 ((h x).1 List.mem_cons_self) with e | hx
      · exact e
      rcases List.mem_cons.1 ((h y).2 List.mem_cons_self) with e | hy
      · exact e.symm
      have a := h2.1 x hx
      have b := h1.1 y hy
      have := O.asy a
      rw [b] at this
      cases this
    subst e
    have nx : x ∉ l := fun z => by have := h1.1 x z; rw [O.irr] at this; cases this
    have ny : x ∉ m := fun z => by have := h2.1 x z; rw [O.irr] at this; cases this
    rw [srtU_uniq O h1.2 h2.2 fun z => ?_]
    have := h z
    rw [List.mem_cons, List.mem_cons] at this
    constructor
    · intro hz
      rcases this.1 (.inr hz) with rfl | q
      · exact absurd hz nx
      · exact q
    · intro hz
      rcases this.2 (.inr hz) with rfl | q
      · exact absurd hz ny
      · exact q
end
/-! texts -/
def ltS (a b : Str) : Bool := decide (a.cps.toList < b.cps.toList)
theorem str_ext {a b : Str} (h : a.cps.toList = b.cps.toList) : a = b := by
  cases a; cases b
  simp only [Str.mk.injEq]
  exact Array.toList_inj.mp h
theorem ltS_ord : SLt ltS where
  irr := fun a => by simp [ltS]
  tr := fun a b c h1 h2 => by
    simp only [ltS, decide_eq_true_eq] at *
    exact List.lt_trans h1 h2
  tri := fun a b h1 h2 => by
    simp only [ltS, decide_eq_false_iff_not, List.not_lt] at *
    exact str_ext (List.le_antisymm h2 h1)
theorem rising_srt : ∀ (p : Str) (l : List Str), risingS p l = true → Srt ltS (p :: l)
  | p, [], _ => List.pairwise_singleton _ _
  | p, x :: r, h => by
    have h : (!ltCps x.cps.toList p.cps.toList && risingS x r) = true := h
    rw [Bool.and_eq_true, Bool.not_eq_true', ltCps_eq] at h
    have ih := rising_srt x r h.2
    refine List.pairwise_cons.2 ⟨fun z hz => ?_, ih⟩
    rcases List.mem_cons.1 hz with rfl | hz
    · exact h.1
    · have h1 := (List.pairwise_cons.1 ih).1 z hz
      cases h2 : ltS z p with
      | false => rfl
      | true =>
        have h3 : ltS x p = false := h.1
        cases h4 : ltS x z with
        | true => have := ltS_ord.tr _ _ _ h4 h2; rw [h3] at this; cases this
        | false => have := ltS_ord.tri _ _ h4 h1; subst this; rw [h3] at h2; cases h2
theorem sortedS_srt {l : List Str} (h : sortedS l = true) : Srt ltS l := by
  cases l with
  | nil => exact List.Pairwise.nil
  | cons x r => exact rising_srt x r h
theorem srtU_of (l : List Str) (h : Srt ltS l) (nd : l.Nodup) : SrtU ltS l := by
  refine List.Pairwise.imp₂ ?_ h nd
  intro a b h1 h2
  cases h3 : ltS a b with
  | true => rfl
  | false => exact absurd (ltS_ord.tri _ _ h3 h1) h2
theorem sortX_is {ys xs : List Str} (h : sortedS ys = true) (nd : ys.Nodup) (m : ∀ k, k ∈ ys ↔ k ∈ xs) : ys = sortU ltS xs :=
  srtU_uniq ltS_ord (srtU_of ys (sortedS_srt h) nd) (sortU_srt ltS_ord xs) fun z => (m z).trans (sortU_mem z xs).symm
end Sv

namespace Sv
open PySem PySem.Spec PyProof.Rows L2 Tx
def strsD : List D → Option (List Str)
  | [] => some []
  | .str x :: r => (strsD r).map (x :: ·)
  | _ => none
theorem strsD_mem : ∀ {out : List D} {xs : List Str}, strsD out = some xs → ∀ k, D.str k ∈ out ↔ k ∈ xs
  | [], xs, h, k => by
    simp only [strsD, Option.some.injEq] at h
    subst h
    simp
  | d :: r, xs, h, k => by
    cases d <;> simp only [strsD, reduceCtorEq] at h
    rw [Option.map_eq_some_iff] at h
    obtain ⟨ys, h1, rfl⟩ := h
    rw [List.mem_cons, List.mem_cons, strsD_mem h1, D.str.injEq]
theorem RpL.strs {K : PySem.W.Frag} {H : Hp} : ∀ {ys : List Str}, (∀ y ∈ ys, PyData.strOk y = true) → RpL K H (ys.map D.str) (ys.map V.str)
  | [], _ => by simp only [List.map_nil, RpL]
  | y :: ys, h => by
    simp only [List.map_cons, RpL]
    exact ⟨.str y, _, rfl, by simp only [Rp, true_and]; exact h y List.mem_cons_self, RpL.strs fun z hz => h z (List.mem_cons_of_mem _ hz)⟩
section
variable {X : Cx} {Γ Γ' : Gm} {out : List D} {e : Expr} {p pos : Pos} {xs : List Str}
theorem de_srtX (hc : X.calm = true) (h : PE X e (rdX X.w X.K Γ out Γ')) (hx : strsD out = some xs) (hg : Gl X "sorted") (hm : X.mg "sorted" = none) (hst : starEach [e] X.env = [(false, eval e X.env)]) :
    DE X (.Call (.Name "sorted" p) [e] [] pos) Γ (.new (.lst ((sortU ltS xs).map D.str))) Γ' := by
  refine pe_sub (pe_callB (cr_sortX hc) hg hm (by decide +kernel) (pa_cons h pa_nil hst) (by decide) (by decide) hst rfl) fun σ H Q q => ⟨q.1, fun D S n H1 s1 hD hS hall nc hn => ⟨D, S, n, rfl, hD, fun ys a so nd me ha => ?_⟩⟩
  have ey : ys = sortU ltS xs := sortX_is so nd fun k => by rw [me k, hS k, strsD_mem hx]
  subst ey
  have sm := same_new (o := .lst ((sortU ltS xs).map V.str)) ha
  have s2 := Ste.same s1.env sm
  refine q.2 _ _ (s1.trans s2) ⟨a, rfl, ⟨_, upd_same, RpL.strs fun y hy => ?_⟩, fun c => ?_⟩ fun b eb => .inr ?_
  · have := (strsD_mem hx y).2 ((sortU_mem y xs).1 hy)
    obtain ⟨z, hz, ok⟩ := hall _ this
    cases hz
    exact ok
  · obtain ⟨u, hu, _⟩ := s1.env.cellMut c
    rw [ha] at hu
    cases hu
  · cases eb
    exact s1.live a ha
end
end Sv

namespace Sv
open PySem PySem.Spec PyProof.Rows L2
/-! a dict comprehension -/
def dcompL (vs : List Nat) (fg : D → Gm → Option Gm) (ft : Gm → Option (Bool × Gm)) (fk fe : Gm → Option (D × Gm)) : List D → List (Key × D) → Gm → Option (List (Key × D) × Gm)
  | [], acc, Γ => some (acc, Γ)
  | d :: ds, acc, Γ => match fg d Γ with
    | none => none
    | some Γ1 => match ft Γ1 with
      | none => none
      | some (false, Γ2) => dcompL vs fg ft fk fe ds acc (wipeG Γ2 vs)
      | some (true, Γ2) => match fk Γ2 with
        | none => none
        | some (kd, Γ3) => match fe Γ3 with
          | none => none
          | some (e, Γ4) => match keyOfD kd with
            | none => none
            | some k => if acc.length < 1000000 then dcompL vs fg ft fk fe ds (putD acc k e) (wipeG Γ4 vs) else none
section
variable {K : PySem.W.Frag} {Γ Γ1 Γe : Gm} {ds : List D} {out : List (Key × D)} {vs sl : List Nat} {fg : D → Gm → Option Gm} {ft : Gm → Option (Bool × Gm)} {fk fe : Gm → Option (D × Gm)}
theorem dc_reads (hcomp : dcompL vs fg ft fk fe ds [] (wipeG Γ1 vs) = some (out, Γe)) (nio : ∀ j ∈ vs, ∀ d, Γ1[j]? ≠ some (.io d)) (hsl : ∀ j ∈ sl, j ∈ vs) (σ : L2.St) (H : Hp) (Q : VK) (q : rdE K Γ (.new (.dK out)) (restore Γ1 Γe vs) σ H Q) :
    tDc (rdI K Γ ds Γ1) (fun v σ H Q => ∃ d Γ Γ1, fg d Γ = some Γ1 ∧ rdG K sl Γ d Γ1 v σ H Q) (fun σ H Q => ∃ Γ b Γ1, ft Γ = some (b, Γ1) ∧ rdT K Γ b Γ1 σ H Q) (fun σ H Q => ∃ Γ d Γ1, fk Γ = some (d, Γ1) ∧ rdE K Γ (.val d) Γ1 σ H Q) (fun σ H Q => ∃ Γ d Γ1, fe Γ = some (d, Γ1) ∧ rdE K Γ (.val d) Γ1 σ H Q) vs σ H Q := by
  refine ⟨q.1, fun J S H1 s1 wk sH => fun D hD => ?_⟩
  have sm1 := same_new (o := .dK []) hD
  have l1 : σ.length = Γ1.length := s1.env.len
  -- the start within
  have W0 : Ste K (wipeG Γ1 vs) (wipe σ vs) H1 (wipeG Γ1 vs) (wipe σ vs) (upd H1 D (.dK [])) := Ste.same ((Ste.refl s1.env).wiped nio).env sm1
  refine ⟨fun i m H' => i + m = ds.length ∧ S H' ∧ ∃ Γ' acc ws, dcompL vs fg ft fk fe (ds.drop i) acc Γ' = some (out, Γe) ∧ Ste K (wipeG Γ1 vs) (wipe σ vs) H1 Γ' (wipe σ vs) H' ∧ ¬ Cell Γ' (wipe σ vs) D ∧ H' D = some (.dK ws) ∧ RpK K H' acc ws,
    ⟨ds.length, by omega, wk.per _ _ sH (Per.of_same sm1), wipeG Γ1 vs, [], [], hcomp, W0, fun c => ?_, upd_same, by simp only [RpK]⟩, fun i m H' hw => ?_⟩
  · obtain ⟨u, hu, _⟩ := s1.env.cellMut (cell_wipe c)
    rw [hD] at hu
    cases hu
  obtain ⟨him, sH', Γ', acc, ws, hf, A, nc, hws, rp⟩ := hw
  by_cases hi : i < ds.length
  · right
    refine ⟨wk.go i H' sH' hi, ?_⟩
    rw [List.drop_eq_getElem_cons hi] at hf
    simp only [dcompL] at hf
    cases hgd : fg ds[i] Γ' with
    | none => rw [hgd] at hf; cases hf
    | some Γ3 =>
      rw [hgd] at hf
      simp only at hf
      cases hbd : ft Γ3 with
      | none => rw [hbd] at hf; cases hf
      | some p =>
        obtain ⟨b, Γ4⟩ := p
        rw [hbd] at hf
        refine ⟨fun H'' => ∃ m', m' < m ∧ (i + 1) + m' = ds.length ∧ S H'' ∧ ∃ Γ' acc ws, dcompL vs fg ft fk fe (ds.drop (i + 1)) acc Γ' = some (out, Γe) ∧ Ste K (wipeG Γ1 vs) (wipe σ vs) H1 Γ' (wipe σ vs) H'' ∧ ¬ Cell Γ' (wipe σ vs) D ∧ H'' D = some (.dK ws) ∧ RpK K H'' acc ws,
          fun H'' hh => hh, fun x H2 hy => ?_⟩
        obtain ⟨sm, d, hd, rpd⟩ := wk.yld i H' x H2 sH' hy hi
        have ed : ds[i] = d := by rw [List.getElem?_eq_getElem hi] at hd; injection hd
        have s2 : Ste K Γ' (wipe σ vs) H' Γ' (wipe σ vs) H2 := Ste.same A.env sm
        have lw : (wipe σ vs).length = Γ'.length := by rw [A.gl, wipeG_length, wipe_length]; exact l1
        refine ⟨d, Γ', Γ3, by rw [← ed]; exact hgd, s2.env, lw, rpd, fun σ3 s3 ag => ?_⟩
        have wag : wipe σ3 vs = wipe σ vs := wipe_agree (by rw [s3.sl, wipe_length]) hsl ag
        refine ⟨wag, Γ3, b, Γ4, hbd, s3.env, fun H4 s4 => ?_⟩
        have B := (A.trans s2).trans (s3.trans s4)
        have sH4 : S H4 := wk.per H' H4 sH' (Per.trans (Per.of_same sm) (s3.trans s4).per)
        have nio' : ∀ j ∈ vs, ∀ d, (wipeG Γ1 vs)[j]? ≠ some (.io d) := fun j z d e => by have := wipeG_in z e; cases this
        have hD' : H4 D = some (.dK ws) := (s2.trans (s3.trans s4)).keep D _ hws nc
        have nc4 : ¬ Cell Γ4 σ3 D := (s2.trans (s3.trans s4)).noCell hws nc
        have rp4 : RpK K H4 acc ws := RpK.per (s2.trans (s3.trans s4)).per _ _ rp
        cases b with
        | false =>
          dsimp only
          rw [if_neg (by decide)]
          simp only at hf
          refine ⟨m - 1, by omega, by omega, sH4, wipeG Γ4 vs, acc, ws, hf, ?_, ?_, hD', rp4⟩
          · rw [← wag]
            have C := B.wiped (vs := vs) nio'
            rw [wag] at C ⊢
            exact C
          · rw [← wag]
            exact fun c => nc4 (cell_wipe c)
        | true =>
          dsimp only
          rw [if_pos rfl]
          simp only at hf
          cases hkd : fk Γ4 with
          | none => rw [hkd] at hf; cases hf
          | some p =>
            obtain ⟨kd, Γ5⟩ := p
            rw [hkd] at hf
            simp only at hf
            refine ⟨Γ4, kd, Γ5, hkd, B.env, fun y H5 s5 p5 o5 => ?_⟩
            cases hed : fe Γ5 with
            | none => rw [hed] at hf; cases hf
            | some p =>
              obtain ⟨e, Γ6⟩ := p
              rw [hed] at hf
              simp only at hf
              refine ⟨Γ5, e, Γ6, hed, s5.env, fun z H6 s6 p6 o6 => ?_⟩
              cases hkk : keyOfD kd with
              | none => rw [hkk] at hf; cases hf
              | some k =>
                rw [hkk] at hf
                simp only at hf
                by_cases lt : acc.length < 1000000
                · rw [if_pos lt] at hf
                  have s56 := s5.trans s6
                  have hD5 : H6 D = some (.dK ws) := s56.keep D _ hD' nc4
                  have nc5 : ¬ Cell Γ6 σ3 D := s56.noCell hD' nc4
                  have C := (B.trans s56).wiped (vs := vs) nio'
                  rw [wag] at C
                  have ncw : ¬ Cell (wipeG Γ6 vs) (wipe σ vs) D := by
                    rw [← wag]
                    exact fun c => nc5 (cell_wipe c)
                  obtain ⟨C', pr⟩ := C.updNew (u' := .dK (putK ws k z)) hD hD5 id ncw
                  refine ⟨ws, k, keyOfD_v hkk (.inl p5), hD5, ?_, m - 1, by omega, by omega, wk.per _ _ sH4 (s56.per.trans pr), wipeG Γ6 vs, putD acc k e, putK ws k z, hf, C', ncw, upd_same, ?_⟩
                  · rw [rp4.length]
                    exact Nat.lt_of_lt_of_le lt (by decide)
                  · exact (RpK.per (s56.per.trans pr) _ _ rp4).put (Rp.per pr _ _ p6)
                · rw [if_neg lt] at hf
                  cases hf
  · left
    refine ⟨wk.stop i H' sH' (by omega), ?_⟩
    rw [List.drop_eq_nil_of_le (by omega)] at hf
    simp only [dcompL, Option.some.injEq, Prod.mk.injEq] at hf
    obtain ⟨rfl, rfl⟩ := hf
    have R := Ste.restored s1.env A nio
    refine q.2 (.ref D) H' (s1.trans R) ⟨D, rfl, ⟨ws, hws, rp⟩, ?_⟩ fun a ea => .inr ?_
    · intro c
      rcases R.sub D c with c | c
      · obtain ⟨u, hu, _⟩ := s1.env.cellMut c
        rw [hD] at hu
        cases hu
      · -- a slot outside vs whose cell is D
        obtain ⟨j, e, hj, hb⟩ := ‹Cell (restore Γ1 Γ' vs) σ D›
        by_cases z : j ∈ vs
        · have hj1 : Own Γ1 j e := by
            unfold Own at hj ⊢
            rw [restore_in (by rw [A.gl, wipeG_length]) z] at hj
            exact hj
          obtain ⟨u, hu, _⟩ := s1.env.cellMut ⟨j, e, hj1, hb⟩
          rw [hD] at hu
          cases hu
        · have hje : Own Γ' j e := by
            unfold Own at hj ⊢
            rw [restore_out z] at hj
            exact hj
          exact nc ⟨j, e, hje, by rw [wipe_out z]; exact hb⟩
    · cases ea
      exact s1.live D hD
end
section
variable {X : Cx} {Γ Γ1 Γ2 Γ3 Γe : Gm} {ds : List D} {out : List (Key × D)} {sl : List Nat} {fg : D → Gm → Option Gm} {ft : Gm → Option (Bool × Gm)} {fk fe : Gm → Option (D × Gm)} {kx elt tg iter o e f : Expr} {ifs : List Expr} {scope : Scope} {own : List (Str × Nat)} {pos ap cp : Pos} {r1 r2 r3 : Rs} {d1 d2 d3 : D}
theorem de_dc (hc : X.calm = true) (hN : X.N.Nodup) (hi : DI X tg iter Γ ds Γ1) (ok : BlkOk X.N X.env.scope scope own)
    (hg : ∀ (s : Shared) (H : Hp) (C : Addr) (cl : List (Str × Addr)) (fp : List Addr) (d : D) (Γ Γ1 : Gm), fg d Γ = some Γ1 → DG (X.blk s H scope (compEnvC scope cl C X.env) fp) tg sl Γ d Γ1)
    (ht : ∀ (s : Shared) (H : Hp) (C : Addr) (cl : List (Str × Addr)) (fp : List Addr) (Γ : Gm) (b : Bool) (Γ1 : Gm), ft Γ = some (b, Γ1) → PTs (X.blk s H scope (compEnvC scope cl C X.env) fp) ifs (rdT X.K Γ b Γ1))
    (hk : ∀ (s : Shared) (H : Hp) (C : Addr) (cl : List (Str × Addr)) (fp : List Addr) (Γ : Gm) (d : D) (Γ1 : Gm), fk Γ = some (d, Γ1) → DE (X.blk s H scope (compEnvC scope cl C X.env) fp) kx Γ (.val d) Γ1)
    (he : ∀ (s : Shared) (H : Hp) (C : Addr) (cl : List (Str × Addr)) (fp : List Addr) (Γ : Gm) (d : D) (Γ1 : Gm), fe Γ = some (d, Γ1) → DE (X.blk s H scope (compEnvC scope cl C X.env) fp) elt Γ (.val d) Γ1)
    (hs : ∀ x, foldedSetIterable iter X.env x = pure x) (hcomp : dcompL (own.map (·.2)) fg ft fk fe ds [] (wipeG Γ1 (own.map (·.2))) = some (out, Γe)) (nio : ∀ j ∈ own.map (·.2), ∀ d, Γ1[j]? ≠ some (.io d)) (hsl : ∀ j ∈ sl, j ∈ own.map (·.2)) :
    DE X (.DictComp kx elt [⟨tg, iter, ifs, 0⟩] scope pos) Γ (.new (.dK out)) (restore Γ1 Γe (own.map (·.2))) :=
  pe_sub (pe_dc hc hN hi ok (fun s H C cl fp => ⟨fun pins s' σ H' v u Q I r q => by obtain ⟨d, Γ, Γ1, e, q⟩ := q; exact (hg s H C cl fp d Γ Γ1 e).run pins s' σ H' v u Q I r q⟩)
    (fun s H C cl fp => ⟨fun pins s' σ H' Q I q => by obtain ⟨Γ, d, Γ1, e, q⟩ := q; exact (ht s H C cl fp Γ d Γ1 e).run pins s' σ H' Q I q⟩)
    (fun s H C cl fp => ⟨fun pins s' σ H' Q I q => by obtain ⟨Γ, d, Γ1, e, q⟩ := q; exact (hk s H C cl fp Γ d Γ1 e).run pins s' σ H' Q I q⟩)
    (fun s H C cl fp => ⟨fun pins s' σ H' Q I q => by obtain ⟨Γ, d, Γ1, e, q⟩ := q; exact (he s H C cl fp Γ d Γ1 e).run pins s' σ H' Q I q⟩) hs) fun σ H Q q => dc_reads hcomp nio hsl σ H Q q
/-- {} -/
theorem de_dnew : DE X (.Dict [] [] pos) Γ (.new (.dK [])) Γ :=
  pe_sub pe_dnewK fun σ H Q q p hp => by
    have sm := same_new (o := .dK []) hp
    refine q.2 _ _ (Ste.same q.1 sm) ⟨p, rfl, ⟨[], upd_same, by simp only [RpK]⟩, fun c => ?_⟩ fun b eb => .inr ?_
    · obtain ⟨u, hu, _⟩ := q.1.cellMut c
      rw [hp] at hu
      cases hu
    · cases eb
      exact hp
/-- d.get(k, f) -/
def getD2 : D → D → D → Option D
  | .dK kvs, k, f => match keyOfD k with
    | some k => some ((valD kvs k).getD f)
    | none => none
  | _, _, _ => none
theorem RpR.isD {K : PySem.W.Frag} {H : Hp} {kvs : List (Key × D)} {v : V} (h : RpR K H (.dK kvs) v) : ∃ a, v = .ref a ∧ IsD H a := by
  obtain ⟨a, ws, e, hr, _⟩ := h.dk
  exact ⟨a, e, .inl ⟨ws, hr⟩⟩
theorem de_get2 {kv1 : List (Key × D)} {d : D} (hu : X.A.units + 65 < cLine) (ho : DE X o Γ r1 Γ1) (hr0 : readR r1 Γ1 = some (.dK kv1)) (he : DE X e Γ1 r2 Γ2) (hf : DE X f Γ2 (.val d3) Γ3) (hr1 : readR r1 Γ3 = some d1) (hr2 : readR r2 Γ3 = some d2) (hd : getD2 d1 d2 d3 = some d) (m : M2 X o "get" ap e f cp) :
    DE X (.Call (.Attribute o "get" ap) [e, f] [] cp) Γ (.val d) Γ3 := by
  refine pe_sub (pe_dget2 (by omega) ho he hf m) fun σ H Q q => ⟨q.1, fun x H1 s1 p1 o1 => ?_⟩
  obtain ⟨a, ex, isd⟩ := (read_ok s1.env p1 hr0).isD
  subst ex
  refine ⟨a, rfl, isd, s1.env, fun y H2 s2 p2 o2 => ⟨s2.env, fun z H3 s3 p3 o3 => ?_⟩⟩
  have k1 := read_ok s3.env ((p1.ste s2).ste s3) hr1
  have k2 := read_ok s3.env (p2.ste s3) hr2
  unfold getD2 at hd
  split at hd
  · rename_i kvs
    split at hd
    · next k hk =>
      cases hd
      obtain ⟨b, ws, eb, hr, hw⟩ := k1.dk
      cases eb
      refine ⟨_, .inl ⟨ws, k, hr, keyOfD_v hk k2, rfl⟩, q.2 _ H3 ((s1.trans s2).trans s3) ?_ trivial⟩
      cases hv : valD kvs k with
      | none => rw [hw.val.2 hv]; exact p3
      | some d => obtain ⟨v, g1, g2⟩ := hw.val.1 d hv; rw [g1]; exact g2
    · cases hd
  · cases hd
end
end Sv

namespace Tx
open PySem
open Sem (wp)
open AutoSeq1 (wpAny_loadPart')
section
variable {prog : Program} {w : World} {A : Around} {E : Value → Shared → Prop} {s : Shared}
theorem wpAny_nextOf_list_itemT {it l : Addr} {i : Nat} {items} {x : Value} {Q : Value → Shared → Prop} (hit : s.heap.IsTupleIter it l i)
    (hl : s.heap.IsTuple l items) (hx : items[i]? = some x)
    (hQ : ∀ h', h'.IsTupleIter it l (i + 1) → Heap.SameBut it s.heap h' → Q x { s with heap := h' }) :
    wpAny (model prog w) A (Builtin.SmallTypes.nextOf (.ref it)) Q E s := by
  obtain ⟨o, ho, hc, hd⟩ := id hit
  obtain ⟨ol, hol, _, nl, hdl⟩ := hl
  unfold Builtin.SmallTypes.nextOf
  refine wpAny_bind (wpAny_callSpecial?_slot (name := Str.ofString "__next__") hit.typeIs F.slot_tuple_iterator_next
    (wpAny_call_entry F.slot_tuple_iterator_next hit.typeIs F.entry_tuple_iterator_next ?_ (F.args_tuple_iterator_next_1 _)))
  show wpAny _ _ (field (.ref it) 0 >>= _) _ _ s
  refine wpAny_bind (wpAny_field ho hd (x := .ref l) rfl ?_)
  show wpAny _ _ (if (Value.ref l == Value.none) = true then _ else _) _ _ s
  rw [if_neg (show ¬ ((Value.ref l == Value.none) = true) from Bool.false_ne_true)]
  show wpAny _ _ (field (.ref it) 1 >>= _) _ _ s
  refine wpAny_bind (wpAny_field ho hd (x := .int i 0) rfl ?_)
  show wpAny _ _ (seqItems? (.ref l) >>= _) _ _ s
  refine wpAny_bind (wpAny_seqItems hol hdl ?_)
  simp only [Int.toNat_natCast, hx]
  refine wpAny_bind (wpAny_setField ho hd (by simp) (wpAny_pure ⟨x, rfl, wpAny_pure (hQ _ ?_ (Heap.SameBut.update ..))⟩))
  exact ⟨_, Heap.get?_update_self _ ho (Obj.isFreed_of_fields (Obj.data_mapFields hd _)), (Obj.cls_mapFields ..).trans hc, by
    rw [Obj.data_mapFields hd]; simp [rawInt]⟩

theorem wpAny_nextOf_list_endT {it l : Addr} {i : Nat} {items} {Q : Value → Shared → Prop} (hh : A.handled = none)
    (hit : s.heap.IsTupleIter it l i) (hl : s.heap.IsTuple l items) (hx : items[i]? = none)
    (hE : ∀ h' e, Heap.ExtBut it s.heap h' → (∃ o, h'.get? e = some o ∧ o.cls = .type "StopIteration") → E (.ref e) { s with heap := h' }) :
    wpAny (model prog w) A (Builtin.SmallTypes.nextOf (.ref it)) Q E s := by
  obtain ⟨o, ho, hc, hd⟩ := id hit
  obtain ⟨ol, hol, _, nl, hdl⟩ := hl
  unfold Builtin.SmallTypes.nextOf
  refine wpAny_bind (wpAny_callSpecial?_slot (name := Str.ofString "__next__") hit.typeIs F.slot_tuple_iterator_next
    (wpAny_call_entry F.slot_tuple_iterator_next hit.typeIs F.entry_tuple_iterator_next ?_ (F.args_tuple_iterator_next_1 _)))
  show wpAny _ _ (field (.ref it) 0 >>= _) _ _ s
  refine wpAny_bind (wpAny_field ho hd (x := .ref l) rfl ?_)
  show wpAny _ _ (if (Value.ref l == Value.none) = true then _ else _) _ _ s
  rw [if_neg (show ¬ ((Value.ref l == Value.none) = true) from Bool.false_ne_true)]
  show wpAny _ _ (field (.ref it) 1 >>= _) _ _ s
  refine wpAny_bind (wpAny_field ho hd (x := .int i 0) rfl ?_)
  show wpAny _ _ (seqItems? (.ref l) >>= _) _ _ s
  refine wpAny_bind (wpAny_seqItems hol hdl ?_)
  simp only [Int.toNat_natCast, hx]
  refine wpAny_bind (wpAny_rule (wpAny_bind (wpAny_setField ho hd (by simp) ?_)))
  show wpAny _ _ (newExc (.type "StopIteration") [] >>= _) _ _ _
  refine wpAny_bind ?_
  simp only [newExc, newTuple]
  refine wpAny_bind (wpAny_newObj_type ?_ (by size_fits))
  refine wpAny_bind (m := firstArgMember _ _) (wpAny_of_eq (a := Value.none) (by first | rfl | (simp only [firstArgMember]; rfl)) ?_)
  refine wpAny_newObj_type ?_ (by size_fits)
  simp only [raiseNew]
  refine wpAny_bind (wpAny_handled ?_)
  first | rw [show A.in1.handled = none from hh] | rw [hh]
  refine wpAny_bind (wpAny_pure (wpAny_throw ?_))
  exact hE _ _ (((Heap.SameBut.update ..).extBut.push _).push _) ⟨_, Heap.get?_push_size _ rfl, rfl⟩

theorem enumerate_next_itemT {e it l : Addr} {i : Nat} {items : Array Value} {x old : Value} {Q : Value → Shared → Prop}
    (he : IsEnum s.heap e it i old) (hit : s.heap.IsTupleIter it l i) (hl : s.heap.IsTuple l items) (hx : items[i]? = some x) (hne : e ≠ it)
    (hQ : ∀ h', IsEnumOut h' e it ((i : Int) + 1) x s.heap.objs.size → h'.IsTupleIter it l (i + 1) →
      h'.get? s.heap.objs.size = some { cls := .type "tuple", data := .seq #[.int i s.toks, x] } → h'.objs.size = s.heap.objs.size + 1 →
      (∀ b o, b ≠ e → b ≠ it → s.heap.get? b = some o → h'.get? b = some o) → Q (.ref s.heap.objs.size) { s with heap := h', toks := s.toks + 1 }) :
    wpAny (model prog w) A (Builtin.«enumerate.__next__» ⟨[.ref e], []⟩) (fun fin s' => ∃ v, fin = .done (.ret v) ∧ Q v s') E s := by
  obtain ⟨hp, g, d, tk, os⟩ := s
  show wpAny _ _ (field (.ref e) 2 >>= _) _ _ _
  refine wpAny_bind (wpAny_field he rfl (x := .ref it) rfl ?_)
  refine wpAny_bind (wpAny_nextOf_list_itemT hit hl hx fun h₁ hit₁ hs₁ => ?_)
  replace hs₁ : Heap.SameBut it hp h₁ := hs₁
  have he₁ : IsEnum h₁ e it i old := (hs₁.2 e hne).trans he
  show wpAny _ _ (field (.ref e) 3 >>= _) _ _ ⟨h₁, g, d, tk, os⟩
  refine wpAny_bind (wpAny_field he₁ rfl (x := rawInt i) rfl ?_)
  show wpAny _ _ (field (.ref e) 4 >>= _) _ _ ⟨h₁, g, d, tk, os⟩
  refine wpAny_bind (wpAny_field he₁ rfl (x := .none) rfl ?_)
  show wpAny _ _ (mkInt i >>= _) _ _ ⟨h₁, g, d, tk, os⟩
  refine wpAny_bind (wpAny_mkInt ?_)
  show wpAny _ _ (setField (.ref e) 3 (rawInt ((i : Int) + 1)) >>= _) _ _ ⟨h₁, g, d, tk + 1, os⟩
  refine wpAny_bind (wpAny_setField_rec he₁ (by simp) fun h₂ he₂ hs₂ => ?_)
  replace hs₂ : Heap.SameBut e h₁ h₂ := hs₂
  replace he₂ : IsEnum h₂ e it ((i : Int) + 1) old := he₂
  show wpAny _ _ (setField (.ref e) 4 .none >>= _) _ _ ⟨h₂, g, d, tk + 1, os⟩
  refine wpAny_bind (wpAny_setField_rec he₂ (by simp) fun h₃ he₃ hs₃ => ?_)
  replace hs₃ : Heap.SameBut e h₂ h₃ := hs₃
  replace he₃ : IsEnum h₃ e it ((i : Int) + 1) old := he₃
  show wpAny _ _ (newTuple [.int i tk, x] >>= _) _ _ ⟨h₃, g, d, tk + 1, os⟩
  refine wpAny_bind (wpAny_newTuple ?_)
  have he₄ : IsEnum (h₃.push { cls := .type "tuple", data := .seq #[.int i tk, x] }) e it ((i : Int) + 1) old := Heap.get?_push_of_some _ he₃
  generalize hh₄ : h₃.push { cls := .type "tuple", data := .seq #[.int i tk, x] } = h₄ at he₄
  have hsz : h₃.objs.size = hp.objs.size := by rw [hs₃.1, hs₂.1, hs₁.1]
  have hel : e < hp.objs.size := Heap.lt_size he
  have ht₄ : h₄.get? hp.objs.size = some { cls := .type "tuple", data := .seq #[.int i tk, x] } := by rw [← hh₄, ← hsz]; exact Heap.get?_push_size _ rfl
  have hz₄ : h₄.objs.size = hp.objs.size + 1 := by rw [← hh₄, Heap.size_push, hsz]
  have hk₄ : ∀ b o, b ≠ e → b ≠ it → hp.get? b = some o → h₄.get? b = some o := fun b o hbe hbi hb => by
    rw [← hh₄]; exact Heap.get?_push_of_some _ (hs₃.extBut b o hbe (hs₂.extBut b o hbe (hs₁.extBut b o hbi hb)))
  have hit₄ : h₄.IsTupleIter it l (i + 1) := by
    rw [← hh₄]; obtain ⟨o, ho, r⟩ := (hit₁.extBut hs₂.extBut (Ne.symm hne)).extBut hs₃.extBut (Ne.symm hne); exact ⟨o, Heap.get?_push_of_some _ ho, r⟩
  show wpAny _ _ (Builtin.SmallTypes.ownedTupleIsFree (.ref e) >>= _) _ _ ⟨h₄, g, d, tk + 1, os⟩
  rw [hsz]
  clear hh₄ he₃ hs₃ he₂ hs₂ he₁ hs₁ hit₁ hsz h₃ h₂ h₁
  refine wpAny_bind ?_
  · unfold Builtin.SmallTypes.ownedTupleIsFree
    refine wpAny_bind (wpAny_field he₄ rfl (x := .none) rfl (wpAny_pure ?_))
    simp only [if_true]
    refine wpAny_bind (wpAny_rule ?_)
    refine wpAny_bind (wpAny_field he₄ rfl (x := old) rfl ?_)
    refine wpAny_bind (wpAny_setField_rec he₄ (by simp) fun h₅ he₅ hs₅ => ?_)
    replace hs₅ : Heap.SameBut e h₄ h₅ := hs₅
    replace he₅ : IsEnum h₅ e it ((i : Int) + 1) x := he₅
    show wpAny _ _ (Builtin.SmallTypes.ownedTupleHandOut (.ref e) (.ref hp.objs.size) >>= _) _ _ ⟨h₅, g, d, tk + 1, os⟩
    refine wpAny_bind ?_
    · unfold Builtin.SmallTypes.ownedTupleHandOut
      refine wpAny_bind (wpAny_setField_rec he₅ (by simp) fun h₆ he₆ hs₆ => ?_)
      replace hs₆ : Heap.SameBut e h₅ h₆ := hs₆
      replace he₆ : IsEnumOut h₆ e it ((i : Int) + 1) x hp.objs.size := he₆
      refine wpAny_setField_rec he₆ (by simp) fun h₇ he₇ hs₇ => ?_
      replace hs₇ : Heap.SameBut e h₆ h₇ := hs₇
      replace he₇ : IsEnumOut h₇ e it ((i : Int) + 1) x hp.objs.size := he₇
      refine wpAny_bind (wpAny_letGo (wpAny_pure ⟨_, rfl, hQ h₇ he₇ ?_ ?_ ?_ ?_⟩))
      · exact ((hit₄.extBut hs₅.extBut (Ne.symm hne)).extBut hs₆.extBut (Ne.symm hne)).extBut hs₇.extBut (Ne.symm hne)
      · exact hs₇.extBut _ _ (Nat.ne_of_gt hel) (hs₆.extBut _ _ (Nat.ne_of_gt hel) (hs₅.extBut _ _ (Nat.ne_of_gt hel) ht₄))
      · rw [hs₇.1, hs₆.1, hs₅.1, hz₄]
      · exact fun b o hbe hbi hb => hs₇.extBut b o hbe (hs₆.extBut b o hbe (hs₅.extBut b o hbe (hk₄ b o hbe hbi hb)))

theorem wpAny_pyNext_enum_itemT {e it l : Addr} {i : Nat} {items : Array Value} {x old : Value} {Q : Option Value → Shared → Prop}
    (he : IsEnum s.heap e it i old) (hit : s.heap.IsTupleIter it l i) (hl : s.heap.IsTuple l items) (hx : items[i]? = some x) (hne : e ≠ it)
    (hQ : ∀ h', IsEnumOut h' e it ((i : Int) + 1) x s.heap.objs.size → h'.IsTupleIter it l (i + 1) →
      h'.get? s.heap.objs.size = some { cls := .type "tuple", data := .seq #[.int i s.toks, x] } → h'.objs.size = s.heap.objs.size + 1 →
      (∀ b o, b ≠ e → b ≠ it → s.heap.get? b = some o → h'.get? b = some o) → Q (some (.ref s.heap.objs.size)) { s with heap := h', toks := s.toks + 1 }) :
    wpAny (model prog w) A (pyNext (.ref e)) Q E s := by
  have hT : s.TypeIs (.ref e) "enumerate" := ⟨_, he, rfl⟩
  unfold pyNext
  exact wpAny_bind (wpAny_attempt (wpAny_callSpecial?_slot (name := Str.ofString "__next__") hT F.slot_enumerate_next
    (wpAny_call_entry F.slot_enumerate_next hT F.entry_enumerate_next
      (enumerate_next_itemT he hit hl hx hne fun h' a b c d k => wpAny_pure (hQ h' a b c d k)) (F.args_enumerate_next_1 _))))

theorem wpAny_pyNext_enum_endT {e it l : Addr} {i : Nat} {items : Array Value} {old : Value} {Q : Option Value → Shared → Prop} (hh : A.handled = none)
    (he : IsEnum s.heap e it i old) (hit : s.heap.IsTupleIter it l i) (hl : s.heap.IsTuple l items) (hx : items[i]? = none)
    (hQ : ∀ h', Heap.ExtBut it s.heap h' → Q none { s with heap := h' }) : wpAny (model prog w) A (pyNext (.ref e)) Q E s := by
  have hT : s.TypeIs (.ref e) "enumerate" := ⟨_, he, rfl⟩
  unfold pyNext
  refine wpAny_bind (wpAny_attempt (wpAny_callSpecial?_slot (name := Str.ofString "__next__") hT F.slot_enumerate_next
    (wpAny_call_entry F.slot_enumerate_next hT F.entry_enumerate_next ?_ (F.args_enumerate_next_1 _))))
  show wpAny _ _ (field (.ref e) 2 >>= _) _ _ _
  refine wpAny_bind (wpAny_field he rfl (x := .ref it) rfl ?_)
  refine wpAny_bind (wpAny_nextOf_list_endT hh hit hl hx fun h' x he' hx' => ?_)
  obtain ⟨o, ho, hc⟩ := hx'
  refine wpAny_bind (wpAny_isInstance (T := "StopIteration") (b := true) ⟨o, ho, hc⟩ isSubtype_stop ?_)
  exact wpAny_pure (hQ _ he')
theorem meets_enumerate_newLT (l : Addr) (items : Array Value) (n : Nat) (dct : Option Addr) (sl : Array (Option Value)) :
    Meets (Builtin.«enumerate.__new__» ⟨[.type "enumerate", .ref l], []⟩) (fun _ R s => s.heap.get? l = some { cls := .type "tuple", dict := dct, data := .seq items n, slots := sl } ∧
      R (.ok (.ret (.ref (s.heap.push { cls := .type "tuple_iterator", data := .fields #[.ref l, .int 0 0] }).objs.size)))
        { s with heap := (s.heap.push { cls := .type "tuple_iterator", data := .fields #[.ref l, .int 0 0] }).push { cls := .type "enumerate", data := .fields #[.none, .bool false, .ref s.heap.objs.size, rawInt 0, .none, .none] } }) :=
  .of_wp fun prog w A R s h => by
    obtain ⟨hp, g, d, tk, os⟩ := s; obtain ⟨hl, h⟩ := h
    have hsub := sub_enumerate
    have hL : Heap.IsTuple (Shared.heap ⟨hp, g, d, tk, os⟩) l items := ⟨_, hl, rfl, n, rfl⟩
    wp_walk using wpAny_loadPart' hl
    refine wpAny_stack_any fun st => wpAny_pure ?_
    split
    · rename_i c _ _ _ _ _
      cases (c == Value.type "enumerate")
      · wp_walk using wpAny_loadPart' hl, wpAny_pyIter_tuple hL
        exact ⟨_, rfl, h⟩
      · wp_walk using wpAny_loadPart' hl, wpAny_pyIter_tuple hL
        exact ⟨_, rfl, h⟩
    · wp_walk using wpAny_loadPart' hl, wpAny_pyIter_tuple hL
      exact ⟨_, rfl, h⟩

theorem call_enumerate_listT {l : Addr} {items : Array Value} {Q : Value → Shared → Prop} (hL : s.heap.IsTuple l items)
    (h : ∀ h', IsEnum h' (s.heap.objs.size + 1) s.heap.objs.size 0 .none → h'.IsTupleIter s.heap.objs.size l 0 → h'.objs.size = s.heap.objs.size + 2 →
      (∀ b o, s.heap.get? b = some o → h'.get? b = some o) → Q (.ref (s.heap.objs.size + 1)) { s with heap := h' }) :
    wpAny (model prog w) A (call (.type "enumerate") [.ref l]) Q E s := by
  obtain ⟨⟨c, dct, dt, sl⟩, hl, hc, n, hd⟩ := hL
  replace hc : c = .type "tuple" := hc
  replace hd : dt = .seq items n := hd
  subst hc hd
  refine callType_new F.called_enumerate (by decide) (F.typeCall_enumerate_1 _) (F.newCall_enumerate_1 _) (fun obj => F.args_object_init_2 obj _) F.entry_enumerate_new
    (meets_enumerate_newLT l items n dct sl) ⟨hl, ?_⟩
  have hz : (s.heap.push { cls := .type "tuple_iterator", data := .fields #[.ref l, .int 0 0] }).objs.size = s.heap.objs.size + 1 := Heap.size_push ..
  show _ ∧ _
  rw [hz]
  have he : IsEnum ((s.heap.push { cls := .type "tuple_iterator", data := .fields #[.ref l, .int 0 0] }).push
      { cls := .type "enumerate", data := .fields #[.none, .bool false, .ref s.heap.objs.size, rawInt 0, .none, .none] }) (s.heap.objs.size + 1) s.heap.objs.size 0 .none := by
    have := Heap.get?_push_size (s.heap.push { cls := .type "tuple_iterator", data := .fields #[.ref l, .int 0 0] })
      (o := { cls := .type "enumerate", data := .fields #[.none, .bool false, .ref s.heap.objs.size, rawInt 0, .none, .none] }) rfl
    rw [hz] at this; exact this
  refine ⟨⟨_, he, rfl⟩, h _ he ⟨_, Heap.get?_push_of_some _ (Heap.get?_push_size _ rfl), rfl, rfl⟩ (by rw [Heap.size_push, hz]) fun b o x => Heap.get?_push_of_some _ (Heap.get?_push_of_some _ x)⟩

end
end Tx
namespace Tx
open PySem PySem.Spec PyProof.Rows L2
def IteT (K : PySem.W.Frag) (a : Addr) : It :=
  ⟨fun i H => ∃ (xs : List V) (x : V), SqT K H a xs ∧ xs[i]? = some x, fun i H v H' => ∃ T x, v = .ref T ∧ H T = none ∧ H' = upd H T (.tup [.int (i : Nat), x]) ∧ ∀ xs, SqT K H a xs → xs[i]? = some x, fun i H => ∃ xs : List V, SqT K H a xs ∧ xs.length ≤ i⟩
theorem turn_enumT {P : Program} {w : World} {K : PySem.W.Frag} {elts : List Expr} {kk : Nat} {tpos : Pos} (a e it : Addr) :
    Turn P w K (.Tuple elts kk tpos) (IteT K a) [e, it] e (fun i h => (∃ old, IsEnum h e it ((i : Nat) : Int) old) ∧ h.IsTupleIter it a i ∧ e ≠ it) where
  mem := by simp
  obj := fun i h st b hb => by
    obtain ⟨⟨old, he⟩, ⟨o, ho, hc, hd⟩, _⟩ := st
    have e' : b = e ∨ b = it := by simpa using hb
    rcases e' with z | z
    · rw [z]; exact ⟨_, he, fun v q => nomatch q⟩
    · rw [z]; exact ⟨o, ho, fun v q => by rw [hd] at q; cases q⟩
  keep := fun i h h' st k => let ⟨⟨old, he⟩, hi, hne⟩ := st; ⟨⟨old, k e (by simp) _ he⟩, hi.at fun o q => k it (by simp) o q, hne⟩
  item := by
    intro X hP hw hK hc i pins s σ H E I hf st hg
    subst hP hw hK
    obtain ⟨⟨old, he⟩, hit, hne⟩ := st
    obtain ⟨xs, x, hq, hx⟩ := hg
    obtain ⟨its, rv, p, hz⟩ := I.tuple hq
    obtain ⟨u, hu, ru⟩ := rv.get hx
    have hel : e < s.heap.objs.size := Heap.lt_size he
    have hil : it < s.heap.objs.size := by obtain ⟨_, q, _⟩ := hit; exact Heap.lt_size q
    refine wpAny_pyNext_enum_itemT he hit p (x := u) (by simpa using hu) hne fun h' ho hit' hT hsz hk => ?_
    refine ⟨_, rfl, wpAny_letOwnedTupleGo_enum (s := { s with heap := h', toks := s.toks + 1 }) ho fun h'' he' sb => ?_⟩
    have hT2 : h''.get? s.heap.objs.size = some { cls := .type "tuple", data := .seq #[.int i s.toks, u] } := (sb.2 _ (Nat.ne_of_gt hel)).trans hT
    have new : ObjOk X.prog X.w (upd H s.heap.objs.size (.tup [.int (i : Nat), x])) h'' s.heap.objs.size (.tup [.int (i : Nat), x]) :=
      ⟨by show 2 ≤ sizeLine; decide, [.int i s.toks, u], .cons ⟨_, rfl⟩ (.cons ru .nil), ⟨_, hT2, rfl, _, rfl⟩⟩
    have I1 : Inv X pins σ (upd H s.heap.objs.size (.tup [.int (i : Nat), x])) { s with heap := h'', toks := s.toks + 1 } :=
      I.turnedNew (ch := [e, it]) (fun b ob hb q => (sb.2 b (fun z => hb (by simp [z]))).trans (hk b ob (fun z => hb (by simp [z])) (fun z => hb (by simp [z])) q)) hf (Nat.le_refl _) new
    refine ⟨.ref s.heap.objs.size, _, I1, rfl, ⟨_, x, rfl, I.hok.fresh (Nat.le_refl _), rfl, fun ys hy => by rw [I.tuple_inj hy hq]; exact hx⟩, ⟨⟨u, ?_⟩, hit'.at fun o q => (sb.2 it (Ne.symm hne)).trans q, hne⟩, fun b hb => ?_⟩
    · have e1 : ((i + 1 : Nat) : Int) = (i : Int) + 1 := by omega
      rw [e1]; exact he'
    · have hb' : b < s.heap.objs.size := by
        have e' : b = e ∨ b = it := by simpa using hb
        rcases e' with z | z
        · rw [z]; exact hel
        · rw [z]; exact hil
      rw [upd_ne (Nat.ne_of_lt hb')]
      exact (hf b hb).1
  done := by
    intro X hP hw hK hc i pins s σ H E I hf st hg
    subst hP hw hK
    obtain ⟨⟨old, he⟩, hit, hne⟩ := st
    obtain ⟨xs, hq, hx⟩ := hg
    obtain ⟨its, rv, p, hz⟩ := I.tuple hq
    obtain ⟨f0, f1, f2, f3, f4, f5⟩ := hf it (by simp)
    have hl := rv.length
    exact wpAny_pyNext_enum_endT (I.ok.hd hc) he hit p (by simp; omega) fun h' eb => ⟨rfl, I.turned (t' := s.toks) (fun b o hb q => eb b o hb q) f0 f1 f3 f4 f5⟩
  self := fun A i s Q E st h => let ⟨⟨_, he⟩, _⟩ := st; wpAny_pyIter_enum he h
def iEnumT (K : PySem.W.Frag) (ta : TA) : TI := fun σ H R => ta σ H fun vs H1 => ∃ a xs, vs = [.ref a] ∧ SqT K H1 a xs ∧ R (IteT K a) H1
theorem pi_enumT {X : Cx} {e : Expr} {ta : TA} {p pos tpos : Pos} {elts : List Expr} {kk : Nat} (hg : Gl X "enumerate") (hm : X.mg "enumerate" = none) (ha : PA X [e] ta) (hs : starEach [e] X.env = [(false, eval e X.env)] := by rfl) :
    PI X (.Tuple elts kk tpos) (.Call (.Name "enumerate" p) [e] [] pos) (iEnumT X.K ta) := by
  refine ⟨fun pins s σ H R I h => ?_⟩
  refine Call_ (ld_blt I hg hm boot_enumerate (PyProof.Rows.callWith_type1 (thn (ha.run pos pins s σ H _ I h) fun us s1 ⟨vs, H1, I1, r1, q1⟩ => ?_) hs rfl))
  obtain ⟨a, xs, ex, hq, q⟩ := q1
  subst ex
  cases r1 with
  | cons r rr =>
    cases rr
    cases r
    obtain ⟨its, rv, p', hz⟩ := I1.tuple hq
    refine call_enumerate_listT p' fun h' he hit hsz hk => wpAny_pyIter_enum he ?_
    have I2 : Inv X pins σ H1 { s1 with heap := h' } := I1.kept (t' := s1.toks) hk
    refine ⟨s1.heap.objs.size + 1, [s1.heap.objs.size + 1, s1.heap.objs.size], _, _, H1, rfl, I2, turn_enumT a (s1.heap.objs.size + 1) s1.heap.objs.size, ⟨⟨.none, he⟩, hit, Nat.succ_ne_self _⟩, fun b hb => ?_, q⟩
    have e' : b = s1.heap.objs.size + 1 ∨ b = s1.heap.objs.size := by simpa using hb
    have hle : s1.heap.objs.size ≤ b := by
      rcases e' with z | z
      · rw [z]; exact Nat.le_add_right _ _
      · rw [z]; exact Nat.le_refl _
    exact I1.fpOk hle (I1.hok.fresh hle)
end Tx

namespace Tx
open PySem
open Sem (wp)
/-! zip(.., .., strict=True) -/
def IsIt (b : Bool) (h : Heap) (it l : Addr) (k : Nat) : Prop := if b = true then h.IsTupleIter it l k else h.IsListIter it l k
def IsSq (b : Bool) (h : Heap) (l : Addr) (xs : Array Value) : Prop := if b = true then h.IsTuple l xs else h.IsList l xs
theorem IsIt.extBut {b : Bool} {h h' : Heap} {a c t i} (x : IsIt b h a t i) (hs : Heap.ExtBut c h h') (hab : a ≠ c) : IsIt b h' a t i := by
  cases b
  · exact Heap.IsListIter.extBut (show h.IsListIter a t i from x) hs hab
  · exact Heap.IsTupleIter.extBut (show h.IsTupleIter a t i from x) hs hab
theorem IsIt.at {b : Bool} {h h' : Heap} {a t i} (x : IsIt b h a t i) (e : ∀ o, h.get? a = some o → h'.get? a = some o) : IsIt b h' a t i := by
  cases b
  · exact Heap.IsListIter.at (show h.IsListIter a t i from x) e
  · exact Heap.IsTupleIter.at (show h.IsTupleIter a t i from x) e
theorem IsIt.obj {b : Bool} {h : Heap} {a t i} (x : IsIt b h a t i) : ∃ o, h.get? a = some o ∧ ∃ fs, o.data = .fields fs := by
  cases b
  · obtain ⟨o, e, _, d⟩ := (show h.IsListIter a t i from x); exact ⟨o, e, _, d⟩
  · obtain ⟨o, e, _, d⟩ := (show h.IsTupleIter a t i from x); exact ⟨o, e, _, d⟩
theorem IsSq.extBut {b : Bool} {h h' : Heap} {a c xs} (x : IsSq b h a xs) (hs : Heap.ExtBut c h h') (hab : a ≠ c) : IsSq b h' a xs := by
  cases b
  · exact Heap.IsList.extBut (show h.IsList a xs from x) hs hab
  · exact Heap.IsTuple.extBut (show h.IsTuple a xs from x) hs hab
section
variable {prog : Program} {w : World} {A : Around} {E : Value → Shared → Prop} {s : Shared}
theorem iter_sq {b : Bool} {l : Addr} {xs : Array Value} {Q : Value → Shared → Prop} (hl : IsSq b s.heap l xs)
    (hQ : Q (.ref s.heap.objs.size) { s with heap := s.heap.push { cls := .type (if b = true then "tuple_iterator" else "list_iterator"), data := .fields #[.ref l, .int 0 0] } }) :
    wpAny (model prog w) A (pyIter (.ref l)) Q E s := by
  cases b
  · exact wpAny_pyIter_list (show s.heap.IsList l xs from hl) hQ
  · exact wpAny_pyIter_tuple (show s.heap.IsTuple l xs from hl) hQ
theorem noe_item {b : Bool} {it l : Addr} {i : Nat} {items : Array Value} {x : Value} {Q : Option Value → Shared → Prop} (hit : IsIt b s.heap it l i)
    (hl : IsSq b s.heap l items) (hx : items[i]? = some x)
    (hQ : ∀ h', IsIt b h' it l (i + 1) → Heap.SameBut it s.heap h' → Q (some x) { s with heap := h' }) :
    wpAny (model prog w) A (Builtin.SmallTypes.nextOrEnd (.ref it)) Q E s := by
  unfold Builtin.SmallTypes.nextOrEnd
  cases b
  · exact wpAny_bind (wpAny_attempt (wpAny_nextOf_list_item (show s.heap.IsListIter it l i from hit) (show s.heap.IsList l items from hl) hx fun h' a c => wpAny_pure (hQ h' a c)))
  · exact wpAny_bind (wpAny_attempt (wpAny_nextOf_list_itemT (show s.heap.IsTupleIter it l i from hit) (show s.heap.IsTuple l items from hl) hx fun h' a c => wpAny_pure (hQ h' a c)))
theorem noe_end {b : Bool} {it l : Addr} {i : Nat} {items : Array Value} {Q : Option Value → Shared → Prop} (hh : A.handled = none) (hit : IsIt b s.heap it l i)
    (hl : IsSq b s.heap l items) (hx : items[i]? = none)
    (hQ : ∀ h', Heap.ExtBut it s.heap h' → Q none { s with heap := h' }) :
    wpAny (model prog w) A (Builtin.SmallTypes.nextOrEnd (.ref it)) Q E s := by
  unfold Builtin.SmallTypes.nextOrEnd
  cases b
  · refine wpAny_bind (wpAny_attempt (wpAny_nextOf_list_end hh (show s.heap.IsListIter it l i from hit) (show s.heap.IsList l items from hl) hx fun h' e he hx' => ?_))
    obtain ⟨o, ho, hc⟩ := hx'
    exact wpAny_bind (wpAny_isInstance (T := "StopIteration") (b := true) ⟨o, ho, hc⟩ isSubtype_stop (wpAny_pure (hQ h' he)))
  · refine wpAny_bind (wpAny_attempt (wpAny_nextOf_list_endT hh (show s.heap.IsTupleIter it l i from hit) (show s.heap.IsTuple l items from hl) hx fun h' e he hx' => ?_))
    obtain ⟨o, ho, hc⟩ := hx'
    exact wpAny_bind (wpAny_isInstance (T := "StopIteration") (b := true) ⟨o, ho, hc⟩ isSubtype_stop (wpAny_pure (hQ h' he)))
end
abbrev IsZs (h : Heap) (z TI TO : Addr) (f0 : Value) : Prop :=
  h.get? z = some { cls := .type "zip", dict := none, data := .fields #[f0, .bool false, .bool true, .ref TI, .ref TO], slots := #[] }
section
variable {prog : Program} {w : World} {A : Around} {E : Value → Shared → Prop} {s : Shared}
theorem zs_item {b1 b2 : Bool} {z TI TO i1 i2 l1 l2 : Addr} {k1 k2 : Nat} {xs ys : Array Value} {x y a b : Value} {Q : Value → Shared → Prop} (D : ZipApart z TI TO i1 i2 l1 l2)
    (hz : IsZs s.heap z TI TO .none) (hTI : IsPair s.heap TI (.ref i1) (.ref i2)) (hTO : IsPair s.heap TO a b)
    (h1 : IsIt b1 s.heap i1 l1 k1) (h2 : IsIt b2 s.heap i2 l2 k2) (hl1 : IsSq b1 s.heap l1 xs) (hl2 : IsSq b2 s.heap l2 ys) (hx : xs[k1]? = some x) (hy : ys[k2]? = some y)
    (hQ : ∀ h', IsZs h' z TI TO (rawInt s.heap.objs.size) → IsPair h' TO x y → IsIt b1 h' i1 l1 (k1 + 1) → IsIt b2 h' i2 l2 (k2 + 1) → IsPair h' s.heap.objs.size x y → h'.objs.size = s.heap.objs.size + 1 →
      (∀ c o, c ≠ z → c ≠ TO → c ≠ i1 → c ≠ i2 → s.heap.get? c = some o → h'.get? c = some o) → Q (.ref s.heap.objs.size) { s with heap := h' }) :
    wpAny (model prog w) A (Builtin.«zip.__next__» ⟨[.ref z], []⟩) (fun fin s' => ∃ v, fin = .done (.ret v) ∧ Q v s') E s := by
  show wpAny _ _ (field (.ref z) 2 >>= _) _ _ _
  refine wpAny_bind (wpAny_field hz rfl (x := .bool true) rfl ?_)
  show wpAny _ _ (field (.ref z) 3 >>= _) _ _ _
  refine wpAny_bind (wpAny_field hz rfl (x := .ref TI) rfl ?_)
  refine wpAny_bind (wpAny_seqItems hTI rfl ?_)
  show wpAny _ _ (Builtin.SmallTypes.ownedTupleIsFree (.ref z) >>= _) _ _ _
  refine wpAny_bind ?_
  unfold Builtin.SmallTypes.ownedTupleIsFree
  refine wpAny_bind (wpAny_field hz rfl (x := .none) rfl (wpAny_pure ?_))
  simp only [if_true]
  refine wpAny_bind (wpAny_rule ?_)
  refine wpAny_bind (wpAny_field hz rfl (x := .ref TO) rfl ?_)
  refine wpAny_bind (wpAny_setField_rec hz (by simp) fun h₁ hz₁ hs₁ => ?_)
  replace hz₁ : IsZs h₁ z TI TO .ellipsis := hz₁
  refine wpAny_bind ?_
  simp only [List.zipIdx_cons, List.zipIdx_nil, List.forIn_cons, List.forIn_nil]

  refine wpAny_bind (wpAny_bind (wpAny_onRaise ?_))
  show wpAny _ _ (Builtin.SmallTypes.nextOrEnd (.ref i1)) _ _ _
  refine (noe_item (h1.extBut hs₁.extBut D.i1z) (hl1.extBut hs₁.extBut D.l1z) hx fun h₂ h1₂ hs₂ => ?_)
  have hTO₂ : IsPair h₂ TO a b := hs₂.extBut _ _ D.TOi1 (hs₁.extBut _ _ D.TOz hTO)
  refine wpAny_bind (wpAny_seqItems hTO₂ rfl ?_)
  refine wpAny_bind (wpAny_updateSeq_pair hTO₂ fun h₃ hTO₃ hs₃ => ?_)
  replace hTO₃ : IsPair h₃ TO x b := hTO₃
  refine wpAny_bind (wpAny_letGo (wpAny_pure ?_))

  refine wpAny_bind (wpAny_bind (wpAny_onRaise ?_))
  show wpAny _ _ (Builtin.SmallTypes.nextOrEnd (.ref i2)) _ _ _
  refine (noe_item (((h2.extBut hs₁.extBut D.i2z).extBut hs₂.extBut D.i12.symm).extBut hs₃.extBut D.TOi2.symm)
    (((hl2.extBut hs₁.extBut D.l2z).extBut hs₂.extBut D.l2i1).extBut hs₃.extBut D.l2TO) hy fun h₄ h2₄ hs₄ => ?_)
  have hTO₄ : IsPair h₄ TO x b := hs₄.extBut _ _ D.TOi2 hTO₃
  refine wpAny_bind (wpAny_seqItems hTO₄ rfl ?_)
  refine wpAny_bind (wpAny_updateSeq_pair hTO₄ fun h₅ hTO₅ hs₅ => ?_)
  replace hTO₅ : IsPair h₅ TO x y := hTO₅
  refine wpAny_bind (wpAny_letGo (wpAny_pure (wpAny_pure ?_)))

  refine wpAny_bind (wpAny_seqItems hTO₅ rfl ?_)
  refine wpAny_bind (wpAny_newTuple ?_)
  have hsz : h₅.objs.size = s.heap.objs.size := by rw [hs₅.1, hs₄.1, hs₃.1, hs₂.1, hs₁.1]
  have hz₅ : IsZs h₅ z TI TO .ellipsis := hs₅.extBut _ _ D.TOz.symm (hs₄.extBut _ _ D.i2z.symm (hs₃.extBut _ _ D.TOz.symm (hs₂.extBut _ _ D.i1z.symm hz₁)))
  have hk₅ : ∀ c o, c ≠ z → c ≠ TO → c ≠ i1 → c ≠ i2 → s.heap.get? c = some o → h₅.get? c = some o := fun c o c1 c2 c3 c4 e =>
    hs₅.extBut _ _ c2 (hs₄.extBut _ _ c4 (hs₃.extBut _ _ c2 (hs₂.extBut _ _ c3 (hs₁.extBut _ _ c1 e))))
  have h1₅ : IsIt b1 h₅ i1 l1 (k1 + 1) := ((h1₂.extBut hs₃.extBut D.TOi1.symm).extBut hs₄.extBut D.i12).extBut hs₅.extBut D.TOi1.symm
  have h2₅ : IsIt b2 h₅ i2 l2 (k2 + 1) := h2₄.extBut hs₅.extBut D.TOi2.symm
  have hzlt : z < h₅.objs.size := Heap.lt_size hz₅
  have hTOlt : TO < h₅.objs.size := Heap.lt_size hTO₅
  have hi1lt : i1 < h₅.objs.size := by obtain ⟨_, e, _⟩ := h1₅.obj; exact Heap.lt_size e
  have hi2lt : i2 < h₅.objs.size := by obtain ⟨_, e, _⟩ := h2₅.obj; exact Heap.lt_size e
  show wpAny _ _ (Builtin.SmallTypes.ownedTupleHandOut (.ref z) (.ref h₅.objs.size) >>= _) _ _ _
  refine wpAny_bind ?_
  unfold Builtin.SmallTypes.ownedTupleHandOut
  have hz₆ : IsZs (h₅.push { cls := .type "tuple", data := .seq #[x, y] }) z TI TO .ellipsis := Heap.get?_push_of_some _ hz₅
  refine wpAny_bind (wpAny_setField_rec hz₆ (by simp) fun h₇ hz₇ hs₇ => ?_)
  replace hz₇ : IsZs h₇ z TI TO (rawInt h₅.objs.size) := hz₇
  refine wpAny_setField_rec hz₇ (by simp) fun h₈ hz₈ hs₈ => ?_
  replace hz₈ : IsZs h₈ z TI TO (rawInt h₅.objs.size) := hz₈
  have up : ∀ c o, c ≠ z → h₅.get? c = some o → h₈.get? c = some o := fun c o c1 e => hs₈.extBut _ _ c1 (hs₇.extBut _ _ c1 (Heap.get?_push_of_some _ e))
  have hT₈ : IsPair h₈ h₅.objs.size x y := hs₈.extBut _ _ (Nat.ne_of_gt hzlt) (hs₇.extBut _ _ (Nat.ne_of_gt hzlt) (Heap.get?_push_size _ rfl))
  have hz8 : h₈.objs.size = h₅.objs.size + 1 := by rw [hs₈.1, hs₇.1, Heap.size_push]
  rw [hsz] at hz₈ hT₈ hz8
  refine wpAny_pure ⟨_, rfl, ?_⟩
  show Q (.ref h₅.objs.size) _
  rw [hsz]
  exact hQ h₈ hz₈ (up _ _ D.TOz hTO₅) (h1₅.at fun o e => up _ o D.i1z e) (h2₅.at fun o e => up _ o D.i2z e) hT₈ hz8 fun c o c1 c2 c3 c4 e => up c o c1 (hk₅ c o c1 c2 c3 c4 e)

theorem zs_end {b1 b2 : Bool} {z TI TO i1 i2 l1 l2 : Addr} {k1 k2 : Nat} {xs ys : Array Value} {a b : Value} {Q : Fin → Shared → Prop} (hh : A.handled = none) (D : ZipApart z TI TO i1 i2 l1 l2)
    (hz : IsZs s.heap z TI TO .none) (hTI : IsPair s.heap TI (.ref i1) (.ref i2)) (hTO : IsPair s.heap TO a b)
    (h1 : IsIt b1 s.heap i1 l1 k1) (h2 : IsIt b2 s.heap i2 l2 k2) (hl1 : IsSq b1 s.heap l1 xs) (hl2 : IsSq b2 s.heap l2 ys) (hx : xs[k1]? = none) (hy : ys[k2]? = none)
    (hE : ∀ h' e, (∀ c o, c ≠ z → c ≠ TO → c ≠ i1 → c ≠ i2 → s.heap.get? c = some o → h'.get? c = some o) → (∃ o, h'.get? e = some o ∧ o.cls = .type "StopIteration") → E (.ref e) { s with heap := h' }) :
    wpAny (model prog w) A (Builtin.«zip.__next__» ⟨[.ref z], []⟩) Q E s := by
  show wpAny _ _ (field (.ref z) 2 >>= _) _ _ _
  refine wpAny_bind (wpAny_field hz rfl (x := .bool true) rfl ?_)
  show wpAny _ _ (field (.ref z) 3 >>= _) _ _ _
  refine wpAny_bind (wpAny_field hz rfl (x := .ref TI) rfl ?_)
  refine wpAny_bind (wpAny_seqItems hTI rfl ?_)
  show wpAny _ _ (Builtin.SmallTypes.ownedTupleIsFree (.ref z) >>= _) _ _ _
  refine wpAny_bind ?_
  unfold Builtin.SmallTypes.ownedTupleIsFree
  refine wpAny_bind (wpAny_field hz rfl (x := .none) rfl (wpAny_pure ?_))
  simp only [if_true]
  refine wpAny_bind (wpAny_rule ?_)
  refine wpAny_bind (wpAny_field hz rfl (x := .ref TO) rfl ?_)
  refine wpAny_bind (wpAny_setField_rec hz (by simp) fun h₁ hz₁ hs₁ => ?_)
  replace hz₁ : IsZs h₁ z TI TO .ellipsis := hz₁
  refine wpAny_bind ?_
  simp only [List.zipIdx_cons, List.zipIdx_nil, List.forIn_cons, List.forIn_nil]
  refine wpAny_bind (wpAny_bind (wpAny_onRaise ?_))
  show wpAny _ _ (Builtin.SmallTypes.nextOrEnd (.ref i1)) _ _ _
  refine noe_end hh (h1.extBut hs₁.extBut D.i1z) (hl1.extBut hs₁.extBut D.l1z) hx fun h₂ hs₂ => ?_
  have hz₂ : IsZs h₂ z TI TO .ellipsis := hs₂ _ _ D.i1z.symm hz₁
  refine wpAny_bind (wpAny_setField_rec hz₂ (by simp) fun h₃ hz₃ hs₃ => ?_)
  replace hs₃ : Heap.SameBut z h₂ h₃ := hs₃
  have i2₃ : IsIt b2 h₃ i2 l2 k2 := ((h2.extBut hs₁.extBut D.i2z).extBut hs₂ D.i12.symm).extBut hs₃.extBut D.i2z
  have l2₃ : IsSq b2 h₃ l2 ys := ((hl2.extBut hs₁.extBut D.l2z).extBut hs₂ D.l2i1).extBut hs₃.extBut D.l2z
  refine wpAny_bind ?_
  show wpAny _ _ (forIn ([(Value.ref i2, 1)] : List (Value × Nat)) _ _ >>= _) _ _ _
  simp only [List.forIn_cons, List.forIn_nil]
  refine wpAny_bind (wpAny_bind ?_)
  refine wpAny_bind (noe_end (s := { s with heap := h₃ }) hh i2₃ l2₃ hy fun h₄ hs₄ => ?_)
  simp only [Option.isSome_none, Bool.false_eq_true, if_false]
  refine wpAny_pure (wpAny_pure (wpAny_bind (wpAny_rule ?_)))
  show wpAny _ _ (newExc (.type "StopIteration") [] >>= _) _ _ _
  refine wpAny_bind ?_
  simp only [newExc, newTuple]
  refine wpAny_bind (wpAny_newObj_type ?_ (by size_fits))
  refine wpAny_bind (m := firstArgMember _ _) (wpAny_of_eq (a := Value.none) (by first | rfl | (simp only [firstArgMember]; rfl)) ?_)
  refine wpAny_newObj_type ?_ (by size_fits)
  simp only [raiseNew]
  refine wpAny_bind (wpAny_handled ?_)
  first | rw [show A.in1.handled = none from hh] | rw [hh]
  refine wpAny_bind (wpAny_pure (wpAny_throw ?_))
  refine hE _ _ (fun c o c1 c2 c3 c4 x => ?_) ⟨_, Heap.get?_push_size _ rfl, rfl⟩
  exact Heap.get?_push_of_some _ (Heap.get?_push_of_some _ (hs₄ _ _ c4 (hs₃.extBut _ _ c1 (hs₂ _ _ c3 (hs₁.extBut _ _ c1 x)))))
end
end Tx

namespace Tx
open PySem
open Sem (wp)
section
variable {prog : Program} {w : World} {A : Around} {E : Value → Shared → Prop} {s : Shared}
theorem next_zs_item {b1 b2 : Bool} {z TI TO i1 i2 l1 l2 : Addr} {k1 k2 : Nat} {xs ys : Array Value} {x y a b : Value} {Q : Option Value → Shared → Prop} (D : ZipApart z TI TO i1 i2 l1 l2)
    (hz : IsZs s.heap z TI TO .none) (hTI : IsPair s.heap TI (.ref i1) (.ref i2)) (hTO : IsPair s.heap TO a b)
    (h1 : IsIt b1 s.heap i1 l1 k1) (h2 : IsIt b2 s.heap i2 l2 k2) (hl1 : IsSq b1 s.heap l1 xs) (hl2 : IsSq b2 s.heap l2 ys) (hx : xs[k1]? = some x) (hy : ys[k2]? = some y)
    (hQ : ∀ h', IsZs h' z TI TO (rawInt s.heap.objs.size) → IsPair h' TO x y → IsIt b1 h' i1 l1 (k1 + 1) → IsIt b2 h' i2 l2 (k2 + 1) → IsPair h' s.heap.objs.size x y → h'.objs.size = s.heap.objs.size + 1 →
      (∀ c o, c ≠ z → c ≠ TO → c ≠ i1 → c ≠ i2 → s.heap.get? c = some o → h'.get? c = some o) → Q (some (.ref s.heap.objs.size)) { s with heap := h' }) :
    wpAny (model prog w) A (pyNext (.ref z)) Q E s := by
  have hT : s.TypeIs (.ref z) "zip" := ⟨_, hz, rfl⟩
  unfold pyNext
  exact wpAny_bind (wpAny_attempt (wpAny_callSpecial?_slot (name := Str.ofString "__next__") hT F.slot_zip_next
    (wpAny_call_entry F.slot_zip_next hT F.entry_zip_next
      (zs_item D hz hTI hTO h1 h2 hl1 hl2 hx hy fun h' a1 a2 a3 a4 a5 a6 a7 => wpAny_pure (hQ h' a1 a2 a3 a4 a5 a6 a7)) (F.args_zip_next_1 _))))

theorem next_zs_end {b1 b2 : Bool} {z TI TO i1 i2 l1 l2 : Addr} {k1 k2 : Nat} {xs ys : Array Value} {a b : Value} {Q : Option Value → Shared → Prop} (hh : A.handled = none) (D : ZipApart z TI TO i1 i2 l1 l2)
    (hz : IsZs s.heap z TI TO .none) (hTI : IsPair s.heap TI (.ref i1) (.ref i2)) (hTO : IsPair s.heap TO a b)
    (h1 : IsIt b1 s.heap i1 l1 k1) (h2 : IsIt b2 s.heap i2 l2 k2) (hl1 : IsSq b1 s.heap l1 xs) (hl2 : IsSq b2 s.heap l2 ys) (hend : xs[k1]? = none) (hend2 : ys[k2]? = none)
    (hQ : ∀ h', (∀ c o, c ≠ z → c ≠ TO → c ≠ i1 → c ≠ i2 → s.heap.get? c = some o → h'.get? c = some o) → Q none { s with heap := h' }) : wpAny (model prog w) A (pyNext (.ref z)) Q E s := by
  have hT : s.TypeIs (.ref z) "zip" := ⟨_, hz, rfl⟩
  unfold pyNext
  refine wpAny_bind (wpAny_attempt (wpAny_callSpecial?_slot (name := Str.ofString "__next__") hT F.slot_zip_next
    (wpAny_call_entry F.slot_zip_next hT F.entry_zip_next (zs_end hh D hz hTI hTO h1 h2 hl1 hl2 hend hend2 fun h' e hk he => ?_) (F.args_zip_next_1 _))))
  obtain ⟨o, ho, hc⟩ := he
  refine wpAny_bind (wpAny_isInstance (T := "StopIteration") (b := true) ⟨o, ho, hc⟩ isSubtype_stop ?_)
  exact wpAny_pure (hQ _ hk)

theorem go_zs {elts : List Expr} {x1} {pos : Pos} {z TI TO T : Addr} {Q : Unit → Shared → Prop} (hz : IsZs s.heap z TI TO (rawInt T))
    (hQ : ∀ h', IsZs h' z TI TO .none → Heap.SameBut z s.heap h' → Q () { s with heap := h' }) :
    wpAny (model prog w) A (letOwnedTupleGo (.Tuple elts x1 pos) (.ref z) (.ref T)) Q E s := by
  unfold letOwnedTupleGo
  refine wpAny_bind (wpAny_load hz ?_)
  show wpAny _ _ (if (["enumerate", "zip", "dict_itemiterator", "dict_reverseitemiterator", "odict_iterator", "itertools.zip_longest", "itertools.pairwise"].contains "zip" &&
      (#[rawInt T, .bool false, .bool true, .ref TI, .ref TO] : Array Value)[0]? == some (rawInt T)) = true then _ else _) Q E s
  rw [if_pos (by simp)]
  refine wpAny_bind (wpAny_rule ?_)
  show wpAny _ _ (setField (.ref z) 0 .none) Q E s
  exact wpAny_setField_rec hz (by simp) fun h' hz' hs' => hQ h' hz' hs'

theorem iter_zs {z TI TO : Addr} {f0 : Value} {Q : Value → Shared → Prop} (hz : IsZs s.heap z TI TO f0) (h : Q (.ref z) s) : wpAny (model prog w) A (pyIter (.ref z)) Q E s := by
  have hT : s.TypeIs (.ref z) "zip" := ⟨_, hz, rfl⟩
  refine wpAny_pyIter_slot hT F.slot_zip_iter (wpAny_call_entry F.slot_zip_iter hT F.entry_zip_iter ?_ (F.args_zip_iter_1 _))
  show wpAny _ _ (ret (.ref z)) _ _ s
  exact wpAny_pure ⟨_, rfl, "zip", _, hT, F.slot_zip_next.lookup, h⟩

theorem callType_meetsK {T newId initId : String} {Bn Bi : Builtin} {args : List Value} {kw : List (Str × Value)} {S : Spec} {Q Q₁ : Value → Shared → Prop} (ft : TypeCalled T newId initId)
    (hct : checkTypeCall T ⟨args, kw⟩ = pure ()) (hcn : checkBuiltinCall newId ⟨.type T :: args, kw⟩ = pure ())
    (entryN : entryFor table newId = some Bn) (entryI : entryFor table initId = some Bi) (g : Meets (Bn ⟨.type T :: args, kw⟩) S)
    (h : S A.in1 (wants Q₁ E) s)
    (hnext : ∀ obj s₁, Q₁ obj s₁ → s₁.TypeIs obj T ∧ argsOk initId ⟨obj :: args, kw⟩ ∧ ∃ Si, Meets (Bi ⟨obj :: args, kw⟩) Si ∧ Si A.in1 (wants (fun r s₂ => r = .none ∧ Q obj s₂) E) s₁) :
    wpAny (model prog w) A (call (.type T) args kw) Q E s := by
  obtain ⟨c, tl, hmro⟩ := ft.mro
  have hmade := ft.made
  have hsub := ft.sub
  refine wpAny_call (codeAny_of_tree ?_)
  show wpAny _ _ (callAny (.type T) _) _ _ _
  refine wpAny_pure ⟨Code.quiet_builtin _ (by decide +kernel), codeAny_builtin F.entry_type_call ?_⟩
  rw [Around.under_plain (weight_type_call_type T args kw) (units_type_call_type T args kw)]
  have h1 := ft.notType
  have h2 := ft.canCreate
  repeat (any_goals (first | assumption | wp_step))

  refine codeAny_mono (codeAny_call_builtin ft.plain entryN (wpAny_of_eq hcn (g prog w A.in1 _ s h))) fun r s₁ hr => ?_
  cases r with
  | error e => exact hr
  | ok fl =>
    cases fl with
    | ret obj =>
      obtain ⟨hT, hok, Si, gi, hsi⟩ := hnext _ _ hr
      have hli := ft.init.lookup
      have hbi := ft.init.bind obj
      repeat (any_goals (first | assumption | wp_step))

      refine codeAny_mono (codeAny_call_builtin ft.init.plain entryI (ft.init.check _ _ _ _ _ _ _ _ hT hok (gi prog w A.in1 _ s₁ hsi))) fun r₂ s₂ hr₂ => ?_
      cases r₂ with
      | error e => exact hr₂
      | ok fl₂ =>
        cases fl₂ with
        | ret r =>
          obtain ⟨rfl, hq⟩ := hr₂
          repeat (any_goals (first | assumption | wp_step))
        | _ => exact hr₂.elim
    | _ => exact hr.elim

theorem object_init_meetsK {T newId : String} {self a : Value} {rest : List Value} {kw : List (Str × Value)} (hl : typeLookup (.type T) "__init__" = pure (some (.builtin "object.__init__")))
    (hm : Bind.madeBy (.type T) = pure (some newId)) (hne : (some newId != some "object.__new__") = true) :
    Meets (Builtin.«object.__init__» ⟨self :: a :: rest, kw⟩) (fun _ R s => s.TypeIs self T ∧ R (.ok (.ret .none)) s) := by
  refine Meets.of_wp fun prog w A R s hs => ?_
  obtain ⟨hT, hq⟩ := hs
  repeat (any_goals (first | assumption | wp_step))
  exact ⟨_, rfl, hq⟩
theorem callType_newK {T newId : String} {Bn : Builtin} {x : Value} {xs : List Value} {kw : List (Str × Value)} {S : Spec} {Q : Value → Shared → Prop} (ft : TypeCalled T newId "object.__init__")
    (hne : (some newId != some "object.__new__") = true) (hct : checkTypeCall T ⟨x :: xs, kw⟩ = pure ()) (hcn : checkBuiltinCall newId ⟨.type T :: x :: xs, kw⟩ = pure ())
    (hok : ∀ obj, argsOk "object.__init__" ⟨obj :: x :: xs, kw⟩) (entryN : entryFor table newId = some Bn) (g : Meets (Bn ⟨.type T :: x :: xs, kw⟩) S)
    (h : S A.in1 (wants (fun obj s₁ => s₁.TypeIs obj T ∧ Q obj s₁) E) s) : wpAny (model prog w) A (call (.type T) (x :: xs) kw) Q E s :=
  callType_meetsK ft hct hcn entryN F.entry_object_init g h fun obj _ hq =>
    ⟨hq.1, hok obj, _, object_init_meetsK ft.init.lookup ft.made hne, hq.1, rfl, hq.2⟩

abbrev kwS : List (Str × Value) := [(Str.ofString "strict", .bool true)]
theorem zs_typeCall (a b : Value) : checkTypeCall "zip" ⟨[a, b], kwS⟩ = pure () := by kernel_rfl
theorem zs_newCall (a b : Value) : checkBuiltinCall "zip.__new__" ⟨[.type "zip", a, b], kwS⟩ = pure () := by kernel_rfl
theorem zs_init (a b c : Value) : argsOk "object.__init__" ⟨[a, b, c], kwS⟩ := by
  unfold argsOk; kernel_rfl
abbrev zsO (b : Bool) (l : Addr) : Obj := { cls := .type (if b = true then "tuple_iterator" else "list_iterator"), data := .fields #[.ref l, .int 0 0] }
abbrev zsH1 (h : Heap) (b1 : Bool) (l1 : Addr) : Heap := h.push (zsO b1 l1)
abbrev zsH2 (h : Heap) (b1 b2 : Bool) (l1 l2 : Addr) : Heap := (zsH1 h b1 l1).push (zsO b2 l2)
abbrev zsH3 (h : Heap) (b1 b2 : Bool) (l1 l2 : Addr) : Heap := (zsH2 h b1 b2 l1 l2).push { cls := .type "tuple", data := .seq #[.ref h.objs.size, .ref (zsH1 h b1 l1).objs.size] }
abbrev zsH4 (h : Heap) (b1 b2 : Bool) (l1 l2 : Addr) : Heap := (zsH3 h b1 b2 l1 l2).push { cls := .type "tuple", data := .seq #[.none, .none] }
abbrev zsH5 (h : Heap) (b1 b2 : Bool) (l1 l2 : Addr) : Heap := (zsH4 h b1 b2 l1 l2).push { cls := .type "zip", data := .fields #[.none, .bool false, .bool true, .ref (zsH2 h b1 b2 l1 l2).objs.size, .ref (zsH3 h b1 b2 l1 l2).objs.size] }
theorem IsSq.push {b : Bool} {h : Heap} {a xs} (x : IsSq b h a xs) (o : Obj) : IsSq b (h.push o) a xs := by
  cases b
  · exact Heap.IsList.push (show h.IsList a xs from x) o
  · exact Heap.IsTuple.push (show h.IsTuple a xs from x) o
theorem meets_zs_new (b1 b2 : Bool) (l1 l2 : Addr) (xs ys : Array Value) :
    Meets (Builtin.«zip.__new__» ⟨[.type "zip", .ref l1, .ref l2], kwS⟩) (fun _ R s => IsSq b1 s.heap l1 xs ∧ IsSq b2 s.heap l2 ys ∧
      R (.ok (.ret (.ref (zsH4 s.heap b1 b2 l1 l2).objs.size))) { s with heap := zsH5 s.heap b1 b2 l1 l2 }) :=
  .of_wp fun prog w A R s h => by
    obtain ⟨hp, g, d, tk, os⟩ := s; obtain ⟨hl1, hl2, h⟩ := h
    have hsub := sub_zip
    have hL1 : IsSq b1 (Shared.heap ⟨hp, g, d, tk, os⟩) l1 xs := hl1
    have hL2 : IsSq b2 (Shared.heap ⟨hp.push (zsO b1 l1), g, d, tk, os⟩) l2 ys := IsSq.push hl2 _
    wp_walk using iter_sq hL1, iter_sq hL2
    exact ⟨_, rfl, h⟩
end
end Tx

namespace Tx
open PySem
open Sem (wp)
section
variable {prog : Program} {w : World} {A : Around} {E : Value → Shared → Prop} {s : Shared}
theorem call_zs {b1 b2 : Bool} {l1 l2 : Addr} {xs ys : Array Value} {Q : Value → Shared → Prop} (hl1 : IsSq b1 s.heap l1 xs) (hl2 : IsSq b2 s.heap l2 ys)
    (h : ∀ h', IsZs h' (s.heap.objs.size + 4) (s.heap.objs.size + 2) (s.heap.objs.size + 3) .none → IsPair h' (s.heap.objs.size + 2) (.ref s.heap.objs.size) (.ref (s.heap.objs.size + 1)) →
      IsPair h' (s.heap.objs.size + 3) .none .none → IsIt b1 h' s.heap.objs.size l1 0 → IsIt b2 h' (s.heap.objs.size + 1) l2 0 → h'.objs.size = s.heap.objs.size + 5 →
      (∀ c o, s.heap.get? c = some o → h'.get? c = some o) → Q (.ref (s.heap.objs.size + 4)) { s with heap := h' }) :
    wpAny (model prog w) A (call (.type "zip") [.ref l1, .ref l2] kwS) Q E s := by
  refine callType_newK F.called_zip (by decide) (zs_typeCall _ _) (zs_newCall _ _) (fun obj => zs_init obj _ _) F.entry_zip_new
    (meets_zs_new b1 b2 l1 l2 xs ys) ⟨hl1, hl2, ?_⟩
  have z1 : (zsH1 s.heap b1 l1).objs.size = s.heap.objs.size + 1 := Heap.size_push ..
  have z2 : (zsH2 s.heap b1 b2 l1 l2).objs.size = s.heap.objs.size + 2 := by rw [Heap.size_push, z1]
  have z3 : (zsH3 s.heap b1 b2 l1 l2).objs.size = s.heap.objs.size + 3 := by rw [Heap.size_push, z2]
  have z4 : (zsH4 s.heap b1 b2 l1 l2).objs.size = s.heap.objs.size + 4 := by rw [Heap.size_push, z3]
  have z5 : (zsH5 s.heap b1 b2 l1 l2).objs.size = s.heap.objs.size + 5 := by rw [Heap.size_push, z4]
  have g5 : (zsH5 s.heap b1 b2 l1 l2).get? (zsH4 s.heap b1 b2 l1 l2).objs.size = some _ := Heap.get?_push_size _ rfl
  have g4 : (zsH5 s.heap b1 b2 l1 l2).get? (zsH3 s.heap b1 b2 l1 l2).objs.size = some _ := Heap.get?_push_of_some _ (Heap.get?_push_size _ rfl)
  have g3 : (zsH5 s.heap b1 b2 l1 l2).get? (zsH2 s.heap b1 b2 l1 l2).objs.size = some _ := Heap.get?_push_of_some _ (Heap.get?_push_of_some _ (Heap.get?_push_size _ rfl))
  have g2 : (zsH5 s.heap b1 b2 l1 l2).get? (zsH1 s.heap b1 l1).objs.size = some _ := Heap.get?_push_of_some _ (Heap.get?_push_of_some _ (Heap.get?_push_of_some _ (Heap.get?_push_size _ rfl)))
  have g1 : (zsH5 s.heap b1 b2 l1 l2).get? s.heap.objs.size = some _ := Heap.get?_push_of_some _ (Heap.get?_push_of_some _ (Heap.get?_push_of_some _ (Heap.get?_push_of_some _ (Heap.get?_push_size _ rfl))))
  show _ ∧ _
  rw [z2, z3, z4] at g5
  rw [z1, z2] at g3
  rw [z3] at g4
  rw [z1] at g2
  rw [z4]
  exact ⟨⟨_, g5, rfl⟩, h _ g5 g3 g4 (by cases b1 <;> exact ⟨_, g1, rfl, rfl⟩) (by cases b2 <;> exact ⟨_, g2, rfl, rfl⟩) z5 fun c o x =>
    Heap.get?_push_of_some _ (Heap.get?_push_of_some _ (Heap.get?_push_of_some _ (Heap.get?_push_of_some _ (Heap.get?_push_of_some _ x))))⟩

end
section
variable {M : Model} {A : Around} {E : Value → Shared → Prop} {s : Shared} {env : Env}
open PyProof.Rows
theorem callWith_type_kwB {pos : Pos} {id : String} {first : List Value} {args : List (Bool × Sem Value)} {keywords : List (Option Str × Sem Value)} {Q : Value → Shared → Prop}
    (hplain : args.any (·.1) = false) (hkw : keywords.any (·.1.isNone) = false)
    (h : wpAny M A (evalArgs (.type id) true args keywords) (fun a s₁ => wpAny M A (call (.type id) (first ++ a.pos) a.kw) Q E s₁) E s) :
    wpAny M A (callWith pos (.type id) first args keywords) Q E s := by
  unfold callWith
  refine wpAny_bind (wpAny_holding (wpAny_mono h (fun a s₁ h₁ => wpAny_bind (wpAny_standAt ?_)) fun _ _ x => x))
  simp only [hplain, hkw, Bool.or_false]
  refine wpAny_bind (wpAny_pure ?_)
  exact wpAny_bind (wpAny_mono h₁ (fun r s₂ hr => wpAny_bind (wpAny_holding (wpAny_point (wpAny_pure hr)))) fun _ _ x => x)

theorem callWith_kwT {pos : Pos} {id : String} {e : Expr} {rest : List Expr} {kws : List Keyword} {Q : Value → Shared → Prop}
    (h : wpAny M A (spliced (backTo pos (starEach (e :: rest) env))) (fun vs s₁ => wpAny M A (evalAll ((backToKw pos (keywordEach kws env)).map (·.2)))
      (fun kvs s₂ => wpAny M A (call (.type id) vs (((backToKw pos (keywordEach kws env)).filterMap (·.1)).zip kvs)) Q E s₂) E s₁) E s)
    (he : backTo pos (starEach (e :: rest) env) = (false, eval e env) :: backTo pos (starEach rest env) := by rfl)
    (hplain : (backTo pos (starEach (e :: rest) env)).any (·.1) = false := by rfl)
    (hall : (backToKw pos (keywordEach kws env)).all (·.1.isSome) = true := by rfl)
    (hkw : (backToKw pos (keywordEach kws env)).any (·.1.isNone) = false := by rfl) :
    wpAny M A (callWith pos (.type id) [] (backTo pos (starEach (e :: rest) env)) (backToKw pos (keywordEach kws env))) Q E s := by
  refine callWith_type_kwB hplain hkw ?_
  rw [he] at h ⊢
  exact evalArgs_kwB hall h
end
end Tx
namespace Tx
open PySem PySem.Spec PyProof.Rows L2
/-- a sequence, tuple or list -/
def Sq2 (b : Bool) (K : PySem.W.Frag) (H : Hp) (a : Addr) (xs : List V) : Prop := if b = true then SqT K H a xs else SqL K H a xs
theorem Sq2.on {b : Bool} {X : Cx} {pins : List (Addr × Obj)} {σ : L2.St} {H : Hp} {s : Shared} {a : Addr} {xs : List V} (h : Sq2 b X.K H a xs) (I : Inv X pins σ H s) : ∃ its : List Value, Vals xs its ∧ IsSq b s.heap a its.toArray := by
  cases b
  · obtain ⟨its, rv, p, _⟩ := I.list (show SqL X.K H a xs from h)
    exact ⟨its, rv, p.isList⟩
  · obtain ⟨its, rv, p, _⟩ := I.tuple (show SqT X.K H a xs from h)
    exact ⟨its, rv, p⟩
theorem Sq2.inj {b : Bool} {X : Cx} {pins : List (Addr × Obj)} {σ : L2.St} {H : Hp} {s : Shared} {a : Addr} {xs ys : List V} (h : Sq2 b X.K H a xs) (I : Inv X pins σ H s) (h' : Sq2 b X.K H a ys) : xs = ys := by
  cases b
  · exact I.list_inj (show SqL X.K H a xs from h) (show SqL X.K H a ys from h')
  · exact I.tuple_inj (show SqT X.K H a xs from h) (show SqT X.K H a ys from h')
theorem Sq2.lt {b : Bool} {h : Heap} {a : Addr} {xs : Array Value} (p : IsSq b h a xs) : a < h.objs.size := by
  cases b
  · obtain ⟨o, ho, _⟩ := (show h.IsList a xs from p); exact Heap.lt_size ho
  · obtain ⟨o, ho, _⟩ := (show h.IsTuple a xs from p); exact Heap.lt_size ho
def Itzs (K : PySem.W.Frag) (b1 b2 : Bool) (a b : Addr) : It :=
  ⟨fun i H => ∃ (xs ys : List V) (x y : V), Sq2 b1 K H a xs ∧ Sq2 b2 K H b ys ∧ xs[i]? = some x ∧ ys[i]? = some y,
    fun i H v H' => ∃ T x y, v = .ref T ∧ H T = none ∧ H' = upd H T (.tup [x, y]) ∧ (∀ xs, Sq2 b1 K H a xs → xs[i]? = some x) ∧ ∀ ys, Sq2 b2 K H b ys → ys[i]? = some y,
    fun i H => ∃ xs ys : List V, Sq2 b1 K H a xs ∧ Sq2 b2 K H b ys ∧ (xs.length ≤ i ∧ ys.length ≤ i)⟩
theorem turn_zs {P : Program} {w : World} {K : PySem.W.Frag} {elts : List Expr} {kk : Nat} {tpos : Pos} {b1 b2 : Bool} {a b z TI TO i1 i2 : Addr} (D : ZipApart z TI TO i1 i2 a b) :
    Turn P w K (.Tuple elts kk tpos) (Itzs K b1 b2 a b) [z, TI, TO, i1, i2] z (fun i h => IsZs h z TI TO .none ∧ IsPair h TI (.ref i1) (.ref i2) ∧ (∃ x y, IsPair h TO x y) ∧ IsIt b1 h i1 a i ∧ IsIt b2 h i2 b i) where
  mem := by simp
  obj := fun i h st c hc => by
    obtain ⟨hz, hTI, ⟨x, y, hTO⟩, y1, y2⟩ := st
    obtain ⟨o1, e1, f1, d1⟩ := y1.obj
    obtain ⟨o2, e2, f2, d2⟩ := y2.obj
    have e' : c = z ∨ c = TI ∨ c = TO ∨ c = i1 ∨ c = i2 := by simpa using hc
    rcases e' with q | q | q | q | q
    · rw [q]; exact ⟨_, hz, fun v q => nomatch q⟩
    · rw [q]; exact ⟨_, hTI, fun v q => nomatch q⟩
    · rw [q]; exact ⟨_, hTO, fun v q => nomatch q⟩
    · rw [q]; exact ⟨o1, e1, fun v q => by rw [d1] at q; cases q⟩
    · rw [q]; exact ⟨o2, e2, fun v q => by rw [d2] at q; cases q⟩
  keep := fun i h h' st k => by
    obtain ⟨hz, hTI, ⟨x, y, hTO⟩, h1, h2⟩ := st
    exact ⟨k z (by simp) _ hz, k TI (by simp) _ hTI, ⟨x, y, k TO (by simp) _ hTO⟩, h1.at fun o q => k i1 (by simp) o q, h2.at fun o q => k i2 (by simp) o q⟩
  item := by
    intro X hP hw hK hc i pins s σ H E I hf st hg
    subst hP hw hK
    obtain ⟨hz, hTI, ⟨x0, y0, hTO⟩, h1, h2⟩ := st
    obtain ⟨xs, ys, x, y, hqx, hqy, hx, hy⟩ := hg
    obtain ⟨its, rv, p⟩ := hqx.on I
    obtain ⟨its2, rv2, p2⟩ := hqy.on I
    obtain ⟨u, hu, ru⟩ := rv.get hx
    obtain ⟨u2, hu2, ru2⟩ := rv2.get hy
    have hzl : z < s.heap.objs.size := Heap.lt_size hz
    refine next_zs_item D hz hTI hTO h1 h2 p p2 (x := u) (y := u2) (by simpa using hu) (by simpa using hu2) fun h' z' TO' h1' h2' hT hsz hk => ?_
    refine ⟨_, rfl, go_zs (s := { s with heap := h' }) z' fun h'' z'' sb => ?_⟩
    have hT2 : h''.get? s.heap.objs.size = some { cls := .type "tuple", data := .seq #[u, u2] } := (sb.2 _ (Nat.ne_of_gt hzl)).trans hT
    have new : ObjOk X.prog X.w (upd H s.heap.objs.size (.tup [x, y])) h'' s.heap.objs.size (.tup [x, y]) :=
      ⟨by show 2 ≤ sizeLine; decide, [u, u2], .cons ru (.cons ru2 .nil), ⟨_, hT2, rfl, _, rfl⟩⟩
    have I1 : Inv X pins σ (upd H s.heap.objs.size (.tup [x, y])) { s with heap := h'' } :=
      I.turnedNew (t' := s.toks) (ch := [z, TI, TO, i1, i2]) (fun c o hb q => (sb.2 c (fun q' => hb (by simp [q']))).trans (hk c o (fun q' => hb (by simp [q'])) (fun q' => hb (by simp [q'])) (fun q' => hb (by simp [q'])) (fun q' => hb (by simp [q'])) q)) hf (Nat.le_refl _) new
    refine ⟨.ref s.heap.objs.size, _, I1, rfl, ⟨_, x, y, rfl, I.hok.fresh (Nat.le_refl _), rfl, fun l hl => by rw [hl.inj I hqx]; exact hx, fun l hl => by rw [hl.inj I hqy]; exact hy⟩, ⟨z'', ?_, ⟨u, u2, ?_⟩, ?_, ?_⟩, fun c hcm => ?_⟩
    · exact (sb.2 _ D.TIz).trans (hk _ _ D.TIz D.TITO D.TIi1 D.TIi2 hTI)
    · exact (sb.2 _ D.TOz).trans TO'
    · exact h1'.at fun o q => (sb.2 _ D.i1z).trans q
    · exact h2'.at fun o q => (sb.2 _ D.i2z).trans q
    · have hlt : c < s.heap.objs.size := by
        have e' : c = z ∨ c = TI ∨ c = TO ∨ c = i1 ∨ c = i2 := by simpa using hcm
        rcases e' with q | q | q | q | q
        · rw [q]; exact hzl
        · rw [q]; exact Heap.lt_size hTI
        · rw [q]; exact Heap.lt_size hTO
        · rw [q]; obtain ⟨_, e1, _⟩ := h1.obj; exact Heap.lt_size e1
        · rw [q]; obtain ⟨_, e2, _⟩ := h2.obj; exact Heap.lt_size e2
      rw [upd_ne (Nat.ne_of_lt hlt)]
      exact (hf c hcm).1
  done := by
    intro X hP hw hK hc i pins s σ H E I hf st hg
    subst hP hw hK
    obtain ⟨hz, hTI, ⟨x0, y0, hTO⟩, h1, h2⟩ := st
    obtain ⟨xs, ys, hqx, hqy, hend⟩ := hg
    obtain ⟨its, rv, p⟩ := hqx.on I
    obtain ⟨its2, rv2, p2⟩ := hqy.on I
    have l1 := rv.length
    have l2 := rv2.length
    have he : its.toArray[i]? = none := by simp; omega
    have he2 : its2.toArray[i]? = none := by simp; omega
    exact next_zs_end (I.ok.hd hc) D hz hTI hTO h1 h2 p p2 he he2 fun h' hk => ⟨rfl, I.turnedL (t' := s.toks) (ch := [z, TI, TO, i1, i2]) (fun c o hb q =>
      hk c o (fun q' => hb (by simp [q'])) (fun q' => hb (by simp [q'])) (fun q' => hb (by simp [q'])) (fun q' => hb (by simp [q'])) q) hf⟩
  self := fun A i s Q E st h => iter_zs st.1 h

def iZs (K : PySem.W.Frag) (ta tk : TA) : TI := fun σ H R => ta σ H fun vs H1 => tk σ H1 fun zs H2 => ∃ b1 b2 a b xs ys, vs = [.ref a, .ref b] ∧ zs = [.bl true] ∧ Sq2 b1 K H2 a xs ∧ Sq2 b2 K H2 b ys ∧ R (Itzs K b1 b2 a b) H2
theorem pi_zs {X : Cx} {e e2 : Expr} {kws : List Keyword} {ta tk : TA} {p pos tpos : Pos} {elts : List Expr} {kk : Nat} (hg : Gl X "zip") (hm : X.mg "zip" = none) (ha : PA X [e, e2] ta) (hk : PK X kws tk)
    (he : backTo pos (starEach [e, e2] X.env) = (false, eval e X.env) :: backTo pos (starEach [e2] X.env)) (hpl : (backTo pos (starEach [e, e2] X.env)).any (·.1) = false)
    (hall : (backToKw pos (keywordEach kws X.env)).all (·.1.isSome) = true) (hnone : (backToKw pos (keywordEach kws X.env)).any (·.1.isNone) = false) (hks : (backToKw pos (keywordEach kws X.env)).filterMap (·.1) = [Str.ofString "strict"]) :
    PI X (.Tuple elts kk tpos) (.Call (.Name "zip" p) [e, e2] kws pos) (iZs X.K ta tk) := by
  refine ⟨fun pins s σ H R I h => ?_⟩
  refine wpAny_Call_Name_kw (ld_blt I hg hm PyProof.Rows.boot_zip ?_)
  refine callWith_kwT (thn (ha.run pos pins s σ H _ I h) fun us s0 ⟨vs, H0, I0, r1, q0⟩ => thn (hk.run pos pins s0 σ H0 _ I0 q0) fun ws s1 ⟨zs, H1, I1, r2, q1⟩ => ?_) he hpl hall hnone
  obtain ⟨b1, b2, a, b, xs, ys, ex, ez, hqx, hqy, q⟩ := q1
  subst ex
  subst ez
  rw [hks]
  cases r2 with
  | cons rb rr =>
    cases rr
    cases rb
    cases r1 with
    | cons r rr =>
      cases rr with
      | cons r' rr =>
        cases rr
        cases r
        cases r'
        obtain ⟨its, rv, p1⟩ := hqx.on I1
        obtain ⟨its2, rv2, p2⟩ := hqy.on I1
        refine call_zs p1 p2 fun h' hz hTI hTO h1 h2 hsz hk => iter_zs hz ?_
        have I2 : Inv X pins σ H1 { s1 with heap := h' } := I1.kept (t' := s1.toks) hk
        refine ⟨s1.heap.objs.size + 4, [s1.heap.objs.size + 4, s1.heap.objs.size + 2, s1.heap.objs.size + 3, s1.heap.objs.size, s1.heap.objs.size + 1], _, _, H1, rfl, I2, turn_zs (PySem.W.ktu_apart s1.heap.objs.size a b (Sq2.lt p1) (Sq2.lt p2)), ⟨hz, hTI, ⟨_, _, hTO⟩, h1, h2⟩, fun c hcm => ?_, q⟩
        have hle : s1.heap.objs.size ≤ c := by
          have e' : c = s1.heap.objs.size + 4 ∨ c = s1.heap.objs.size + 2 ∨ c = s1.heap.objs.size + 3 ∨ c = s1.heap.objs.size ∨ c = s1.heap.objs.size + 1 := by simpa using hcm
          rcases e' with z | z | z | z | z <;> rw [z] <;> first | exact Nat.le_add_right _ _ | exact Nat.le_refl _
        exact I1.fpOk hle (I1.hok.fresh hle)
end Tx

namespace Tx
open PySem
open Sem (wp)
/-! max(.., default=d) -/
section
variable {prog : Program} {w : World} {A : Around} {R : Result → Shared → Prop} {I : Addr} {fp wr : List Addr} {n : Nat} {P : Nat → Value → Prop} {St : Nat → Heap → Prop} {dv : Value}
theorem maxD_loop (W : Walks prog w A.in1 I fp wr n P St) (bt : Nat → Nat → Bool) (hcmp : CmpOf prog w A.in1 .Gt P bt) (S : Addr) (hSf : S ∉ fp) :
    ∀ (k j : Nat) (s : Shared) (vb : Value) (c : Nat), n - (j + 1) = k → j + 1 ≤ n → St (j + 1) s.heap → P (argBest bt j) vb →
    s.heap.get? S = some { cls := .type "list", dict := none, data := .seq #[vb, vb] c, slots := #[] } →
    (∀ v h' tk, P (argBest bt (n - 1)) v → (∀ b o, b ∉ wr → b ≠ S → s.heap.get? b = some o → h'.get? b = some o) → R (.ok (.ret v)) { s with heap := h', toks := tk }) →
    codeAny (model prog w) A (.builtin "max.loop" ⟨[.ref I, .none, .ref S], [(Str.ofString "default", dv)]⟩) R s := by
  have hSw : S ∉ wr := fun h => hSf (W.sub _ h)
  have hname : (toString "max" ++ toString ".loop" : String) = "max.loop" := by decide
  intro k
  induction k with
  | zero =>
    intro j s vb c hk hj hst hPb hS hR
    have hin : j + 1 = n := by omega
    refine codeAny_builtin F.entry_max_loop ?_
    rw [Around.under_plainId F.plain_max_loop _]
    show wpAny _ A.in1 (seqItems? (.ref S) >>= _) _ _ s
    refine wpAny_bind (wpAny_seqItems hS rfl ?_)
    show wpAny _ A.in1 (tryCatch (pyNext (.ref I)) _ >>= _) _ _ s
    refine wpAny_bind (wpAny_tryCatch (W.done s _ _ (hin ▸ hst) fun h' tk hk' => ?_))
    have hS' := hk' S _ hSw hS
    show wpAny _ A.in1 (updateSeq S (fun _ => #[]) >>= _) _ _ _
    refine wpAny_bind ?_
    refine wpAny_updateSeq hS' rfl (wpAny_bind (wpAny_letGo (wpAny_pure ?_)))
    refine hR vb _ tk (by rw [← hin]; exact hPb) fun b o hbw hbS e => (Heap.get?_update_other _ _ (Ne.symm hbS)).trans (hk' b o hbw e)
  | succ k ih =>
    intro j s vb c hk hj hst hPb hS hR
    have hlt : j + 1 < n := by omega
    refine codeAny_builtin F.entry_max_loop ?_
    rw [Around.under_plainId F.plain_max_loop _]
    show wpAny _ A.in1 (seqItems? (.ref S) >>= _) _ _ s
    refine wpAny_bind (wpAny_seqItems hS rfl ?_)
    show wpAny _ A.in1 (tryCatch (pyNext (.ref I)) _ >>= _) _ _ s
    refine wpAny_bind (wpAny_tryCatch (W.item (j + 1) s _ _ hlt hst fun v h' tk hP hst' hk' => ?_))
    have hS' := hk' S _ hSw hS
    show wpAny _ A.in1 (tryCatch (holding [v, v] (richCompare .Gt v vb >>= _)) _ >>= _) _ _ _
    refine wpAny_bind (wpAny_tryCatch (wpAny_holding (wpAny_bind (hcmp (j + 1) (argBest bt j) v vb _ _ _ hP hPb ?_))))
    refine wpAny_bind (wpAny_holding (wpAny_truthy_bool ?_))
    refine wpAny_bind (wpAny_letGo (wpAny_pure ?_))
    cases hb : bt (j + 1) (argBest bt j) with
    | true =>
      simp only [if_true]
      refine wpAny_bind ?_
      refine wpAny_updateSeq hS' rfl (wpAny_bind (wpAny_letGo ?_))
      rw [hname]
      refine wpAny_pure ⟨plainId_quiet F.plain_max_loop _, ih (j + 1) _ v _ (by omega) hlt (W.frame _ _ _ hst' fun b hbf o e => ?_) (by simp only [argBest, hb, if_true]; exact hP) (Heap.get?_update_self _ hS' rfl)
        fun v' h'' tk'' hP' hk'' => ?_⟩
      · exact (Heap.get?_update_other _ _ (fun h : S = b => hSf (by rw [h]; exact hbf))).trans e
      · exact hR v' h'' tk'' hP' fun b o hbw hbS e => hk'' b o hbw hbS ((Heap.get?_update_other _ _ (Ne.symm hbS)).trans (hk' b o hbw e))
    | false =>
      simp only [Bool.false_eq_true, if_false]
      refine wpAny_bind (wpAny_letGo ?_)
      rw [hname]
      refine wpAny_pure ⟨plainId_quiet F.plain_max_loop _, ih (j + 1) _ vb c (by omega) hlt hst' (by simp only [argBest, hb, Bool.false_eq_true, if_false]; exact hPb) hS' fun v' h'' tk'' hP' hk'' => ?_⟩
      exact hR v' h'' tk'' hP' fun b o hbw hbS e => hk'' b o hbw hbS (hk' b o hbw e)

theorem maxD_loop_first (W : Walks prog w A.in1 I fp wr n P St) (bt : Nat → Nat → Bool) (hcmp : CmpOf prog w A.in1 .Gt P bt) (S : Addr) (hSf : S ∉ fp) (hn : 0 < n) {s : Shared} {c : Nat} (hst : St 0 s.heap)
    (hS : s.heap.get? S = some { cls := .type "list", dict := none, data := .seq #[] c, slots := #[] })
    (hR : ∀ v h' tk, P (argBest bt (n - 1)) v → (∀ b o, b ∉ wr → b ≠ S → s.heap.get? b = some o → h'.get? b = some o) → R (.ok (.ret v)) { s with heap := h', toks := tk }) :
    codeAny (model prog w) A (.builtin "max.loop" ⟨[.ref I, .none, .ref S], [(Str.ofString "default", dv)]⟩) R s := by
  have hSw : S ∉ wr := fun h => hSf (W.sub _ h)
  have hname : (toString "max" ++ toString ".loop" : String) = "max.loop" := by decide
  refine codeAny_builtin F.entry_max_loop ?_
  rw [Around.under_plainId F.plain_max_loop _]
  show wpAny _ A.in1 (seqItems? (.ref S) >>= _) _ _ s
  refine wpAny_bind (wpAny_seqItems hS rfl ?_)
  show wpAny _ A.in1 (tryCatch (pyNext (.ref I)) _ >>= _) _ _ s
  refine wpAny_bind (wpAny_tryCatch (W.item 0 s _ _ hn hst fun v h' tk hP hst' hk' => ?_))
  have hS' := hk' S _ hSw hS
  show wpAny _ A.in1 (updateSeq S (fun _ => #[v, v]) >>= _) _ _ _
  refine wpAny_bind ?_
  refine wpAny_updateSeq hS' rfl ?_
  rw [hname]
  refine wpAny_pure ⟨plainId_quiet F.plain_max_loop _, maxD_loop W bt hcmp S hSf _ 0 _ v _ rfl hn (W.frame _ _ _ hst' fun b hbf o e => ?_) hP (Heap.get?_update_self _ hS' rfl) fun v' h'' tk'' hP' hk'' => ?_⟩
  · exact (Heap.get?_update_other _ _ (fun h : S = b => hSf (by rw [h]; exact hbf))).trans e
  · exact hR v' h'' tk'' hP' fun b o hbw hbS e => hk'' b o hbw hbS ((Heap.get?_update_other _ _ (Ne.symm hbS)).trans (hk' b o hbw e))
theorem maxD_none (W : Walks prog w A.in1 I fp wr 0 P St) (S : Addr) (hSf : S ∉ fp) {s : Shared} {c : Nat} (hst : St 0 s.heap)
    (hS : s.heap.get? S = some { cls := .type "list", dict := none, data := .seq #[] c, slots := #[] })
    (hR : ∀ h' tk, (∀ b o, b ∉ wr → s.heap.get? b = some o → h'.get? b = some o) → R (.ok (.ret dv)) { s with heap := h', toks := tk }) :
    codeAny (model prog w) A (.builtin "max.loop" ⟨[.ref I, .none, .ref S], [(Str.ofString "default", dv)]⟩) R s := by
  refine codeAny_builtin F.entry_max_loop ?_
  rw [Around.under_plainId F.plain_max_loop _]
  show wpAny _ A.in1 (seqItems? (.ref S) >>= _) _ _ s
  refine wpAny_bind (wpAny_seqItems hS rfl ?_)
  show wpAny _ A.in1 (tryCatch (pyNext (.ref I)) _ >>= _) _ _ s
  refine wpAny_bind (wpAny_tryCatch (W.done s _ _ hst fun h' tk hk' => ?_))
  refine wpAny_bind (wpAny_rule (wpAny_pure ?_))
  exact hR h' tk hk'
end
section
variable {prog : Program} {w : World} {A : Around} {E : Value → Shared → Prop} {s : Shared}
theorem call_tree_kw {id : String} {b : Builtin} {args : List Value} {kw : List (Str × Value)} {Q : Value → Shared → Prop} (hk : builtinKind id = none) (hp : plainId id = true)
    (hb : entryFor table id = some b) (ha : argsOk id ⟨args, kw⟩)
    (hc : wpAny (model prog w) A.in1 (b ⟨args, kw⟩) (fun fin s' => match fin with
      | .done f => (match (Except.ok f : Result) with | .ok (.ret v) => Q v s' | .ok _ => False | .error e => E e s')
      | .again c' => c'.quiet = true ∧ codeAny (model prog w) A c' (fun r s' => match r with | .ok (.ret v) => Q v s' | .ok _ => False | .error e => E e s') s') E s) :
    wpAny (model prog w) A (call (.builtin id) args kw) Q E s := by
  refine wpAny_call (codeAny_call_builtin hp hb ?_)
  simp only [checkBuiltinCall, hk]
  cases hsig : Manifest.signature? id with
  | none => exact wpAny_pure hc
  | some sig =>
    simp only [argsOk, hsig] at ha
    have h2 : Bind.checkArgs id sig ⟨args, kw⟩ = pure () := ha
    show wpAny _ A.in1 (Bind.checkArgs id sig ⟨args, kw⟩) _ _ s
    rw [h2]; exact wpAny_pure hc
theorem args_maxD (a d : Value) : argsOk "max" ⟨[a], [(Str.ofString "default", d)]⟩ := by unfold argsOk; kernel_rfl
theorem call_maxD_walk {x dv : Value} {Q : Value → Shared → Prop}
    (h : wpAny (model prog w) A.in1 (pyIter x) (fun it s₂ => ∃ I fp wr n P St bt, it = .ref I ∧ Walks prog w A.in1 I fp wr n P St ∧ St 0 s₂.heap ∧ (∀ b ∈ fp, b < s₂.heap.objs.size) ∧ CmpOf prog w A.in1 .Gt P bt ∧
      (0 < n → ∀ v h' tk, P (argBest bt (n - 1)) v → (∀ b o, b ∉ wr → s₂.heap.get? b = some o → h'.get? b = some o) → Q v { s₂ with heap := h', toks := tk }) ∧
      (n = 0 → ∀ h' tk, (∀ b o, b ∉ wr → s₂.heap.get? b = some o → h'.get? b = some o) → Q dv { s₂ with heap := h', toks := tk })) E s) :
    wpAny (model prog w) A (call (.builtin "max") [x] [(Str.ofString "default", dv)]) Q E s := by
  have hname : (toString "max" ++ toString ".loop" : String) = "max.loop" := by decide
  refine call_tree_kw F.kind_max F.plain_max F.entry_max (args_maxD _ _) ?_
  show wpAny _ A.in1 (Builtin.Builtins.bindParams "max" ["key", "default"] 0 ⟨[], [(Str.ofString "default", dv)]⟩ >>= _) _ _ s
  refine wpAny_bind (wpAny_of_eq (show Builtin.Builtins.bindParams "max" ["key", "default"] 0 ⟨[], [(Str.ofString "default", dv)]⟩ = pure [none, some dv] from by kernel_rfl) ?_)
  refine wpAny_bind (wpAny_pure ?_)
  refine wpAny_bind (wpAny_mono h (fun it s₂ h₂ => ?_) fun _ _ e => e)
  obtain ⟨I, fp, wr, n, P, St, bt, rfl, W, hst, hfp, hcmp, hQ, hQ0⟩ := h₂
  refine wpAny_bind (wpAny_newObj_type ?_)
  have hSf : s₂.heap.objs.size ∉ fp := fun hm => Nat.lt_irrefl _ (hfp _ hm)
  rw [hname]
  cases n with
  | zero =>
    refine wpAny_pure ⟨plainId_quiet F.plain_max_loop _, maxD_none W s₂.heap.objs.size hSf (W.frame _ _ _ hst fun b _ o e => Heap.get?_push_of_some _ e) (Heap.get?_push_size _ rfl) fun h' tk hk => ?_⟩
    exact hQ0 rfl h' tk fun b o hbw e => hk b o hbw (Heap.get?_push_of_some _ e)
  | succ n =>
    refine wpAny_pure ⟨plainId_quiet F.plain_max_loop _, maxD_loop_first W bt hcmp s₂.heap.objs.size hSf (Nat.succ_pos n) (W.frame _ _ _ hst fun b _ o e => Heap.get?_push_of_some _ e) (Heap.get?_push_size _ rfl) fun v h' tk hP hk => ?_⟩
    exact hQ (Nat.succ_pos n) v h' tk hP fun b o hbw e => hk b o hbw (Nat.ne_of_lt (Heap.lt_size e)) (Heap.get?_push_of_some _ e)
theorem maxD_intList {l : Addr} {xs : Array (Int × Tok)} {dv : Value} {Q : Value → Shared → Prop} (hh : A.handled = none) (hl : s.heap.IsList l (intItems xs))
    (h : 0 < xs.size → ∀ v h' tk, (intItems xs)[argBest (fun i j => decide (numAt xs i > numAt xs j)) (xs.size - 1)]? = some v → (∀ b o, s.heap.get? b = some o → h'.get? b = some o) → Q v { s with heap := h', toks := tk })
    (h0 : xs.size = 0 → ∀ h' tk, (∀ b o, s.heap.get? b = some o → h'.get? b = some o) → Q dv { s with heap := h', toks := tk }) :
    wpAny (model prog w) A (call (.builtin "max") [.ref l] [(Str.ofString "default", dv)]) Q E s := by
  refine call_maxD_walk (iter_intList hl fun s₂ e st hfp hlI => ?_)
  subst e
  refine ⟨_, _, _, _, _, _, _, rfl, Walks.list (A := A.in1) hh _ l hlI (intItems xs), st, hfp, CmpOf.ints_gt (numAt xs) (fun _ _ => intItems_at), fun hn v h' tk hP hk => ?_, fun hn h' tk hk => ?_⟩
  · exact h (by simpa [intItems] using hn) v h' tk (by simpa [intItems] using hP) (old_kept hk)
  · exact h0 (by simpa [intItems] using hn) h' tk (old_kept hk)
end
end Tx
namespace Tx
open PySem PySem.Spec PyProof.Rows L2
section
variable {X : Cx}
/-- max(xs, default=d), xs a list of ints -/
def rMaxD (K : PySem.W.Frag) : List V → List V → Hp → VK → Prop := fun vs zs H Q => ∃ (a : Addr) (ns : List Int) (d : V), vs = [V.ref a] ∧ zs = [d] ∧ SqL K H a (ns.map V.int) ∧ (ns = [] → Q d H) ∧ (0 < ns.length → ∀ m, m ∈ ns → (∀ y, y ∈ ns → y ≤ m) → Q (.int m) H)
theorem cr_maxDf (hc : X.calm = true) : CallRK X (.builtin "max") [Str.ofString "default"] (rMaxD X.K) := by
  intro pins s σ H vs zs us ws Q I r r2 h
  obtain ⟨a, ns, d, rfl, rfl, hs, q0, q⟩ := h
  obtain ⟨its, rv, hl, _⟩ := I.list hs
  rw [Vals.ref1 r]
  cases r2 with
  | cons rd rr =>
    cases rr
    have hi : IntsAre its ns := rv.ints
    obtain ⟨xs, e⟩ := hi.allInts.items
    have hn : numsOf (intItems xs).toList = ns := by rw [← e]; exact hi.numsOf
    rw [nums_intItems] at hn
    subst hn
    have hl' := hl.isList
    rw [e] at hl'
    refine maxD_intList (I.ok.hd hc) hl' (fun hsz v h' tk hv hk => ?_) fun h0 h' tk hk => ?_
    · obtain ⟨t, rfl⟩ := intItems_at hv
      obtain ⟨h1, h2⟩ := argBest_gt (numAt xs) (xs.size - 1)
      refine ⟨.int _, H, I.kept hk, ⟨_, rfl⟩, q (by rw [List.length_map, Array.length_toList]; exact hsz) _ ?_ fun a ha => ?_⟩
      · rw [numAt_eq]; exact PySem.getD_mem (by rw [List.length_map, Array.length_toList]; omega)
      · obtain ⟨j, hj, rfl⟩ := mem_getD ha
        rw [List.length_map, Array.length_toList] at hj
        rw [← numAt_eq]; exact h2 j (by omega)
    · refine ⟨d, H, I.kept hk, rd, q0 ?_⟩
      have : xs = #[] := Array.eq_empty_of_size_eq_zero h0
      subst this
      rfl
end
end Tx

namespace Sv
open PySem PySem.Spec PyProof.Rows L2 Tx
/-! max(xs, default=d); range(i, j, -1) -/
def maxDf (ns : List Int) (d : D) : D := match ns with
  | [] => d
  | n :: ns => .int (maxI (n :: ns))
def downD (hi : Int) (n : Nat) : List D := (List.range n).map fun (k : Nat) => D.int (hi - (k : Int))
section
variable {X : Cx} {Γ Γ1 Γ2 Γ3 : Gm} {e f e2 tg : Expr} {r1 : Rs} {d3 : D} {p pos kp : Pos}
theorem de_maxD {xs : List D} {ns : List Int} (hc : X.calm = true) (hg : Gl X "max") (hm : X.mg "max" = none) (he : DE X e Γ r1 Γ1) (hf : DE X f Γ1 (.val d3) Γ2) (hr : readR r1 Γ2 = some (.lst xs)) (hi : intsOf xs = some ns) (st : starEach [e] X.env = [(false, eval e X.env)]) :
    DE X (.Call (.Name "max" p) [e] [⟨some "default", f, kp⟩] pos) Γ (.val (maxDf ns d3)) Γ2 := by
  have ha : DA X [e] Γ [r1] Γ1 := da_cons he da_nil (by rw [st]; rfl)
  refine pe_sub (pe_callBK (cr_maxDf hc) hg hm rfl ha (pk_cons hf pk_nil) (he := by rw [st]; rfl) (hpl := by rw [st]; rfl)) fun σ H Q q => ⟨q.1, fun vs H1 s1 p1 o1 => ⟨s1.env, fun z H2 s2 p2 o2 => ?_⟩⟩
  obtain ⟨v, ws, rfl, p1, hw, _⟩ := p1
  have hw : ws = [] := hw
  subst hw
  have k1 := read_ok s2.env (p1.ste s2) hr
  obtain ⟨a, vs, rfl, hs, hv⟩ := k1.lst
  have ee := intsOf_v hi hv
  subst ee
  refine ⟨a, ns, z, rfl, rfl, hs, fun h0 => ?_, fun hl m hm hle => ?_⟩
  · subst h0
    exact q.2 _ H2 (s1.trans s2) p2 trivial
  · cases ns with
    | nil => simp at hl
    | cons n ns =>
      refine q.2 _ H2 (s1.trans s2) ?_ trivial
      show Rp X.K H2 (.int (maxI (n :: ns))) (.int m)
      simp only [Rp]
      rw [maxI_is n ns m hm hle]
theorem wk_down {K : PySem.W.Frag} (lo : Int) (n : Nat) : Wk K (Itc lo (-1) n) (downD lo n) (fun _ => True) where
  go := fun i H _ lt => by simpa [downD, Itc] using lt
  yld := fun i H x H' _ y lt => by
    obtain ⟨rfl, rfl⟩ := y
    have lt' : i < n := by simpa [downD] using lt
    refine ⟨same_refl _, .int (lo - i), ?_, by simp only [Rp]; congr 1; omega⟩
    unfold downD
    rw [List.getElem?_map, List.getElem?_range lt']
    rfl
  stop := fun i H _ ge => by simpa [downD, Itc] using ge
  per := fun _ _ _ _ => trivial
theorem RpRL.three {K : PySem.W.Frag} {H : Hp} {d d' d'' : D} {vs : List V} (h : RpRL K H [d, d', d''] vs) : ∃ v w z, vs = [v, w, z] ∧ RpR K H d v ∧ RpR K H d' w ∧ RpR K H d'' z := by
  obtain ⟨v, r, rfl, h1, h2⟩ := h
  obtain ⟨w, z, rfl, h3, h4⟩ := RpRL.two h2
  exact ⟨v, w, z, rfl, h1, h3, h4⟩
theorem di_down {e3 : Expr} {rs : List Rs} {m n : Int} (ha : DA X [e, e2, e3] Γ rs Γ1) (hr : readRs rs Γ1 = some [.int m, .int n, .int (-1)]) (hm1 : small62 m = true) (hn : small62 n = true) (hg : Gl X "range") (hm : X.mg "range" = none) (hs : starEach [e, e2, e3] X.env = (false, eval e X.env) :: starEach [e2, e3] X.env) (hs2 : (backTo pos (starEach [e2, e3] X.env)).any (·.1) = false) :
    DI X tg (.Call (.Name "range" p) [e, e2, e3] [] pos) Γ (downD m (m - n).toNat) Γ1 :=
  pi_sub (pi_range3 hg hm ha hs hs2) fun σ H R q => ⟨q.1, fun vs H1 s1 p1 o1 => by
    obtain ⟨v, w, z, rfl, h1, h2, h3⟩ := RpRL.three (reads_ok s1.env p1 hr)
    have e1 := h1.int
    have e2 := h2.int
    have e3 := h3.int
    subst e1
    subst e2
    subst e3
    obtain ⟨a, b⟩ := small62_of hn
    obtain ⟨c, d⟩ := small62_of hm1
    exact ⟨m, n, -1, _, rfl, RgC.neg c d a b, q.2 _ _ H1 s1 (wk_down m (m - n).toNat) trivial⟩⟩
end
end Sv

namespace Sv
open PySem PySem.Spec PyProof.Rows L2 Tx
/-! repr -/
mutual
def toPy : D → PyData
  | .non => .none
  | .bl b => .bool b
  | .int i => .int i
  | .str x => .str x
  | .tup xs => .tuple (toPyL xs)
  | .lst xs => .list (toPyL xs)
  | _ => .none
def toPyL : List D → List PyData
  | [] => []
  | d :: ds => toPy d :: toPyL ds
end
mutual
def okPy : D → Bool
  | .non => true
  | .bl _ => true
  | .int _ => true
  | .str _ => true
  | .tup xs => okPyL xs
  | .lst xs => okPyL xs
  | _ => false
def okPyL : List D → Bool
  | [] => true
  | d :: ds => okPy d && okPyL ds
end
mutual
theorem noDict : ∀ d : D, (toPy d).hasDict = false
  | .non => by simp [toPy, PyData.hasDict]
  | .bl _ => by simp [toPy, PyData.hasDict]
  | .int _ => by simp [toPy, PyData.hasDict]
  | .str _ => by simp [toPy, PyData.hasDict]
  | .tup xs => by simp only [toPy, PyData.hasDict]; exact noDictL xs
  | .lst xs => by simp only [toPy, PyData.hasDict]; exact noDictL xs
  | .dK _ => by simp [toPy, PyData.hasDict]
  | .dT _ => by simp [toPy, PyData.hasDict]
  | .scr _ => by simp [toPy, PyData.hasDict]
  | .hid _ => by simp [toPy, PyData.hasDict]
theorem noDictL : ∀ ds : List D, PyData.hasDictAll (toPyL ds) = false
  | [] => by simp [toPyL, PyData.hasDictAll]
  | d :: ds => by simp [toPyL, PyData.hasDictAll, noDict d, noDictL ds]
end
section
variable {X : Cx} {pins : List (Addr × Obj)} {σ : L2.St} {H : Hp} {s : Shared}
mutual
theorem reads_py (I : Inv X pins σ H s) : ∀ (d : D) (v : V) (u : Value), okPy d = true → Rp X.K H d v → RelV v u → ∃ as, Reads s.heap u (toPy d) as
  | .non, v, u, _, h, r => by
    simp only [Rp] at h
    subst h
    cases r
    exact ⟨_, .none⟩
  | .bl b, v, u, _, h, r => by
    simp only [Rp] at h
    subst h
    cases r
    exact ⟨_, .bool b⟩
  | .int i, v, u, _, h, r => by
    simp only [Rp] at h
    subst h
    obtain ⟨t, rfl⟩ := r
    exact ⟨_, .int i t⟩
  | .str x, v, u, _, h, r => by
    simp only [Rp] at h
    obtain ⟨rfl, _⟩ := h
    obtain ⟨t, rfl⟩ := r
    exact ⟨_, .str x t⟩
  | .tup xs, v, u, ok, h, r => by
    simp only [Rp] at h
    obtain ⟨a, vs, rfl, hs, hl⟩ := h
    obtain rfl : u = Value.ref a := r
    obtain ⟨its, rv, ⟨o, e, c1, n, c2⟩, _⟩ := I.tuple hs
    obtain ⟨as, ra⟩ := readsL_py I xs vs its (by simpa only [okPy] using ok) hl rv
    exact ⟨_, by simp only [toPy]; exact .tuple e c1 c2 (by simpa using ra)⟩
  | .lst xs, v, u, ok, h, r => by
    simp only [Rp] at h
    obtain ⟨a, vs, rfl, hs, hl⟩ := h
    obtain rfl : u = Value.ref a := r
    obtain ⟨its, rv, ⟨o, n, e, c1, c2, c3⟩, _⟩ := I.list (sqF_sq hs)
    obtain ⟨as, ra⟩ := readsL_py I xs vs its (by simpa only [okPy] using ok) hl rv
    exact ⟨_, by simp only [toPy]; exact .list e c1 c3 (by simpa using ra)⟩
  | .dK _, _, _, ok, _, _ => by simp [okPy] at ok
  | .dT _, _, _, ok, _, _ => by simp [okPy] at ok
  | .scr _, _, _, ok, _, _ => by simp [okPy] at ok
  | .hid _, _, _, ok, _, _ => by simp [okPy] at ok
theorem readsL_py (I : Inv X pins σ H s) : ∀ (ds : List D) (vs : List V) (us : List Value), okPyL ds = true → RpL X.K H ds vs → Vals vs us → ∃ as, ReadsAll s.heap us (toPyL ds) as
  | [], vs, us, _, h, r => by
    simp only [RpL] at h
    subst h
    cases r
    exact ⟨_, .nil⟩
  | d :: ds, vs, us, ok, h, r => by
    simp only [RpL] at h
    obtain ⟨v, w, rfl, h1, h2⟩ := h
    simp only [okPyL, Bool.and_eq_true] at ok
    cases r with
    | cons r1 r2 =>
      obtain ⟨as, q1⟩ := reads_py I d v _ ok.1 h1 r1
      obtain ⟨bs, q2⟩ := readsL_py I ds w _ ok.2 h2 r2
      exact ⟨_, by simp only [toPyL]; exact .cons q1 q2⟩
end
end
def isSeq : D → Bool
  | .tup _ => true
  | .lst _ => true
  | _ => false
def okRep (d : D) : Bool := isSeq d && okPy d && (toPy d).showable && decide ((toPy d).depth ≤ 60) && decide ((toPy d).shown.length ≤ lim) && PyData.strOk (toPy d).shown
section
variable {X : Cx}
theorem cr_repr {d : D} (hg : X.A.guards = some []) (hu : X.A.units + 65 < cLine) (ok : okRep d = true) : CallR X (.builtin "repr") (fun vs H Q => ∃ v, vs = [v] ∧ RpR X.K H d v ∧ Q (.str (toPy d).shown) H) := by
  intro pins s σ H xs us Q I r q
  obtain ⟨v, rfl, hv, q⟩ := q
  simp only [okRep, Bool.and_eq_true, decide_eq_true_eq] at ok
  obtain ⟨⟨⟨⟨⟨k1, k2⟩, k3⟩, k4⟩, k5⟩, k6⟩ := ok
  have rd : ∃ a as, us = [.ref a] ∧ Reads s.heap (.ref a) (toPy d) as := by
    cases d with
    | tup ds =>
      obtain ⟨a, vs, rfl, hs, hl⟩ := hv.tup
      rw [Vals.ref1 r]
      obtain ⟨its, rv, ⟨o, e, c1, n, c2⟩, _⟩ := I.tuple hs
      obtain ⟨as, ra⟩ := readsL_py I ds vs its (by simpa only [okPy] using k2) hl rv
      exact ⟨a, _, rfl, by simp only [toPy]; exact .tuple e c1 c2 (by simpa using ra)⟩
    | lst ds =>
      obtain ⟨a, vs, rfl, hs, hl⟩ := hv.lst
      rw [Vals.ref1 r]
      obtain ⟨its, rv, ⟨o, n, e, c1, c2, c3⟩, _⟩ := I.list hs
      obtain ⟨as, ra⟩ := readsL_py I ds vs its (by simpa only [okPy] using k2) hl rv
      exact ⟨a, _, rfl, by simp only [toPy]; exact .list e c1 c3 (by simpa using ra)⟩
    | _ => simp [isSeq] at k1
  obtain ⟨a, as, rfl, rd⟩ := rd
  refine repr_of_reads' rd k3 (PyData.noDict_hsm (noDict d)) hg (by omega) (fun _ _ h => h) (fun h' u tk hk => ?_) (lim_size k5)
  exact ⟨.str (toPy d).shown, H, I.kept (t' := tk) fun b o e => hk b o e, ⟨u, rfl⟩, q⟩
theorem de_rpr {Γ Γ1 : Gm} {e : Expr} {r1 : Rs} {d : D} {p pos : Pos} (hgd : X.A.guards = some []) (hu : X.A.units + 65 < cLine) (hg : Gl X "repr") (hm : X.mg "repr" = none) (he : DE X e Γ r1 Γ1) (hr : readR r1 Γ1 = some d) (ok : okRep d = true) (st : starEach [e] X.env = [(false, eval e X.env)]) :
    DE X (.Call (.Name "repr" p) [e] [] pos) Γ (.val (.str (toPy d).shown)) Γ1 := by
  have ha : DA X [e] Γ [r1] Γ1 := da_cons he da_nil (by rw [st]; rfl)
  refine pe_sub (pe_callB (cr_repr hgd hu ok) hg hm (by decide +kernel) ha (he := by rw [st]; rfl) (hpl := rfl)) fun σ H Q q => ⟨q.1, fun vs H1 s1 p1 o1 => ?_⟩
  obtain ⟨v, ws, rfl, p1, hw, _⟩ := p1
  have hw : ws = [] := hw
  subst hw
  refine ⟨v, rfl, read_ok s1.env p1 hr, q.2 _ H1 s1 ?_ trivial⟩
  show Rp X.K H1 (.str (toPy d).shown) (.str (toPy d).shown)
  simp only [Rp, true_and]
  simp only [okRep, Bool.and_eq_true] at ok
  exact ok.2
end
end Sv

namespace Sv
open PySem PySem.Spec PyProof.Rows L2 Tx
/-! sorted -/
def keysS : List (Key × D) → Option (List Str)
  | [] => some []
  | (.inr k, _) :: r => (keysS r).map (k :: ·)
  | _ => none
def ltI (a b : Int) : Bool := decide (a < b)
theorem ltI_ord : SLt ltI := by
  constructor
  · intro a
    simp [ltI]
  · intro a b c h1 h2
    simp only [ltI, decide_eq_true_eq] at *
    omega
  · intro a b h1 h2
    simp only [ltI, decide_eq_false_iff_not] at *
    omega
def sortD : D → Option (List D)
  | .dK kvs => match keysS kvs with
    | some ks => if ks.length < 64 ∧ (ks.all PyData.strOk) = true then some ((sortBy ltS ks).map .str) else none
    | none => none
  | .lst xs => match intsOf xs with
    | some ns => some ((sortBy ltI ns).map .int)
    | none => match strsD xs with
      | some ys => if ys.length < 64 then some ((sortBy ltS ys).map .str) else none
      | none => none
  | _ => none
theorem keysS_v {K : PySem.W.Frag} {H : Hp} : ∀ {kvs : List (Key × D)} {ks : List Str} {ws : List (Key × V)}, keysS kvs = some ks → RpK K H kvs ws → ws.map (·.1) = ks.map Sum.inr
  | [], ks, ws, h, r => by
    simp only [keysS, Option.some.injEq] at h
    subst h
    simp only [RpK] at r
    subst r
    rfl
  | (.inr k, d) :: kvs, ks, ws, h, r => by
    simp only [keysS] at h
    cases hx : keysS kvs with
    | none => rw [hx] at h; cases h
    | some q =>
      rw [hx] at h
      cases h
      simp only [RpK] at r
      obtain ⟨v, w, rfl, h1, h2⟩ := r
      rw [List.map_cons, keysS_v hx h2]
      rfl
  | (.inl k, d) :: kvs, ks, ws, h, r => by simp [keysS] at h
theorem strsD_v {K : PySem.W.Frag} {H : Hp} : ∀ {xs : List D} {ys : List Str} {vs : List V}, strsD xs = some ys → RpL K H xs vs → vs = ys.map V.str ∧ ∀ y ∈ ys, PyData.strOk y = true
  | [], ys, vs, h, r => by
    simp only [strsD, Option.some.injEq] at h
    subst h
    simp only [RpL] at r
    exact ⟨r, by simp⟩
  | d :: xs, ys, vs, h, r => by
    cases d <;> simp only [strsD, reduceCtorEq] at h
    next x =>
    cases hx : strsD xs with
    | none => rw [hx] at h; cases h
    | some q =>
      rw [hx] at h
      cases h
      simp only [RpL] at r
      obtain ⟨v, w, rfl, h1, h2⟩ := r
      simp only [Rp] at h1
      obtain ⟨e, ok⟩ := strsD_v hx h2
      refine ⟨by rw [h1.1, e]; rfl, fun y hy => ?_⟩
      rcases List.mem_cons.1 hy with rfl | hy
      · exact h1.2
      · exact ok y hy
section
variable {X : Cx}
theorem RpL.ints {K : PySem.W.Frag} {H : Hp} : ∀ (ns : List Int), RpL K H (ns.map D.int) (ns.map V.int)
  | [] => rfl
  | n :: ns => ⟨_, _, rfl, by simp only [Rp], RpL.ints ns⟩
theorem srt_ints {ns' : List Int} (h : ns'.Pairwise (· ≤ ·)) : Srt ltI ns' := by
  refine h.imp fun {a b} q => ?_
  simp only [ltI, decide_eq_false_iff_not]
  omega
theorem sort_ok {d : D} {out : List D} (hc : X.calm = true) (h : sortD d = some out) : ∃ o, CallR X (.builtin "sorted") o ∧ CaS X.K o [d] (.new (.lst out)) := by
  unfold sortD at h
  split at h
  · next kvs =>
    split at h
    · next ks hk =>
      split at h
      · next hh =>
        cases h
        refine ⟨_, call_sortedD hc, fun H xs Q g0 k => ?_⟩
        obtain ⟨v, rfl, h1⟩ := RpRL.one g0
        obtain ⟨a, ws, rfl, hr, hw⟩ := h1.dk
        refine ⟨a, ws, ks, rfl, hr, keysS_v hk hw, hh.1, fun ys p hp hs hn => ?_⟩
        have e := srt_is ltS_ord (sortedS_srt hs) hp
        subst e
        refine k _ _ (same_new hn) ⟨p, rfl, hn, _, upd_same, ?_⟩
        refine RpL.strs fun y hy => ?_
        exact List.all_eq_true.1 hh.2 y ((sortBy_perm ks).mem_iff.1 hy)
      · cases h
    · cases h
  · next xs =>
    split at h
    · next ns hn =>
      cases h
      refine ⟨_, cr_sortedI, fun H xs Q g0 k => ?_⟩
      obtain ⟨v, rfl, h1⟩ := RpRL.one g0
      obtain ⟨a, vs, rfl, hs, hv⟩ := h1.lst
      have e := intsOf_v hn hv
      subst e
      refine ⟨a, ns, rfl, hs, fun ns' p hp hs hn => ?_⟩
      have e := srt_is ltI_ord (srt_ints hs) hp
      subst e
      exact k _ _ (same_new hn) ⟨p, rfl, hn, _, upd_same, RpL.ints _⟩
    · split at h
      · next ys hy =>
        split at h
        · next hl =>
          cases h
          refine ⟨_, cr_sortedS, fun H xs Q g0 k => ?_⟩
          obtain ⟨v, rfl, h1⟩ := RpRL.one g0
          obtain ⟨a, vs, rfl, hs, hv⟩ := h1.lst
          obtain ⟨e, ok⟩ := strsD_v hy hv
          subst e
          refine ⟨a, ys, rfl, hs, hl, fun zs p hp hs hn => ?_⟩
          have e := srt_is ltS_ord (sortedS_srt hs) hp
          subst e
          exact k _ _ (same_new hn) ⟨p, rfl, hn, _, upd_same, RpL.strs fun y hy => ok y ((sortBy_perm ys).mem_iff.1 hy)⟩
        · cases h
      · cases h
  · cases h
theorem de_srt {Γ Γ1 : Gm} {e : Expr} {r1 : Rs} {d : D} {out : List D} {p pos : Pos} (hc : X.calm = true) (hg : Gl X "sorted") (hm : X.mg "sorted" = none) (he : DE X e Γ r1 Γ1) (hr : readR r1 Γ1 = some d) (hs : sortD d = some out) (st : starEach [e] X.env = [(false, eval e X.env)]) :
    DE X (.Call (.Name "sorted" p) [e] [] pos) Γ (.new (.lst out)) Γ1 := by
  obtain ⟨o, c1, c2⟩ := sort_ok hc hs
  exact de_callB c1 hg hm (by decide +kernel) (da_cons he da_nil (by rw [st]; rfl)) (by simp only [readRs, hr]) c2 (by decide) (by decide) (by rw [st]; rfl) rfl
end
end Sv

namespace Sv
open PySem PySem.Spec PyProof.Rows L2 Tx
section
variable {X : Cx} {Γ Γ1 Γ2 Γ3 : Gm} {o e : Expr} {r : Rs} {d : D} {i : Nat} {pos p2 : Pos}
/-- x[k] = e, x a dict of one's own -/
theorem ds_dset {ix : Expr} {kvs : List (Key × D)} {k : Key} {dk : D} (hu : X.A.units + 65 < cLine) (he : DE X e Γ (.val d) Γ1) (ho : DE X o Γ1 (.slot i) Γ2) (hi : DE X ix Γ2 r Γ3) (hr : readR r Γ3 = some dk) (hk : keyOfD dk = some k) (hw : ownAt Γ3 i = some (.dK kvs)) (hl : kvs.length < 1000000)
    (hs : swapsWith e (some (.Subscript o ix p2)) pos.line X.env = pure false) : DS X (.Assign [.Subscript o ix p2] e pos) Γ .nx (setOwn Γ3 i (.dK (putD kvs k d))) := by
  refine ps_sub (ps_dput (by omega) ho hi he hs) fun Dn σ H q => ⟨q.1, fun v H1 s1 p1 o1 => ⟨s1.env, fun x H2 s2 p2' o2 => ⟨s2.env, fun y H3 s3 p3' o3 => ?_⟩⟩⟩
  obtain ⟨a, h1', c1⟩ := s3.env.mu i _ (ownAt_iff.1 hw)
  have px : σ[i]? = some (some x) := p2'
  rw [px] at h1'
  cases h1'
  obtain ⟨ws, hws, rw1⟩ := c1
  have ey := keyOfD_v hk (read_ok s3.env p3' hr)
  subst ey
  have rv : Rp X.K H3 d v := Rp.per (s2.trans s3).per _ _ p1
  refine ⟨a, _, rfl, DPut.k hws (by rw [rw1.length]; exact Nat.lt_of_lt_of_le hl (by decide)), ?_⟩
  have pr : Per H3 (upd H3 a (.dK (putK ws k v))) := fun b u im hb => by
    rw [upd_ne (fun z => by subst z; rw [hws] at hb; cases hb; exact im)]
    exact hb
  have st := Ste.own (d' := .dK (putD kvs k d)) s3.env hw px (H' := upd H3 a (.dK (putK ws k v))) (fun b u nb hb => by rw [upd_ne nb]; exact hb) ⟨_, upd_same, RpK.per pr _ _ (rw1.put rv)⟩
  exact q.2.2 σ _ (((s1.trans s2).trans s3).trans st)
end
end Sv

namespace Sv
open PySem PySem.Spec PyProof.Rows L2 Tx
def enumD : Nat → List D → List D
  | _, [] => []
  | n, d :: ds => .tup [.int n, d] :: enumD (n + 1) ds
theorem enumD_len : ∀ (n : Nat) (ds : List D), (enumD n ds).length = ds.length
  | _, [] => rfl
  | n, d :: ds => by rw [enumD, List.length_cons, List.length_cons, enumD_len]
theorem enumD_get : ∀ (n i : Nat) {ds : List D} {d : D}, ds[i]? = some d → (enumD n ds)[i]? = some (.tup [.int ((n + i : Nat) : Int), d])
  | n, 0, d :: ds, e, h => by
    simp only [List.getElem?_cons_zero, Option.some.injEq] at h
    subst h
    rfl
  | n, i + 1, d :: ds, e, h => by
    rw [List.getElem?_cons_succ] at h
    rw [enumD, List.getElem?_cons_succ, enumD_get (n + 1) i h]
    rw [show n + 1 + i = n + (i + 1) by omega]
  | n, i, [], e, h => by simp at h
section
variable {X : Cx} {Γ Γ1 : Gm} {ds : List D} {e : Expr} {p pos tpos : Pos} {elts : List Expr} {kk : Nat}
theorem wk_enumT {K : PySem.W.Frag} (a : Addr) (vs : List V) : Wk K (IteT K a) (enumD 0 ds) (fun H => SqT K H a vs ∧ RpL K H ds vs) where
  go := fun i H s lt => by
    rw [enumD_len] at lt
    obtain ⟨x, hx⟩ := s.2.lt (i := i) lt
    exact ⟨vs, x, s.1, hx⟩
  yld := fun i H x H' s y lt => by
    obtain ⟨T, x1, rfl, hT, rfl, hx⟩ := y
    obtain ⟨d, h1, h2⟩ := s.2.get' (hx vs s.1)
    have := enumD_get 0 i h1
    rw [Nat.zero_add] at this
    exact ⟨same_new hT, _, this, rp_pair hT (by simp only [Rp]) h2⟩
  stop := fun i H s ge => by
    rw [enumD_len] at ge
    exact ⟨vs, s.1, by rw [s.2.length]; exact ge⟩
  per := fun H H' s p => ⟨sqT_per p s.1, RpL.per p _ _ s.2⟩
theorem wk_enumL {K : PySem.W.Frag} (a : Addr) (vs : List V) : Wk K (Ite K a) (enumD 0 ds) (fun H => SqF K H a vs ∧ RpL K H ds vs) where
  go := fun i H s lt => by
    rw [enumD_len] at lt
    obtain ⟨x, hx⟩ := s.2.lt (i := i) lt
    exact ⟨vs, x, sqF_sq s.1, hx⟩
  yld := fun i H x H' s y lt => by
    obtain ⟨T, x1, rfl, hT, rfl, hx⟩ := y
    obtain ⟨d, h1, h2⟩ := s.2.get' (hx vs (sqF_sq s.1))
    have := enumD_get 0 i h1
    rw [Nat.zero_add] at this
    exact ⟨same_new hT, _, this, rp_pair hT (by simp only [Rp]) h2⟩
  stop := fun i H s ge => by
    rw [enumD_len] at ge
    exact ⟨vs, sqF_sq s.1, by rw [s.2.length]; exact ge⟩
  per := fun H H' s p => ⟨sqF_per p s.1, RpL.per p _ _ s.2⟩
theorem RpL.one' {K : PySem.W.Frag} {H : Hp} {d : D} {vs : List V} (h : RpL K H [d] vs) : ∃ v, vs = [v] ∧ Rp K H d v := by
  simp only [RpL] at h
  obtain ⟨v, r, rfl, h1, rfl⟩ := h
  exact ⟨v, rfl, h1⟩
theorem di_enumT (ha : DC X [e] Γ [.tup ds] Γ1) (hg : Gl X "enumerate") (hm : X.mg "enumerate" = none) (hs : starEach [e] X.env = [(false, eval e X.env)]) :
    DI X (.Tuple elts kk tpos) (.Call (.Name "enumerate" p) [e] [] pos) Γ (enumD 0 ds) Γ1 :=
  pi_sub (pi_enumT hg hm ha hs) fun σ H R q => ⟨q.1, fun vs H1 s1 rp => by
    obtain ⟨v, rfl, h1⟩ := rp.one'
    simp only [Rp] at h1
    obtain ⟨a, vs, rfl, hs, hl⟩ := h1
    exact ⟨a, vs, rfl, hs, q.2 _ _ H1 s1 (wk_enumT a vs) ⟨hs, hl⟩⟩⟩
theorem di_enumL (ha : DC X [e] Γ [.lst ds] Γ1) (hg : Gl X "enumerate") (hm : X.mg "enumerate" = none) (hs : starEach [e] X.env = [(false, eval e X.env)]) :
    DI X (.Tuple elts kk tpos) (.Call (.Name "enumerate" p) [e] [] pos) Γ (enumD 0 ds) Γ1 :=
  pi_sub (pi_enum hg hm ha hs) fun σ H R q => ⟨q.1, fun vs H1 s1 rp => by
    obtain ⟨v, rfl, h1⟩ := rp.one'
    simp only [Rp] at h1
    obtain ⟨a, vs, rfl, hs, hl⟩ := h1
    exact ⟨a, vs, rfl, sqF_sq hs, q.2 _ _ H1 s1 (wk_enumL a vs) ⟨hs, hl⟩⟩⟩
end
end Sv

namespace Sv
open PySem PySem.Spec PyProof.Rows L2 Tx
def seqT : D → Option (List D)
  | .tup xs => some xs
  | .lst xs => some xs
  | _ => none
def isTupD : D → Bool
  | .tup _ => true
  | _ => false
def zipS (a b : D) : Option (List D) := match seqT a, seqT b with
  | some xs, some ys => if xs.length = ys.length then some (zipD xs ys) else none
  | _, _ => none
def Sf (b : Bool) (K : PySem.W.Frag) (H : Hp) (a : Addr) (vs : List V) : Prop := if b = true then SqT K H a vs else SqF K H a vs
theorem Sf.sq {b : Bool} {K : PySem.W.Frag} {H : Hp} {a : Addr} {vs : List V} (h : Sf b K H a vs) : Sq2 b K H a vs := by
  cases b
  · exact sqF_sq (show SqF K H a vs from h)
  · exact h
theorem Sf.per {b : Bool} {K : PySem.W.Frag} {H H' : Hp} {a : Addr} {vs : List V} (p : Per H H') (h : Sf b K H a vs) : Sf b K H' a vs := by
  cases b
  · exact sqF_per p (show SqF K H a vs from h)
  · exact sqT_per p (show SqT K H a vs from h)
theorem Rp.sf {K : PySem.W.Frag} {H : Hp} {d : D} {ds : List D} {v : V} (hd : seqT d = some ds) (h : Rp K H d v) : ∃ a vs, v = .ref a ∧ Sf (isTupD d) K H a vs ∧ RpL K H ds vs := by
  cases d <;> simp only [seqT, Option.some.injEq, reduceCtorEq] at hd
  · subst hd
    simp only [Rp] at h
    exact h
  · subst hd
    simp only [Rp] at h
    exact h
section
variable {X : Cx} {Γ Γ1 : Gm} {ds es : List D} {e e2 : Expr} {p pos tpos : Pos} {elts : List Expr} {kk : Nat}
theorem wk_zs {K : PySem.W.Frag} (b1 b2 : Bool) (a b : Addr) (vs ws : List V) (hl : ds.length = es.length) : Wk K (Itzs K b1 b2 a b) (zipD ds es) (fun H => (Sf b1 K H a vs ∧ RpL K H ds vs) ∧ (Sf b2 K H b ws ∧ RpL K H es ws)) where
  go := fun i H s lt => by
    rw [zipD_len] at lt
    obtain ⟨x, hx⟩ := s.1.2.lt (i := i) (by omega)
    obtain ⟨y, hy⟩ := s.2.2.lt (i := i) (by omega)
    exact ⟨vs, ws, x, y, s.1.1.sq, s.2.1.sq, hx, hy⟩
  yld := fun i H x H' s y lt => by
    obtain ⟨T, x1, y1, rfl, hT, rfl, hx, hy⟩ := y
    obtain ⟨d, h1, h2⟩ := s.1.2.get' (hx vs s.1.1.sq)
    obtain ⟨e, h3, h4⟩ := s.2.2.get' (hy ws s.2.1.sq)
    exact ⟨same_new hT, _, zipD_get h1 h3, rp_pair hT h2 h4⟩
  stop := fun i H s ge => by
    rw [zipD_len] at ge
    refine ⟨vs, ws, s.1.1.sq, s.2.1.sq, ?_⟩
    rw [s.1.2.length, s.2.2.length]
    omega
  per := fun H H' s p => ⟨⟨s.1.1.per p, RpL.per p _ _ s.1.2⟩, s.2.1.per p, RpL.per p _ _ s.2.2⟩
def kwStrict (b : Bool) (jp kp : Pos) (j : Nat) : List Keyword := [⟨some "strict", .Constant (.bool b) j jp, kp⟩]
theorem di_zs {d1 d2 : D} {kws : List Keyword} (ha : DC X [e, e2] Γ [d1, d2] Γ1) (hb : zipS d1 d2 = some ds) (hg : Gl X "zip") (hm : X.mg "zip" = none) (hk : PK X kws (tCons (tC (.bl true)) tNil))
    (he : backTo pos (starEach [e, e2] X.env) = (false, eval e X.env) :: backTo pos (starEach [e2] X.env)) (hpl : (backTo pos (starEach [e, e2] X.env)).any (·.1) = false)
    (hall : (backToKw pos (keywordEach kws X.env)).all (·.1.isSome) = true) (hnone : (backToKw pos (keywordEach kws X.env)).any (·.1.isNone) = false) (hks : (backToKw pos (keywordEach kws X.env)).filterMap (·.1) = [Str.ofString "strict"]) :
    DI X (.Tuple elts kk tpos) (.Call (.Name "zip" p) [e, e2] kws pos) Γ ds Γ1 :=
  pi_sub (pi_zs hg hm ha hk he hpl hall hnone hks) fun σ H R q => ⟨q.1, fun vs H1 s1 rp => by
    obtain ⟨v, w, rfl, h1, h2⟩ := rp.two
    unfold zipS at hb
    split at hb
    · next xs ys hx hy =>
      split at hb
      · next hl =>
        cases hb
        obtain ⟨a, vs, rfl, hs, hv⟩ := h1.sf hx
        obtain ⟨b, ws, rfl, hs2, hv2⟩ := h2.sf hy
        exact ⟨isTupD d1, isTupD d2, a, b, vs, ws, rfl, rfl, hs.sq, hs2.sq, q.2 _ _ H1 s1 (wk_zs _ _ a b vs ws hl) ⟨⟨hs, hv⟩, hs2, hv2⟩⟩
      · cases hb
    · cases hb⟩
end
end Sv


namespace Sv
open PySem PySem.Spec PyProof.Rows L2
/-! a walk over a list of one's own, which stays one's own -/
def rdIO (K : PySem.W.Frag) (Γ : Gm) (i : Nat) (ds : List D) : TI := fun σ H R => EnvOk K Γ σ H ∧ Γ[i]? = some (.ow (.lst ds)) ∧ ∀ a us, σ[i]? = some (some (.ref a)) → H a = some (.lst us) → RpL K H ds us → R (Itl K a) H
section
variable {K : PySem.W.Frag} {Γ Γ1 Γe : Gm} {ds out : List D} {vs sl : List Nat} {fg : D → Gm → Option Gm} {ft : Gm → Option (Bool × Gm)} {fe : Gm → Option (D × Gm)}
theorem lc_readsO {i0 : Nat} {Γ1 : Gm} (hΓ1 : Γ1 = Γ.set i0 .no) (hi0 : i0 ∉ vs) (hg0 : Γ[i0]? = some (.ow (.lst ds))) (hcomp : compL vs fg ft fe ds [] (wipeG Γ1 vs) = some (out, Γe)) (hno : Γe[i0]? = some .no) (nio : ∀ j ∈ vs, ∀ d, Γ1[j]? ≠ some (.io d)) (hsl : ∀ j ∈ sl, j ∈ vs) (σ : L2.St) (H : Hp) (Q : VK) (q : rdE K Γ (.new (.lst out)) ((restore Γ1 Γe vs).set i0 (.ow (.lst ds))) σ H Q) :
    tLc (rdIO K Γ i0 ds) (fun v σ H Q => ∃ d Γ Γ1, fg d Γ = some Γ1 ∧ rdG K sl Γ d Γ1 v σ H Q) (fun σ H Q => ∃ Γ b Γ1, ft Γ = some (b, Γ1) ∧ rdT K Γ b Γ1 σ H Q) (fun σ H Q => ∃ Γ d Γ1, fe Γ = some (d, Γ1) ∧ rdE K Γ (.val d) Γ1 σ H Q) vs σ H Q := by
  refine ⟨q.1, hg0, fun a us hσ ha hus => fun D hD => ?_⟩
  obtain ⟨s1, pm, om⟩ := (Ste.refl q.1).moved hg0 hσ
  rw [← hΓ1] at s1 pm
  obtain ⟨a', ea, _, nca⟩ := pm
  cases ea
  have sS : ∀ Γ' H', Ste K (wipeG Γ1 vs) (wipe σ vs) H Γ' (wipe σ vs) H' → H' a = some (.lst us) ∧ RpL K H' ds us := fun Γ' H' A => ⟨A.keep a _ ha (fun c => nca (cell_wipe c)), RpL.per A.per _ _ hus⟩
  have sm1 := same_new (o := .lst []) hD
  have l1 : σ.length = Γ1.length := s1.env.len
  -- the start within
  have W0 : Ste K (wipeG Γ1 vs) (wipe σ vs) H (wipeG Γ1 vs) (wipe σ vs) (upd H D (.lst [])) := Ste.same ((Ste.refl s1.env).wiped nio).env sm1
  refine ⟨fun i m H' => i + m = ds.length ∧ ∃ Γ' acc ws, compL vs fg ft fe (ds.drop i) acc Γ' = some (out, Γe) ∧ Ste K (wipeG Γ1 vs) (wipe σ vs) H Γ' (wipe σ vs) H' ∧ ¬ Cell Γ' (wipe σ vs) D ∧ H' D = some (.lst ws) ∧ RpL K H' acc ws,
    ⟨ds.length, by omega, wipeG Γ1 vs, [], [], hcomp, W0, fun c => ?_, upd_same, by simp only [RpL]⟩, fun i m H' hw => ?_⟩
  · obtain ⟨u, hu, _⟩ := s1.env.cellMut (cell_wipe c)
    rw [hD] at hu
    cases hu
  obtain ⟨him, Γ', acc, ws, hf, A, nc, hws, rp⟩ := hw
  obtain ⟨ha', hus'⟩ := sS _ _ A
  by_cases hi : i < ds.length
  · right
    obtain ⟨x0, hx0⟩ := hus'.lt hi
    refine ⟨⟨us, x0, SqL.of ha', hx0⟩, ?_⟩
    rw [List.drop_eq_getElem_cons hi] at hf
    simp only [compL] at hf
    cases hgd : fg ds[i] Γ' with
    | none => rw [hgd] at hf; cases hf
    | some Γ3 =>
      rw [hgd] at hf
      simp only at hf
      cases hbd : ft Γ3 with
      | none => rw [hbd] at hf; cases hf
      | some p =>
        obtain ⟨b, Γ4⟩ := p
        rw [hbd] at hf
        refine ⟨fun H'' => ∃ m', m' < m ∧ (i + 1) + m' = ds.length ∧ ∃ Γ' acc ws, compL vs fg ft fe (ds.drop (i + 1)) acc Γ' = some (out, Γe) ∧ Ste K (wipeG Γ1 vs) (wipe σ vs) H Γ' (wipe σ vs) H'' ∧ ¬ Cell Γ' (wipe σ vs) D ∧ H'' D = some (.lst ws) ∧ RpL K H'' acc ws,
          fun H'' hh => hh, fun x H2 hy => ?_⟩
        obtain ⟨rfl, hyy⟩ := hy
        obtain ⟨d, hd, rpd⟩ := hus'.get' (hyy us (SqL.of ha'))
        have sm := same_refl H2
        have ed : ds[i] = d := by rw [List.getElem?_eq_getElem hi] at hd; injection hd
        have s2 : Ste K Γ' (wipe σ vs) H2 Γ' (wipe σ vs) H2 := Ste.same A.env sm
        have lw : (wipe σ vs).length = Γ'.length := by rw [A.gl, wipeG_length, wipe_length]; exact l1
        refine ⟨d, Γ', Γ3, by rw [← ed]; exact hgd, s2.env, lw, rpd, fun σ3 s3 ag => ?_⟩
        have wag : wipe σ3 vs = wipe σ vs := wipe_agree (by rw [s3.sl, wipe_length]) hsl ag
        refine ⟨wag, Γ3, b, Γ4, hbd, s3.env, fun H4 s4 => ?_⟩
        have B := (A.trans s2).trans (s3.trans s4)
        have nio' : ∀ j ∈ vs, ∀ d, (wipeG Γ1 vs)[j]? ≠ some (.io d) := fun j z d e => by have := wipeG_in z e; cases this
        have hD' : H4 D = some (.lst ws) := (s2.trans (s3.trans s4)).keep D _ hws nc
        have nc4 : ¬ Cell Γ4 σ3 D := (s2.trans (s3.trans s4)).noCell hws nc
        have rp4 : RpL K H4 acc ws := RpL.per (s2.trans (s3.trans s4)).per _ _ rp
        cases b with
        | false =>
          dsimp only
          rw [if_neg (by decide)]
          simp only at hf
          refine ⟨m - 1, by omega, by omega, wipeG Γ4 vs, acc, ws, hf, ?_, ?_, hD', rp4⟩
          · rw [← wag]
            have C := B.wiped (vs := vs) nio'
            rw [wag] at C ⊢
            exact C
          · rw [← wag]
            exact fun c => nc4 (cell_wipe c)
        | true =>
          dsimp only
          rw [if_pos rfl]
          simp only at hf
          cases hed : fe Γ4 with
          | none => rw [hed] at hf; cases hf
          | some p =>
            obtain ⟨e, Γ5⟩ := p
            rw [hed] at hf
            simp only at hf
            refine ⟨Γ4, e, Γ5, hed, B.env, fun y H5 s5 p5 o5 => ?_⟩
            by_cases lt : acc.length < 1000000
            · rw [if_pos lt] at hf
              have hD5 : H5 D = some (.lst ws) := s5.keep D _ hD' nc4
              have nc5 : ¬ Cell Γ5 σ3 D := s5.noCell hD' nc4
              have C := (B.trans s5).wiped (vs := vs) nio'
              rw [wag] at C
              have ncw : ¬ Cell (wipeG Γ5 vs) (wipe σ vs) D := by
                rw [← wag]
                exact fun c => nc5 (cell_wipe c)
              obtain ⟨C', pr⟩ := C.updNew (u' := .lst (ws ++ [y])) hD hD5 id ncw
              refine ⟨ws, hD5, ?_, m - 1, by omega, by omega, wipeG Γ5 vs, acc ++ [e], ws ++ [y], hf, C', ncw, upd_same, ?_⟩
              · rw [rp4.length]
                exact Nat.lt_of_lt_of_le lt (by decide)
              · exact (RpL.per (s5.per.trans pr) _ _ rp4).snoc (Rp.per pr _ _ p5)
            · rw [if_neg lt] at hf
              cases hf
  · left
    refine ⟨⟨us, SqL.of ha', by rw [hus'.length]; omega⟩, ?_⟩
    rw [List.drop_eq_nil_of_le (by omega)] at hf
    simp only [compL, Option.some.injEq, Prod.mk.injEq] at hf
    obtain ⟨rfl, rfl⟩ := hf
    have R := Ste.restored s1.env A nio
    have ncR : ¬ Cell (restore Γ1 Γ' vs) σ a := fun c => by
      rcases R.sub a c with c | c
      · exact nca c
      · rw [ha] at c; cases c
    have lt0 : i0 < σ.length := (List.getElem?_eq_some_iff.1 hσ).1
    have lR : σ.length = (restore Γ1 Γ' vs).length := R.env.len
    have g0 : (restore Γ1 Γ' vs)[i0]? = some .no := by
      rw [restore_out hi0]
      have : ∀ d, ¬ Own Γ' i0 d := fun d o => by
        have := (A.sub a ⟨i0, d, o, by rw [wipe_out hi0]; exact hσ⟩)
        rcases this with c | c
        · exact nca (cell_wipe c)
        · rw [ha] at c; cases c
      exact hno
    have hb : bindR i0 (.new (.lst ds)) (restore Γ1 Γ' vs) = some ((restore Γ1 Γ' vs).set i0 (.ow (.lst ds))) := by
      unfold bindR mayBind
      rw [g0]
      rfl
    have B := (s1.trans R).bind lR hb (v := .ref a) ⟨a, rfl, ⟨us, ha', hus'⟩, ncR⟩ (fun b eb => by cases eb; exact .inl ⟨i0, _, .inl hg0, hσ⟩)
    have es : σ.set i0 (some (.ref a)) = σ := by
      apply List.ext_getElem?
      intro j
      by_cases z : i0 = j
      · subst z; rw [List.getElem?_set_self lt0]; exact hσ.symm
      · rw [List.getElem?_set_ne z]
    rw [es] at B
    have nD : D ≠ a := fun z => by rw [z, ha] at hD; cases hD
    refine q.2 (.ref D) H' B ⟨D, rfl, ⟨ws, hws, rp⟩, ?_⟩ fun a ea => .inr ?_
    · rintro ⟨j, e, hj, hb⟩
      by_cases y : i0 = j
      · subst y
        rw [hσ] at hb
        cases hb
        exact nD rfl
      rw [own_set_ne y] at hj
      by_cases z : j ∈ vs
      · have hj1 : Own Γ1 j e := by
          unfold Own at hj ⊢
          rw [restore_in (by rw [A.gl, wipeG_length]) z] at hj
          exact hj
        obtain ⟨u, hu, _⟩ := s1.env.cellMut ⟨j, e, hj1, hb⟩
        rw [hD] at hu
        cases hu
      · have hje : Own Γ' j e := by
          unfold Own at hj ⊢
          rw [restore_out z] at hj
          exact hj
        exact nc ⟨j, e, hje, by rw [wipe_out z]; exact hb⟩
    · cases ea
      exact hD
end
section
variable {X : Cx} {Γ Γ1 Γe : Gm} {ds out : List D} {sl : List Nat} {fg : D → Gm → Option Gm} {ft : Gm → Option (Bool × Gm)} {fe : Gm → Option (D × Gm)} {elt tg iter : Expr} {ifs : List Expr} {scope : Scope} {own : List (Str × Nat)} {pos : Pos}
theorem di_own {i : Nat} (h : PE X iter (tVar i)) : PI X tg iter (rdIO X.K Γ i ds) :=
  pi_sub (pi_list h) fun σ H R q => by
    obtain ⟨a, h1, us, h2, h3⟩ := q.1.mu i _ (.inl q.2.1)
    exact ⟨.ref a, h1, a, rfl, ⟨us, SqL.of h2⟩, q.2.2 a us h1 h2 h3⟩
theorem de_lcO {i0 : Nat} (hc : X.calm = true) (hN : X.N.Nodup) (hi : PE X iter (tVar i0)) (hg0 : Γ[i0]? = some (.ow (.lst ds))) (hi0 : i0 ∉ own.map (·.2)) (hno : Γe[i0]? = some .no) (ok : BlkOk X.N X.env.scope scope own)
    (hg : ∀ (s : Shared) (H : Hp) (C : Addr) (cl : List (Str × Addr)) (fp : List Addr) (d : D) (Γ Γ1 : Gm), fg d Γ = some Γ1 → DG (X.blk s H scope (compEnvC scope cl C X.env) fp) tg sl Γ d Γ1)
    (ht : ∀ (s : Shared) (H : Hp) (C : Addr) (cl : List (Str × Addr)) (fp : List Addr) (Γ : Gm) (b : Bool) (Γ1 : Gm), ft Γ = some (b, Γ1) → PTs (X.blk s H scope (compEnvC scope cl C X.env) fp) ifs (rdT X.K Γ b Γ1))
    (he : ∀ (s : Shared) (H : Hp) (C : Addr) (cl : List (Str × Addr)) (fp : List Addr) (Γ : Gm) (d : D) (Γ1 : Gm), fe Γ = some (d, Γ1) → DE (X.blk s H scope (compEnvC scope cl C X.env) fp) elt Γ (.val d) Γ1)
    (hs : ∀ x, foldedSetIterable iter X.env x = pure x) (hcomp : compL (own.map (·.2)) fg ft fe ds [] (wipeG (Γ.set i0 .no) (own.map (·.2))) = some (out, Γe)) (nio : ∀ j ∈ own.map (·.2), ∀ d, (Γ.set i0 .no)[j]? ≠ some (.io d)) (hsl : ∀ j ∈ sl, j ∈ own.map (·.2)) :
    DE X (.ListComp elt [⟨tg, iter, ifs, 0⟩] scope pos) Γ (.new (.lst out)) ((restore (Γ.set i0 .no) Γe (own.map (·.2))).set i0 (.ow (.lst ds))) :=
  pe_sub (pe_lc hc hN (di_own hi) ok (fun s H C cl fp => ⟨fun pins s' σ H' v u Q I r q => by obtain ⟨d, Γ, Γ1, e, q⟩ := q; exact (hg s H C cl fp d Γ Γ1 e).run pins s' σ H' v u Q I r q⟩)
    (fun s H C cl fp => ⟨fun pins s' σ H' Q I q => by obtain ⟨Γ, d, Γ1, e, q⟩ := q; exact (ht s H C cl fp Γ d Γ1 e).run pins s' σ H' Q I q⟩)
    (fun s H C cl fp => ⟨fun pins s' σ H' Q I q => by obtain ⟨Γ, d, Γ1, e, q⟩ := q; exact (he s H C cl fp Γ d Γ1 e).run pins s' σ H' Q I q⟩) hs) fun σ H Q q => lc_readsO rfl hi0 hg0 hcomp hno nio hsl σ H Q q
end
end Sv

namespace Sv
open PySem PySem.Spec PyProof.Rows L2
/-! the small language -/
mutual
inductive E where
  | cst (d : D)
  | var (i : Nat)
  | tup (es : List E)
  | lst (es : List E)
  | bin (op : BOp) (a b : E)
  | neg (a : E)
  | nt (a : E)
  | an (a b : E)
  | orr (a b : E)
  | cmp (op : COp) (a b : E)
  | chn (op op' : COp) (a b c : E)
  | ite (c : T) (a b : E)
  | ix (a b : E)
  | sl (a : E) (lo hi : Option E)
  | rev (a : E)
  | isi (a : E) (ts : List Ty)
  | call (f : Nat) (es : List E)
  | bi (b : Bi) (es : List E)
  | lrng (es : List E)
  | jn (a b : E)
  | app (a e : E)
  | comp (e : E) (t : Tg) (it : I) (cs : List T) (vs : List Nat)
  | comp2 (e : E) (t : Tg) (it : I) (cs : List T) (t1 : Tg) (it1 : I) (cs1 : List T) (vs vs1 : List Nat)
  | srt2 (e : E) (t : Tg) (it : I) (cs : List T) (t1 : Tg) (it1 : I) (cs1 : List T) (vs vs1 : List Nat)
  | dcomp (k e : E) (t : Tg) (it : I) (cs : List T) (vs : List Nat)
  | get2 (a k f : E)
  | dnew
  | maxd (a f : E)
  | rpr (a : E)
  | srt (a : E)
  | callk (f : Nat) (perm : List Nat) (es : List E)
  | compO (e : E) (t : Tg) (i : Nat) (cs : List T) (vs : List Nat)
inductive T where
  | nt (a : T)
  | an (a b : T)
  | orr (a b : T)
  | val (e : E)
inductive I where
  | seq (e : E)
  | rng (es : List E)
  | zip (a b : E)
  | enm (e : E)
  | zps (a b : E)
end
inductive S where
  | set (i : Nat) (e : E)
  | asg (t : Tg) (e : E)
  | par (is : List Nat) (es : List E)
  | ixs (a ix e : E)
  | aug (i : Nat) (op : BOp) (e : E)
  | ex (e : E)
  | iff (c : T) (a b : List S)
  | whl (c : T) (b : List S)
  | frr (t : Tg) (it : I) (b : List S)
  | ret (e : Option E)
  | brk
  | cnt
  | pas
  | nev
/-! its meaning -/
def notIo (Γ : Gm) (vs : List Nat) : Bool := vs.all fun j => match Γ[j]? with
  | some (.io _) => false
  | _ => true
def bound (Γ : Gm) (i : Nat) : Bool := match Γ[i]? with
  | some .no => false
  | none => false
  | _ => true
def callE (sem : Fn) (ld : Bool) (rs : List Rs) (Γ1 : Gm) : Option (Rs × Gm) :=
  match ld, rs with
  | true, .slot i :: rs' => match takeRs rs' Γ1 with
    | none => none
    | some (ds, Γ2) => match ownAt Γ2 i with
      | none => none
      | some d => match sem (.io d :: ds.map .sh) with
        | some (r, some d') => if notSlot r then some (r, setOwn Γ2 i d') else none
        | _ => none
  | false, rs => match takeRs rs Γ1 with
    | none => none
    | some (ds, Γ2) => match sem (ds.map .sh) with
      | some (r, _) => if notSlot r then some (r, Γ2) else none
      | none => none
  | _, _ => none
def isiD (d : D) : List Ty → Option Bool
  | [t] => if noT d then some (isi1 d t) else none
  | [t, u] => if noT d then some (isi1 d t || isi1 d u) else none
  | _ => none
def revD : D → Option Rs
  | .lst xs => some (.new (.lst xs.reverse))
  | .tup xs => some (.val (.tup xs.reverse))
  | _ => none
def negD : D → Option D
  | .int i => some (.int (-i))
  | _ => none
def lrngD : List D → Option Rs
  | [.int n] => if okRng 0 n then some (.new (.lst (rangeD 0 n.toNat))) else none
  | [.int m, .int n] => if okRng m n then some (.new (.lst (rangeD m (n - m).toNat))) else none
  | _ => none
def rngD : List D → Option (List D)
  | [.int n] => if small62 n then some (rangeD 0 n.toNat) else none
  | [.int m, .int n] => if small62 m && small62 n then some (rangeD m (n - m).toNat) else none
  | [.int m, .int n, .int c] => if c = -1 ∧ small62 m = true ∧ small62 n = true then some (downD m (m - n).toNat) else none
  | _ => none
def seqD : D → Option (List D)
  | .lst xs => some xs
  | .tup xs => some xs
  | .str x => some (signs x)
  | _ => none
def strTake : Option (D × Gm) → Option (D × Gm)
  | some (.str x, Γ) => some (.str x, Γ)
  | _ => none
def isDK : Option D → Bool
  | some (.dK _) => true
  | _ => false
def settleR : Rs → Gm → Option (Rs × Gm)
  | .slot i, Γ => match takeR (.slot i) Γ with
    | some (d, Γ1) => some (.val d, Γ1)
    | none => none
  | r, Γ => some (r, Γ)
def settleRs : List Rs → Gm → Option (List Rs × Gm)
  | [], Γ => some ([], Γ)
  | r :: rs, Γ => match settleR r Γ with
    | none => none
    | some (r', Γ1) => match settleRs rs Γ1 with
      | none => none
      | some (rs', Γ2) => some (r' :: rs', Γ2)
def bindRs : List Nat → List Rs → Gm → Option Gm
  | [], [], Γ => some Γ
  | i :: is, r :: rs, Γ => match bindR i r Γ with
    | none => none
    | some Γ1 => bindRs is rs Γ1
  | _, _, _ => none
section
variable (F : Nat → Fn) (Ld : Nat → Bool)
mutual
def evE : E → Gm → Option (Rs × Gm)
  | .cst d, Γ => some (.val d, Γ)
  | .var i, Γ => if bound Γ i then some (.slot i, Γ) else none
  | .tup es, Γ => match evEs es Γ with
    | none => none
    | some (rs, Γ1) => match takeRs rs Γ1 with
      | none => none
      | some (ds, Γ2) => if ds.length ≤ lim then some (.val (.tup ds), Γ2) else none
  | .lst es, Γ => match evEs es Γ with
    | none => none
    | some (rs, Γ1) => match takeRs rs Γ1 with
      | none => none
      | some (ds, Γ2) => if ds.length ≤ lim then some (.new (.lst ds), Γ2) else none
  | .bin op a b, Γ => match evE a Γ with
    | none => none
    | some (r1, Γ1) => match evE b Γ1 with
      | none => none
      | some (r2, Γ2) => match readR r1 Γ2, readR r2 Γ2 with
        | some d1, some d2 => match binD op d1 d2 with
          | some r => some (r, Γ2)
          | none => none
        | _, _ => none
  | .neg a, Γ => match evE a Γ with
    | none => none
    | some (r1, Γ1) => match readR r1 Γ1 with
      | some d1 => match negD d1 with
        | some d => some (.val d, Γ1)
        | none => none
      | none => none
  | .nt a, Γ => match evE a Γ with
    | none => none
    | some (r1, Γ1) => match readR r1 Γ1 with
      | some (.bl k) => some (.val (.bl (!k)), Γ1)
      | _ => none
  | .an a b, Γ => match evE a Γ with
    | none => none
    | some (r1, Γ1) => match readR r1 Γ1 with
      | some (.bl true) => evE b Γ1
      | some (.bl false) => some (.val (.bl false), Γ1)
      | _ => none
  | .orr a b, Γ => match evE a Γ with
    | none => none
    | some (r1, Γ1) => match readR r1 Γ1 with
      | some (.bl true) => some (.val (.bl true), Γ1)
      | some (.bl false) => evE b Γ1
      | _ => none
  | .cmp op a b, Γ => match evE a Γ with
    | none => none
    | some (r1, Γ1) => match evE b Γ1 with
      | none => none
      | some (r2, Γ2) => match readR r1 Γ2, readR r2 Γ2 with
        | some d1, some d2 => match cmpD op d1 d2 with
          | some k => some (.val (.bl k), Γ2)
          | none => none
        | _, _ => none
  | .chn op op' a b c, Γ => match evE a Γ with
    | none => none
    | some (r1, Γ1) => match evE b Γ1 with
      | none => none
      | some (r2, Γ2) => match readR r1 Γ2, readR r2 Γ2 with
        | some d1, some d2 => match cmpD op d1 d2 with
          | some true => match evE c Γ2 with
            | none => none
            | some (r3, Γ3) => match readR r2 Γ3, readR r3 Γ3 with
              | some d2', some d3 => match cmpD op' d2' d3 with
                | some k => some (.val (.bl k), Γ3)
                | none => none
              | _, _ => none
          | some false => some (.val (.bl false), Γ2)
          | none => none
        | _, _ => none
  | .ite c a b, Γ => match evT c Γ with
    | none => none
    | some (true, Γ1) => evE a Γ1
    | some (false, Γ1) => evE b Γ1
  | .ix a b, Γ => match evE a Γ with
    | none => none
    | some (r1, Γ1) => match evE b Γ1 with
      | none => none
      | some (r2, Γ2) => match readR r1 Γ2, readR r2 Γ2 with
        | some d1, some d2 => match ixD d1 d2 with
          | some d => some (.val d, Γ2)
          | none => none
        | _, _ => none
  | .sl a lo hi, Γ => match evE a Γ with
    | none => none
    | some (r1, Γ1) => match evO lo Γ1 with
      | none => none
      | some (l, Γ2) => match evO hi Γ2 with
        | none => none
        | some (u, Γ3) => match readR r1 Γ3 with
          | some d1 => match slD d1 l u with
            | some r => some (r, Γ3)
            | none => none
          | none => none
  | .rev a, Γ => match evE a Γ with
    | none => none
    | some (r1, Γ1) => match readR r1 Γ1 with
      | some d1 => match revD d1 with
        | some r => some (r, Γ1)
        | none => none
      | none => none
  | .isi a ts, Γ => match evE a Γ with
    | none => none
    | some (r1, Γ1) => match readR r1 Γ1 with
      | some d1 => match isiD d1 ts with
        | some k => some (.val (.bl k), Γ1)
        | none => none
      | none => none
  | .call f es, Γ => match evEs es Γ with
    | none => none
    | some (rs, Γ1) => callE (F f) (Ld f) rs Γ1
  | .bi b es, Γ => match evEs es Γ with
    | none => none
    | some (rs, Γ1) => match readRs rs Γ1 with
      | none => none
      | some ds => match biD b ds with
        | some r => some (r, Γ1)
        | none => none
  | .lrng es, Γ => match evEs es Γ with
    | none => none
    | some (rs, Γ1) => match readRs rs Γ1 with
      | none => none
      | some ds => match lrngD ds with
        | some r => some (r, Γ1)
        | none => none
  | .jn a b, Γ => match evE a Γ with
    | some (.val (.str z), Γ1) => match evE b Γ1 with
      | none => none
      | some (r2, Γ2) => match readR r2 Γ2 with
        | some d2 => match joinD z d2 with
          | some w => some (.val (.str w), Γ2)
          | none => none
        | none => none
    | _ => none
  | .app a e, Γ => match evE a Γ with
    | some (.slot i, Γ1) => match ownAt Γ1 i with
      | some (.lst _) => match evE e Γ1 with
        | none => none
        | some (r2, Γ2) => match takeR r2 Γ2 with
          | none => none
          | some (d, Γ3) => match ownAt Γ3 i with
            | some (.lst xs) => if xs.length < 1000000 then some (.val .non, setOwn Γ3 i (.lst (xs ++ [d]))) else none
            | _ => none
      | _ => none
    | some (.new (.lst ys), Γ1) => match evE e Γ1 with
        | none => none
        | some (r2, Γ2) => match takeR r2 Γ2 with
          | none => none
          | some (_, Γ3) => if ys.length < 1000000 then some (.val .non, Γ3) else none
    | _ => none
  | .comp e t it cs vs, Γ => match evI it Γ with
    | none => none
    | some (ds, Γ1) => if notIo Γ1 vs then
        match compL vs (bindT t) (evCs cs) (fun Γ => match evE e Γ with
          | none => none
          | some (r, Γ') => takeR r Γ') ds [] (wipeG Γ1 vs) with
        | none => none
        | some (out, Γe) => some (.new (.lst out), restore Γ1 Γe vs)
      else none
  | .compO e t i cs vs, Γ => match Γ[i]? with
    | some (.ow (.lst ds)) => if vs.contains i = false ∧ notIo (Γ.set i .no) vs = true then
        match compL vs (bindT t) (evCs cs) (fun Γ => match evE e Γ with
          | none => none
          | some (r, Γ') => takeR r Γ') ds [] (wipeG (Γ.set i .no) vs) with
        | none => none
        | some (out, Γe) => match Γe[i]? with
          | some .no => some (.new (.lst out), (restore (Γ.set i .no) Γe vs).set i (.ow (.lst ds)))
          | _ => none
      else none
    | _ => none
  | .comp2 e t it cs t1 it1 cs1 vs vs1, Γ => match evI it Γ with
    | none => none
    | some (ds, Γ1) => if notIo Γ1 vs then
        match comp2L vs vs1 (bindT t) (evCs cs) (evI it1) (bindT t1) (evCs cs1) (fun Γ => match evE e Γ with
          | none => none
          | some (r, Γ') => takeR r Γ') ds [] (wipeG Γ1 vs) with
        | none => none
        | some (out, Γe) => some (.new (.lst out), restore Γ1 Γe vs)
      else none
  | .srt2 e t it cs t1 it1 cs1 vs vs1, Γ => match evI it Γ with
    | none => none
    | some (ds, Γ1) => if notIo Γ1 vs then
        match comp2L vs vs1 (bindT t) (evCs cs) (evI it1) (bindT t1) (evCs cs1) (fun Γ => match evE e Γ with
          | none => none
          | some (r, Γ') => strTake (takeR r Γ')) ds [] (wipeG Γ1 vs) with
        | none => none
        | some (out, Γe) => if out.length ≤ 4000 then match strsD out with
          | none => none
          | some xs => some (.new (.lst ((sortU ltS xs).map .str)), restore Γ1 Γe vs)
        else none
      else none
  | .dcomp k e t it cs vs, Γ => match evI it Γ with
    | none => none
    | some (ds, Γ1) => if notIo Γ1 vs then
        match dcompL vs (bindT t) (evCs cs) (fun Γ => match evE k Γ with
          | none => none
          | some (r, Γ') => takeR r Γ') (fun Γ => match evE e Γ with
          | none => none
          | some (r, Γ') => takeR r Γ') ds [] (wipeG Γ1 vs) with
        | none => none
        | some (out, Γe) => some (.new (.dK out), restore Γ1 Γe vs)
      else none
  | .get2 a k f, Γ => match evE a Γ with
    | none => none
    | some (r1, Γ1) => if isDK (readR r1 Γ1) then match evE k Γ1 with
      | none => none
      | some (r2, Γ2) => match evE f Γ2 with
        | none => none
        | some (r3, Γ3) => match takeR r3 Γ3 with
          | none => none
          | some (d3, Γ4) => match readR r1 Γ4, readR r2 Γ4 with
            | some d1, some d2 => match getD2 d1 d2 d3 with
              | some d => some (.val d, Γ4)
              | none => none
            | _, _ => none
      else none
  | .dnew, Γ => some (.new (.dK []), Γ)
  | .rpr a, Γ => match evE a Γ with
    | none => none
    | some (r1, Γ1) => match readR r1 Γ1 with
      | some d => if okRep d then some (.val (.str (toPy d).shown), Γ1) else none
      | none => none
  | .srt a, Γ => match evE a Γ with
    | none => none
    | some (r1, Γ1) => match readR r1 Γ1 with
      | some d => match sortD d with
        | some out => some (.new (.lst out), Γ1)
        | none => none
      | none => none
  | .callk f perm es, Γ => match evEs es Γ with
    | none => none
    | some (rs, Γ1) => if Ld f then none else match takeRs rs Γ1 with
      | none => none
      | some (ds, Γ2) => match F f ((gPD perm ds).map .sh) with
        | some (r, _) => if notSlot r then some (r, Γ2) else none
        | none => none
  | .maxd a f, Γ => match evE a Γ with
    | none => none
    | some (r1, Γ1) => match evE f Γ1 with
      | none => none
      | some (r2, Γ2) => match takeR r2 Γ2 with
        | none => none
        | some (d3, Γ3) => match readR r1 Γ3 with
          | some (.lst xs) => match intsOf xs with
            | some ns => some (.val (maxDf ns d3), Γ3)
            | none => none
          | _ => none
def evEs : List E → Gm → Option (List Rs × Gm)
  | [], Γ => some ([], Γ)
  | e :: es, Γ => match evE e Γ with
    | none => none
    | some (r, Γ1) => match evEs es Γ1 with
      | none => none
      | some (rs, Γ2) => some (r :: rs, Γ2)
def evO : Option E → Gm → Option (Option Int × Gm)
  | none, Γ => some (none, Γ)
  | some e, Γ => match evE e Γ with
    | none => none
    | some (r, Γ1) => match readR r Γ1 with
      | some (.int i) => some (some i, Γ1)
      | _ => none
def evT : T → Gm → Option (Bool × Gm)
  | .nt a, Γ => match evT a Γ with
    | none => none
    | some (k, Γ1) => some (!k, Γ1)
  | .an a b, Γ => match evT a Γ with
    | none => none
    | some (true, Γ1) => evT b Γ1
    | some (false, Γ1) => some (false, Γ1)
  | .orr a b, Γ => match evT a Γ with
    | none => none
    | some (true, Γ1) => some (true, Γ1)
    | some (false, Γ1) => evT b Γ1
  | .val e, Γ => match evE e Γ with
    | none => none
    | some (r, Γ1) => match readR r Γ1 with
      | some (.bl k) => some (k, Γ1)
      | _ => none
def evCs : List T → Gm → Option (Bool × Gm)
  | [], Γ => some (true, Γ)
  | c :: cs, Γ => match evT c Γ with
    | none => none
    | some (false, Γ1) => some (false, Γ1)
    | some (true, Γ1) => evCs cs Γ1
def evI : I → Gm → Option (List D × Gm)
  | .seq e, Γ => match evE e Γ with
    | none => none
    | some (r, Γ1) => match takeR r Γ1 with
      | none => none
      | some (d, Γ2) => match seqD d with
        | some ds => some (ds, Γ2)
        | none => none
  | .rng es, Γ => match evEs es Γ with
    | none => none
    | some (rs, Γ1) => match readRs rs Γ1 with
      | none => none
      | some ds => match rngD ds with
        | some xs => some (xs, Γ1)
        | none => none
  | .zip a b, Γ => match evE a Γ with
    | none => none
    | some (r1, Γ1) => match evE b Γ1 with
      | none => none
      | some (r2, Γ2) => match takeRs [r1, r2] Γ2 with
        | some ([d1, d2], Γ3) => match bothSeq d1 d2 with
          | some (xs, ys) => some (zipD xs ys, Γ3)
          | none => none
        | _ => none
  | .enm e, Γ => match evE e Γ with
    | none => none
    | some (r, Γ1) => match takeR r Γ1 with
      | none => none
      | some (d, Γ2) => match seqT d with
        | some ds => some (enumD 0 ds, Γ2)
        | none => none
  | .zps a b, Γ => match evE a Γ with
    | none => none
    | some (r1, Γ1) => match evE b Γ1 with
      | none => none
      | some (r2, Γ2) => match takeRs [r1, r2] Γ2 with
        | some ([d1, d2], Γ3) => match zipS d1 d2 with
          | some ds => some (ds, Γ3)
          | none => none
        | _ => none
end
end
end Sv

namespace Sv
open PySem PySem.Spec PyProof.Rows L2
section
variable (F : Nat → Fn) (Ld : Nat → Bool) (W : Nat)
mutual
def evS : S → Gm → Option (Fl × Gm)
  | .set i e, Γ => match evE F Ld e Γ with
    | none => none
    | some (r, Γ1) => match settleR r Γ1 with
      | none => none
      | some (r', Γ2) => match bindR i r' Γ2 with
        | none => none
        | some Γ3 => some (.nx, Γ3)
  | .asg t e, Γ => match evE F Ld e Γ with
    | none => none
    | some (r, Γ1) => match takeR r Γ1 with
      | none => none
      | some (d, Γ2) => match bindT t d Γ2 with
        | none => none
        | some Γ3 => some (.nx, Γ3)
  | .par is es, Γ => match evEs F Ld es Γ with
    | none => none
    | some (rs, Γ1) => match settleRs rs Γ1 with
      | none => none
      | some (rs', Γ2) => match bindRs is rs' Γ2 with
        | none => none
        | some Γ3 => some (.nx, Γ3)
  | .ixs a ix e, Γ => match evE F Ld e Γ with
    | none => none
    | some (r, Γ1) => match takeR r Γ1 with
      | none => none
      | some (d, Γ2) => match evE F Ld a Γ2 with
        | some (.slot i, Γ3) => match evE F Ld ix Γ3 with
          | none => none
          | some (r2, Γ4) => match readR r2 Γ4, ownAt Γ4 i with
            | some (.int n), some (.lst xs) => match ixN xs.length n with
              | some j => some (.nx, setOwn Γ4 i (.lst (xs.set j d)))
              | none => none
            | some dk, some (.dK kvs) => match keyOfD dk with
              | some k => if kvs.length < 1000000 then some (.nx, setOwn Γ4 i (.dK (putD kvs k d))) else none
              | none => none
            | _, _ => none
        | _ => none
  | .aug i op e, Γ => match Γ[i]? with
    | some (.sh (.int m)) => match evE F Ld e Γ with
      | none => none
      | some (r, Γ1) => match readR r Γ1 with
        | some (.int n) => match augD op (.int m) (.int n) with
          | some (.int k) => match bindR i (.val (.int k)) Γ1 with
            | none => none
            | some Γ2 => some (.nx, Γ2)
          | _ => none
        | _ => none
    | _ => none
  | .ex e, Γ => match evE F Ld e Γ with
    | none => none
    | some (_, Γ1) => some (.nx, Γ1)
  | .iff c a b, Γ => match evT F Ld c Γ with
    | none => none
    | some (true, Γ1) => evSs a Γ1
    | some (false, Γ1) => evSs b Γ1
  | .whl c b, Γ => whileL (evT F Ld c) (evSs b) W Γ
  | .frr t it b, Γ => match evI F Ld it Γ with
    | none => none
    | some (ds, Γ1) => forL (bindT t) (evSs b) ds Γ1
  | .ret none, Γ => some (.rt (.val .non), Γ)
  | .ret (some e), Γ => match evE F Ld e Γ with
    | none => none
    | some (.slot i, Γ1) => match Γ1[i]? with
      | some (.ow d) => some (.rt (.new d), Γ1.set i .no)
      | some (.sh d) => some (.rt (.val d), Γ1)
      | _ => none
    | some (r, Γ1) => some (.rt r, Γ1)
  | .brk, Γ => some (.bk, Γ)
  | .cnt, Γ => some (.ct, Γ)
  | .pas, Γ => some (.nx, Γ)
  | .nev, _ => none
def evSs : List S → Gm → Option (Fl × Gm)
  | [], Γ => some (.nx, Γ)
  | s :: ss, Γ => match evS s Γ with
    | none => none
    | some (.nx, Γ1) => evSs ss Γ1
    | some (fl, Γ1) => some (fl, Γ1)
end
/-- a def: its parameters, the number of its slots, its body -/
structure Fd where
  np : Nat
  ns : Nat
  body : List S
def ioOut : List Sl → Gm → Option D
  | .io _ :: _, .io d :: _ => some d
  | _, _ => none
/-- what a def's body makes of its arguments -/
def runF (f : Fd) : Fn := fun as => if as.length = f.np then
    match evSs F Ld W f.body (as ++ List.replicate (f.ns - f.np) .no) with
    | some (.nx, Γ) => some (.val .non, ioOut as Γ)
    | some (.rt r, Γ) => some (r, ioOut as Γ)
    | _ => none
  else none
end
/-! from the text -/
structure TCx where
  N : List Str
  fns : List Str
  cons : List (Str × D)
  kws : List (Nat × List Str × List Nat)
  bor : List Str := []
def strOkL (x : Str) : Bool := x.cps.toList.all (· < 0x110000)
theorem strOkL_ok {x : Str} (h : strOkL x = true) : PyData.strOk x = true := by
  unfold PyData.strOk
  rw [← Array.all_toList]
  exact h
def bopOf : Operator → Option BOp
  | .Add => some .add
  | .Sub => some .sub
  | .Mult => some .mul
  | .Mod => some .mod
  | .FloorDiv => some .fdiv
  | .Pow => some .pow
  | _ => none
def copOf : CmpOp → COp
  | .Eq => .eq
  | .NotEq => .ne
  | .Lt => .lt
  | .LtE => .le
  | .Gt => .gt
  | .GtE => .ge
  | .Is => .is
  | .IsNot => .isn
  | .In => .inn
  | .NotIn => .nin
def biOf (x : Str) : Option Bi :=
  if x = "len" then some .len else if x = "abs" then some .abs else if x = "min" then some .min else if x = "max" then some .max else if x = "sum" then some .sum
  else if x = "all" then some .all else if x = "any" then some .any else if x = "tuple" then some .tuple else if x = "list" then some .list else if x = "int" then some .int else none
def tyOf? (x : Str) : Option Ty :=
  if x = "int" then some .int else if x = "str" then some .str else if x = "bool" then some .bool else if x = "list" then some .list else if x = "tuple" then some .tuple else if x = "dict" then some .dict else none
def glob (sc : Scope) (x : Str) : Bool := sc.names.lookup x == some .globalImplicit
def locl (sc : Scope) (x : Str) : Bool := sc.names.lookup x == some .local || sc.names.lookup x == some .cell
def seen (sc : Scope) (x : Str) : Bool := locl sc x || sc.names.lookup x == some .free
def ixOf (cx : TCx) (x : Str) : Option Nat := cx.N.findIdx? (· == x)
def trName (cx : TCx) (sc : Scope) (x : Str) : Option E :=
  if (x == ("__debug__" : Str)) || (x == ("__classdict__" : Str)) then none
  else if seen sc x then (ixOf cx x).map .var
  else if glob sc x then (cx.cons.lookup x).map .cst
  else none
def trL (f : Expr → Option E) : List Expr → Option (List E)
  | [] => some []
  | e :: es => match f e, trL f es with
    | some x, some xs => some (x :: xs)
    | _, _ => none
def trO (f : Expr → Option E) : Option Expr → Option (Option E)
  | none => some none
  | some e => (f e).map some
def trBoolE (c : E → E → E) (f : Expr → Option E) : List Expr → Option E
  | [] => none
  | [e] => f e
  | e :: es => match f e, trBoolE c f es with
    | some x, some y => some (c x y)
    | _, _ => none
def trBoolT (c : T → T → T) (f : Expr → Option T) : List Expr → Option T
  | [] => none
  | [e] => f e
  | e :: es => match f e, trBoolT c f es with
    | some x, some y => some (c x y)
    | _, _ => none
def trTy (sc : Scope) : Expr → Option (List Ty)
  | .Name x _ => if glob sc x then (tyOf? x).map fun t => [t] else none
  | .Tuple [.Name x _, .Name y _] _ _ => if glob sc x && glob sc y then match tyOf? x, tyOf? y with
      | some t, some u => some [t, u]
      | _, _ => none
    else none
  | _ => none
/-! targets -/
mutual
def trG (cx : TCx) (sc : Scope) : Nat → Expr → Option Tg
  | 0, _ => none
  | n + 1, e => match e with
    | .Name x _ => if locl sc x then (ixOf cx x).map .nm else none
    | .Tuple es _ _ => (trGs cx sc n es).map .tp
    | _ => none
def trGs (cx : TCx) (sc : Scope) : Nat → List Expr → Option (List Tg)
  | 0, _ => none
  | _ + 1, [] => some []
  | n + 1, e :: es => match trG cx sc n e, trGs cx sc n es with
    | some t, some ts => some (t :: ts)
    | _, _ => none
end
/-- the own names of a comprehension's block, with their slots -/
def ownOf (cx : TCx) (csc : Scope) : List (Str × Nat) := csc.names.filterMap fun y => if y.2 == .local || y.2 == .cell then (ixOf cx y.1).map fun i => (y.1, i) else none
def isRange (cx : TCx) (sc : Scope) (g : Str) : Bool := decide (g = "range") && glob sc g && !cx.fns.contains g
def isZip (cx : TCx) (sc : Scope) (g : Str) : Bool := decide (g = "zip") && glob sc g && !cx.fns.contains g
def len12 : List Expr → Bool
  | [_] => true
  | [_, _] => true
  | _ => false
def len123 : List Expr → Bool
  | [_] => true
  | [_, _] => true
  | [_, _, _] => true
  | _ => false
/-- list(range(..)): the range's arguments -/
def rangeArg (cx : TCx) (sc : Scope) : List Expr → Option (List Expr)
  | [.Call (.Name g _) as [] _] => if isRange cx sc g && len12 as then some as else none
  | _ => none
def mkIsi (sc : Scope) (tr : Expr → Option E) : List Expr → Option E
  | [a, t] => match tr a, trTy sc t with
    | some x, some ts => some (.isi x ts)
    | _, _ => none
  | _ => none
def mk1 (tr : Expr → Option E) (mk : E → E) : List Expr → Option E
  | [a] => (tr a).map mk
  | _ => none
def kwParts : List Keyword → Option (List Str × List Expr)
  | [] => some ([], [])
  | ⟨some k, e, _⟩ :: r => (kwParts r).map fun q => (k :: q.1, e :: q.2)
  | _ => none
def mkKw (cx : TCx) (sc : Scope) (tr : Expr → Option E) (f : Str) (kws : List Keyword) : Option E :=
  if !glob sc f || (f == ("__debug__" : Str)) then none
  else match cx.fns.findIdx? (· == f), kwParts kws with
    | some i, some (ks, es) => match cx.kws.find? (fun q => q.1 == i && decide (q.2.1 = ks)), trL tr es with
      | some q, some xs => some (.callk i q.2.2 xs)
      | _, _ => none
    | _, _ => none
def mkBi (cx : TCx) (sc : Scope) (tr : Expr → Option E) (f : Str) (args : List Expr) : Option E :=
  if f = "isinstance" then mkIsi sc tr args
  else if f = "repr" then mk1 tr .rpr args
  else if f = "sorted" then mk1 tr .srt args
  else match biOf f with
    | none => none
    | some b => match (if f = "list" then rangeArg cx sc args else none) with
      | some as => (trL tr as).map .lrng
      | none => (trL tr args).map (.bi b)
def mkCall (cx : TCx) (sc : Scope) (tr : Expr → Option E) (f : Str) (args : List Expr) : Option E :=
  if !glob sc f || (f == ("__debug__" : Str)) || args.isEmpty then none
  else match cx.fns.findIdx? (· == f) with
    | some i => (trL tr args).map (.call i)
    | none => mkBi cx sc tr f args
def mkMeth (tr : Expr → Option E) (o : Expr) (m : Str) (a : Expr) : Option E :=
  match tr o, tr a with
  | some x, some y => if m = "append" then some (.app x y) else if m = "join" then some (.jn x y) else none
  | _, _ => none
def mkZip (tr : Expr → Option E) : List Expr → Option I
  | [a, b] => match tr a, tr b with
    | some x, some y => some (.zip x y)
    | _, _ => none
  | _ => none
def isBlt (cx : TCx) (sc : Scope) (w g : Str) : Bool := decide (g = w) && glob sc g && !cx.fns.contains g
def isStrictKw : List Keyword → Bool
  | [⟨some k, .Constant (.bool true) _ _, _⟩] => decide (k = "strict")
  | _ => false
def mkEnm (tr : Expr → Option E) : List Expr → Option I
  | [a] => (tr a).map .enm
  | _ => none
def mkZps (tr : Expr → Option E) : List Expr → Option I
  | [a, b] => match tr a, tr b with
    | some x, some y => some (.zps x y)
    | _, _ => none
  | _ => none
def isTupleE : Expr → Bool
  | .Tuple _ _ _ => true
  | _ => false
def mkI (cx : TCx) (sc : Scope) (tr : Expr → Option E) (tg it : Expr) : Option I :=
  match it with
  | .Call (.Name g _) as [] _ => if isRange cx sc g && len123 as then (trL tr as).map .rng
    else if isZip cx sc g && isTupleE tg then mkZip tr as
    else if isBlt cx sc "enumerate" g && isTupleE tg then mkEnm tr as
    else (tr it).map .seq
  | .Call (.Name g _) as (kw :: kws) _ => if isZip cx sc g && isTupleE tg && isStrictKw (kw :: kws) then mkZps tr as
    else none
  | it => (tr it).map .seq
def mkComp (cx : TCx) (csc : Scope) (t : Tg) (i : I) (cs : List T) (x : E) : Option E :=
  if (t.slots.all fun j => ((ownOf cx csc).map (·.2)).contains j) && decide (cs.length ≤ 1) then some (.comp x t i cs ((ownOf cx csc).map (·.2))) else none
def mkCompO (cx : TCx) (csc : Scope) (t : Tg) (i : Nat) (cs : List T) (x : E) : Option E :=
  if (t.slots.all fun j => ((ownOf cx csc).map (·.2)).contains j) && decide (cs.length ≤ 1) then some (.compO x t i cs ((ownOf cx csc).map (·.2))) else none
/-- a name whose list is walked and stays one's own -/
def borOf (cx : TCx) (sc : Scope) : Expr → Option Nat
  | .Name y _ => if cx.bor.contains y then match trName cx sc y with
      | some (.var i) => some i
      | _ => none
    else none
  | _ => none
def notO : E → Bool
  | .compO .. => false
  | _ => true
def all2 (l m : List Nat) : Bool := l.all fun j => m.contains j
def mk2 (mk : E → Tg → I → List T → Tg → I → List T → List Nat → List Nat → E) (cx : TCx) (csc : Scope) (t : Tg) (i : I) (cs : List T) (t1 : Tg) (i1 : I) (cs1 : List T) (x : E) : Option E :=
  if all2 t.slots ((ownOf cx csc).map (·.2)) && all2 t1.slots ((ownOf cx csc).map (·.2)) && decide (cs.length ≤ 1) && decide (cs1.length ≤ 1) then some (mk x t i cs t1 i1 cs1 ((ownOf cx csc).map (·.2)) t1.slots) else none
def mkDc (cx : TCx) (csc : Scope) (t : Tg) (i : I) (cs : List T) (k x : E) : Option E :=
  if (t.slots.all fun j => ((ownOf cx csc).map (·.2)).contains j) && decide (cs.length ≤ 1) then some (.dcomp k x t i cs ((ownOf cx csc).map (·.2))) else none
def mkGet (tr : Expr → Option E) (o : Expr) (m : Str) (a b : Expr) : Option E :=
  match tr o, tr a, tr b with
  | some x, some y, some z => if m = "get" then some (.get2 x y z) else none
  | _, _, _ => none
mutual
def trE (cx : TCx) : Nat → Scope → Expr → Option E
  | 0, _, _ => none
  | n + 1, sc, e => match e with
    | .Constant .none _ _ => some (.cst .non)
    | .Constant (.bool b) _ _ => some (.cst (.bl b))
    | .Constant (.int i) _ _ => some (.cst (.int i))
    | .Constant (.str x) _ _ => if strOkL x then some (.cst (.str x)) else none
    | .Name x _ => trName cx sc x
    | .Tuple es _ _ => (trL (trE cx n sc) es).map .tup
    | .List es _ => (trL (trE cx n sc) es).map .lst
    | .BinOp a op b _ => match bopOf op, trE cx n sc a, trE cx n sc b with
      | some o, some x, some y => some (.bin o x y)
      | _, _, _ => none
    | .UnaryOp .USub a _ => (trE cx n sc a).map .neg
    | .UnaryOp .Not a _ => (trE cx n sc a).map .nt
    | .BoolOp .And vs _ => trBoolE .an (trE cx n sc) vs
    | .BoolOp .Or vs _ => trBoolE .orr (trE cx n sc) vs
    | .Compare a [op] [b] _ => match trE cx n sc a, trE cx n sc b with
      | some x, some y => some (.cmp (copOf op) x y)
      | _, _ => none
    | .Compare a [op, op'] [b, c] _ => match trE cx n sc a, trE cx n sc b, trE cx n sc c with
      | some x, some y, some z => some (.chn (copOf op) (copOf op') x y z)
      | _, _, _ => none
    | .IfExp c a b _ => match trT cx n sc c, trE cx n sc a, trE cx n sc b with
      | some x, some y, some z => some (.ite x y z)
      | _, _, _ => none
    | .Subscript a (.Slice lo hi none _) _ => match trE cx n sc a, trO (trE cx n sc) lo, trO (trE cx n sc) hi with
      | some x, some y, some z => some (.sl x y z)
      | _, _, _ => none
    | .Subscript a (.Slice none none (some (.UnaryOp .USub (.Constant (.int i) _ _) _)) _) _ => if i = 1 then (trE cx n sc a).map .rev else none
    | .Subscript a b _ => match trE cx n sc a, trE cx n sc b with
      | some x, some y => some (.ix x y)
      | _, _ => none
    | .Call (.Name f _) [.SetComp elt [⟨tg, it, ifs, a⟩, ⟨tg1, it1, ifs1, a1⟩] csc _] [] _ => if isBlt cx sc "sorted" f = true ∧ a = 0 ∧ a1 = 0 ∧ blkC cx.N sc csc (ownOf cx csc) = true then
        match mkI cx sc (trE cx n sc) tg it, trG cx csc n tg, trTs cx n csc ifs, mkI cx csc (trE cx n csc) tg1 it1, trG cx csc n tg1, trTs cx n csc ifs1, trE cx n csc elt with
        | some i, some t, some cs, some i1, some t1, some cs1, some x => mk2 .srt2 cx csc t i cs t1 i1 cs1 x
        | _, _, _, _, _, _, _ => none
      else none
    | .Call (.Name f _) args [] _ => mkCall cx sc (trE cx n sc) f args
    | .Call (.Attribute o m ap) [a, b] [] cp => if ap.endLine == cp.line then mkGet (trE cx n sc) o m a b else none
    | .Dict [] [] _ => some .dnew
    | .Call (.Name f _) [] kws _ => mkKw cx sc (trE cx n sc) f kws
    | .Call (.Name f _) [a] [⟨some k, d, _⟩] _ => if isBlt cx sc "max" f = true ∧ k = "default" then match trE cx n sc a, trE cx n sc d with
        | some x, some y => some (.maxd x y)
        | _, _ => none
      else none
    | .DictComp kx elt [⟨tg, it, ifs, a⟩] csc _ => if a = 0 ∧ blkC cx.N sc csc (ownOf cx csc) = true then
        match mkI cx sc (trE cx n sc) tg it, trG cx csc n tg, trTs cx n csc ifs, trE cx n csc kx, trE cx n csc elt with
        | some i, some t, some cs, some k, some x => mkDc cx csc t i cs k x
        | _, _, _, _, _ => none
      else none
    | .ListComp elt [⟨tg, it, ifs, a⟩, ⟨tg1, it1, ifs1, a1⟩] csc _ => if a = 0 ∧ a1 = 0 ∧ blkC cx.N sc csc (ownOf cx csc) = true then
        match mkI cx sc (trE cx n sc) tg it, trG cx csc n tg, trTs cx n csc ifs, mkI cx csc (trE cx n csc) tg1 it1, trG cx csc n tg1, trTs cx n csc ifs1, trE cx n csc elt with
        | some i, some t, some cs, some i1, some t1, some cs1, some x => mk2 .comp2 cx csc t i cs t1 i1 cs1 x
        | _, _, _, _, _, _, _ => none
      else none
    | .Call (.Attribute o m ap) [a] [] cp => if ap.endLine == cp.line then mkMeth (trE cx n sc) o m a else none
    | .ListComp elt [⟨tg, it, ifs, a⟩] csc _ => if a = 0 ∧ blkC cx.N sc csc (ownOf cx csc) = true then
        match borOf cx sc it with
        | some i => match trG cx csc n tg, trTs cx n csc ifs, trE cx n csc elt with
          | some t, some cs, some x => mkCompO cx csc t i cs x
          | _, _, _ => none
        | none => match mkI cx sc (trE cx n sc) tg it, trG cx csc n tg, trTs cx n csc ifs, trE cx n csc elt with
        | some i, some t, some cs, some x => mkComp cx csc t i cs x
        | _, _, _, _ => none
      else none
    | _ => none
def trT (cx : TCx) : Nat → Scope → Expr → Option T
  | 0, _, _ => none
  | n + 1, sc, e => match e with
    | .UnaryOp .Not a _ => (trT cx n sc a).map .nt
    | .BoolOp .And vs _ => trBoolT .an (trT cx n sc) vs
    | .BoolOp .Or vs _ => trBoolT .orr (trT cx n sc) vs
    | .IfExp _ _ _ _ => none
    | e => (trE cx n sc e).map .val
def trTs (cx : TCx) : Nat → Scope → List Expr → Option (List T)
  | 0, _, _ => none
  | _ + 1, _, [] => some []
  | n + 1, sc, e :: es => match trT cx n sc e, trTs cx n sc es with
    | some x, some xs => some (x :: xs)
    | _, _ => none
end
def nameOf : Expr → Option Str
  | .Name x _ => some x
  | _ => none
def isCallE : Expr → Bool
  | .Call _ _ _ _ => true
  | _ => false
/-- the name of a target, where it is a local on that line -/
def pnm (sc : Scope) (l : Nat) : Expr → Option Str
  | .Name id pos => if sc.names.lookup id == some .local && pos.line == l then some id else none
  | _ => none
def parNames (sc : Scope) (ts : List Expr) : List Str := ts.filterMap (pnm sc ((ts.head?.map (·.pos.line)).getD 0))
/-- how the model stores a, b = x, y: from the right, or by a tuple; none: not known -/
def parWay (sc : Scope) (ts vs : List Expr) : Option Bool :=
  if vs.length != ts.length then none
  else if !(ts.length == 2 || ts.length == 3) then some false
  else if (parNames sc ts).length != ts.length || (parNames sc ts).eraseDups.length != (parNames sc ts).length then some false
  else if vs.all (foldedForSure 8) then some false
  else if vs.all (constantsAlone 8) then none
  else some true
def trPar (cx : TCx) (sc : Scope) : List Expr → Option (List Nat)
  | [] => some []
  | .Name x _ :: es => if locl sc x then match ixOf cx x, trPar cx sc es with
      | some i, some is => some (i :: is)
      | _, _ => none
    else none
  | _ => none
/-- what may be bound to a name here -/
def okSet : Expr → Bool
  | .DictComp _ _ _ _ _ => false
  | .SetComp _ _ _ _ => false
  | .ListComp _ (_ :: _ :: _) _ _ => false
  | _ => true
mutual
def trS (cx : TCx) : Nat → Scope → Stmt → Option S
  | 0, _, _ => none
  | n + 1, sc, st => match st with
    | .Assign [.Name x _] e _ => if locl sc x && okSet e then match ixOf cx x, trE cx n sc e with
        | some i, some y => if notO y then some (.set i y) else none
        | _, _ => none
      else none
    | .Assign [.Tuple ts _ _] (.Tuple es _ _) _ => match parWay sc ts es, trPar cx sc ts, trL (trE cx n sc) es with
      | some _, some is, some ys => if decide is.Nodup && decide (is.length = ys.length) && decide (is.length ≤ 50) then some (.par is ys) else none
      | _, _, _ => none
    | .Assign [.Tuple ts k p] e _ => match trG cx sc n (.Tuple ts k p), trE cx n sc e with
      | some t, some y => some (.asg t y)
      | _, _ => none
    | .Assign [.Subscript o ix _] e _ => match trE cx n sc o, trE cx n sc ix, trE cx n sc e with
      | some x, some y, some z => some (.ixs x y z)
      | _, _, _ => none
    | .AugAssign (.Name x _) op e _ => if locl sc x then match ixOf cx x, bopOf op, trE cx n sc e with
        | some i, some o, some y => some (.aug i o y)
        | _, _, _ => none
      else none
    | .Expr (.Constant (.str _) _ _) _ => some .pas
    | .Expr e _ => if isCallE e then (trE cx n sc e).map .ex else none
    | .If c a b _ => match trT cx n sc c, trSs cx n sc a, trSs cx n sc b with
      | some x, some y, some z => some (.iff x y z)
      | _, _, _ => none
    | .While c a [] _ => match trT cx n sc c, trSs cx n sc a with
      | some x, some y => some (.whl x y)
      | _, _ => none
    | .For tg it a [] _ => match trG cx sc n tg, mkI cx sc (trE cx n sc) tg it, trSs cx n sc a with
      | some t, some i, some y => some (.frr t i y)
      | _, _, _ => none
    | .Return none _ => some (.ret none)
    | .Return (some e) _ => (trE cx n sc e).map fun y => .ret (some y)
    | .Break _ => some .brk
    | .Continue _ => some .cnt
    | .Pass _ => some .pas
    | .Raise _ _ _ => some .nev
    | _ => none
def trSs (cx : TCx) : Nat → Scope → List Stmt → Option (List S)
  | 0, _, _ => none
  | _ + 1, _, [] => some []
  | n + 1, sc, s :: ss => match trS cx n sc s, trSs cx n sc ss with
    | some x, some xs => some (x :: xs)
    | _, _ => none
end
end Sv

namespace Sv
open PySem PySem.Spec PyProof.Rows L2 Tx
/-! plain forms -/
def ordy : Expr → Bool
  | .Starred .. => false
  | .Set .. => false
  | .Slice .. => false
  | _ => true
theorem star1 {e : Expr} {es : List Expr} {env : Env} (h : ordy e = true) : starEach (e :: es) env = (false, eval e env) :: starEach es env := by
  cases e <;> first | rfl | cases h
theorem starAll {env : Env} {pos : Pos} : ∀ {es : List Expr}, (∀ e ∈ es, ordy e = true) → (backTo pos (starEach es env)).any (·.1) = false
  | [], _ => rfl
  | e :: es, h => by
    rw [star1 (h e (by simp))]
    show ((backTo pos ((false, eval e env) :: starEach es env)).any (·.1)) = false
    have := starAll (env := env) (pos := pos) (es := es) fun x hx => h x (by simp [hx])
    unfold backTo at this ⊢
    rw [List.map_cons, List.any_cons, this]
    rfl
theorem markO {e : Expr} {op : CmpOp} (h : ordy e = true) : behindInMarks op e = false := by
  cases e <;> first | rfl | cases h
theorem plainO {e : Expr} (h : ordy e = true) : PlainIx e := by
  cases e <;> first | exact fun _ _ => rfl | cases h
theorem foldO {e : Expr} {env : Env} (h : ordy e = true) : ∀ x, foldedSetIterable e env x = pure x := by
  cases e <;> first | exact fun _ => rfl | cases h
section
variable {cx : TCx} {F : Nat → Fn} {Ld : Nat → Bool}
theorem trE_ordy {n : Nat} {sc : Scope} {e : Expr} {ir : E} (h : trE cx n sc e = some ir) : ordy e = true := by
  cases n with
  | zero => simp [trE] at h
  | succ n => cases e <;> first | rfl | simp [trE] at h
theorem trL_ordy {f : Expr → Option E} (hf : ∀ e ir, f e = some ir → ordy e = true) : ∀ {es : List Expr} {irs : List E}, trL f es = some irs → ∀ e ∈ es, ordy e = true
  | [], _, _ => by simp
  | e :: es, irs, h => by
    simp only [trL] at h
    cases h1 : f e with
    | none => rw [h1] at h; simp at h
    | some x =>
      cases h2 : trL f es with
      | none => rw [h1, h2] at h; simp at h
      | some xs =>
        intro y hy
        rcases List.mem_cons.1 hy with rfl | hy
        · exact hf _ _ h1
        · exact trL_ordy hf h2 y hy
/-! what the text leans on -/
def bltNames : List Str := ["len", "abs", "min", "max", "sum", "all", "any", "tuple", "list", "int", "str", "bool", "dict", "isinstance", "range", "zip", "enumerate", "sorted", "repr"]
structure Cxt (cx : TCx) (F : Nat → Fn) (Ld : Nat → Bool) (X : Cx) (sc : Scope) : Prop where
  calm : X.calm = true
  N : X.N = cx.N
  nd : cx.N.Nodup
  lk : ∀ x k, sc.names.lookup x = some k → X.env.scope.names.lookup x = some k ∨ (k = .free ∧ X.env.scope.names.lookup x = some .cell)
  fn : ∀ x, sc.names.lookup x = some .cell → X.fn x = true
  cons : ∀ x d, cx.cons.lookup x = some d → ∃ u v, X.mg x = some u ∧ RelV v u ∧ ∀ K H, Rp K H d v
  fns : ∀ i x, cx.fns[i]? = some x → ∃ k f fd ps n, FnG X.prog X.w X.K X.mg X.base CX0 k f fd ps (spOf X.K n (F i)) ∧ RoomG k X.A ∧ X.mg x = some (.ref f) ∧ PySem.W.keepIn X.K (.ref f) = true ∧ L2.Binds X.K fd ps [] ∧ (∀ as out, F i as = some out → as.length = n) ∧ ∀ ks perm, (i, ks, perm) ∈ cx.kws → KBn X.K fd ps 0 ks (fun _ ws => gP perm ws) (fun _ zs => gPV perm zs) ∧ perm.length = n
  blt : ∀ x ∈ bltNames, x ∉ cx.fns → X.mg x = none
  bf : ∀ x ∈ bltNames, x ∉ cx.fns
  hu : X.A.units + 65 < cLine
  gd : X.A.guards = some []
section
variable {X : Cx} {sc : Scope}
theorem Cxt.vis (C : Cxt cx F Ld X sc) {x : Str} (h : seen sc x = true) : Vis X.env.scope x := by
  unfold seen locl at h
  simp only [Bool.or_eq_true, beq_iff_eq] at h
  rcases h with (h | h) | h
  · rcases C.lk x _ h with h | h
    · exact .inl h
    · exact absurd h.1 (by simp)
  · rcases C.lk x _ h with h | h
    · exact .inr (.inl h)
    · exact absurd h.1 (by simp)
  · rcases C.lk x _ h with h | h
    · exact .inr (.inr h)
    · exact .inr (.inl h.2)
theorem Cxt.loc (C : Cxt cx F Ld X sc) {x : Str} (h : locl sc x = true) : Loc X.env.scope x ∧ (X.fn x = true ∨ X.env.scope.names.lookup x = some .local) := by
  unfold locl at h
  simp only [Bool.or_eq_true, beq_iff_eq] at h
  rcases h with h | h
  · rcases C.lk x _ h with h | h
    · exact ⟨.inl h, .inr h⟩
    · exact absurd h.1 (by simp)
  · rcases C.lk x _ h with h' | h'
    · exact ⟨.inr h', .inl (C.fn x h)⟩
    · exact absurd h'.1 (by simp)
theorem Cxt.gl (C : Cxt cx F Ld X sc) {x : Str} (h : glob sc x = true) : Gl X x := by
  unfold glob at h
  simp only [beq_iff_eq] at h
  rcases C.lk x _ h with h | h
  · exact h
  · exact absurd h.1 (by simp)
theorem ixOf_get {x : Str} {i : Nat} (h : ixOf cx x = some i) : cx.N[i]? = some x := by
  unfold ixOf at h
  rw [List.findIdx?_eq_some_iff_getElem] at h
  obtain ⟨lt, h1, _⟩ := h
  rw [List.getElem?_eq_getElem lt]
  simpa using h1
theorem Cxt.name (C : Cxt cx F Ld X sc) {x : Str} {p : Pos} {ir : E} {Γ Γ' : Gm} {r : Rs} (h : trName cx sc x = some ir) (he : evE F Ld ir Γ = some (r, Γ')) : DE X (.Name x p) Γ r Γ' := by
  unfold trName at h
  split at h
  · cases h
  · next hd =>
    simp only [Bool.or_eq_true, not_or, Bool.not_eq_true] at hd
    split at h
    · next hs =>
      cases hi : ixOf cx x with
      | none => rw [hi] at h; cases h
      | some i =>
        rw [hi] at h
        cases h
        simp only [evE] at he
        split at he
        · next hb =>
          cases he
          unfold bound at hb
          cases hg : Γ[i]? with
          | none => rw [hg] at hb; cases hb
          | some s =>
            refine de_var (pe_var (by rw [C.N]; exact ixOf_get hi) (C.vis hs) hd.1 hd.2) hg fun z => ?_
            subst z
            rw [hg] at hb
            cases hb
        · cases he
    · split at h
      · next hg =>
        cases hc : cx.cons.lookup x with
        | none => rw [hc] at h; cases h
        | some d =>
          rw [hc] at h
          cases h
          simp only [evE] at he
          cases he
          obtain ⟨u, v, h1, h2, h3⟩ := C.cons x d hc
          exact de_c (pe_glob (C.gl hg) h1 h2 hd.1) h3
      · cases h
end
theorem relab_lookup {g : Str → NameKind → NameKind} : ∀ {names : List (Str × NameKind)} {x : Str}, (names.map fun (y : Str × NameKind) => (y.1, g y.1 y.2)).lookup x = (names.lookup x).map (g x)
  | [], _ => rfl
  | (n, k) :: r, x => by
    simp only [List.map_cons, List.lookup_cons]
    cases h : x == n with
    | true =>
      have : x = n := by simpa using h
      subst this
      rfl
    | false => exact relab_lookup
/-- within a comprehension's block -/
theorem Cxt.blk {X : Cx} {sc csc : Scope} (C : Cxt cx F Ld X sc) (s : Shared) (H : Hp) (Ca : Addr) (cl : List (Str × Addr)) (fp : List Addr) : Cxt cx F Ld (X.blk s H csc (compEnvC csc cl Ca X.env) fp) csc where
  calm := C.calm
  N := C.N
  nd := C.nd
  lk := fun x k h => by
    have e : (relabel csc X.env).names.lookup x = (csc.names.lookup x).map fun k => if (k == NameKind.free && X.env.scope.kind == .function && X.env.kindOf x == some .cell) = true then NameKind.cell else k := by
      have hm : (relabel csc X.env).names = csc.names.map fun (y : Str × NameKind) => (y.1, (fun (n : Str) (k : NameKind) => if (k == NameKind.free && X.env.scope.kind == .function && X.env.kindOf n == some .cell) = true then NameKind.cell else k) y.1 y.2) := by
        unfold relabel
        show (csc.names.map _) = _
        apply List.map_congr_left
        rintro ⟨n, k⟩ _
        dsimp only
        split <;> rfl
      rw [hm, relab_lookup (g := fun (n : Str) (k : NameKind) => if (k == NameKind.free && X.env.scope.kind == .function && X.env.kindOf n == some .cell) = true then NameKind.cell else k)]
    show (relabel csc X.env).names.lookup x = some k ∨ (k = .free ∧ (relabel csc X.env).names.lookup x = some .cell)
    rw [e, h]
    simp only [Option.map_some, Option.some.injEq]
    split
    · next hk =>
      simp only [Bool.and_eq_true, beq_iff_eq] at hk
      exact .inr ⟨hk.1.1, rfl⟩
    · exact .inl rfl
  fn := fun x h => by
    show (csc.names.lookup x == some .cell) = true
    rw [h]
    rfl
  cons := C.cons
  fns := C.fns
  blt := C.blt
  bf := C.bf
  hu := C.hu
  gd := C.gd
theorem Cxt.blkOk {X : Cx} {sc csc : Scope} (C : Cxt cx F Ld X sc) {own : List (Str × Nat)} (h : blkC cx.N sc csc own = true) : BlkOk X.N X.env.scope csc own := by
  have B := blkOk_by h
  rw [C.N]
  exact ⟨B.kind, B.uniq, B.ix, fun y hy hf => by
    rcases B.free y hy hf with q | q
    · rcases C.lk y.1 _ q with q | q
      · exact .inl q
      · exact .inl q.2
    · rcases C.lk y.1 _ q with q | q
      · exact .inr q
      · exact .inl q.2, B.own⟩
end
end Sv

namespace Sv
open PySem PySem.Spec PyProof.Rows L2
section
variable {cx : TCx} {F : Nat → Fn} {Ld : Nat → Bool}
theorem trG_ordy {sc : Scope} {n : Nat} {e : Expr} {t : Tg} (h : trG cx sc n e = some t) : ordy e = true := by
  cases n with
  | zero => simp [trG] at h
  | succ n => cases e <;> first | rfl | simp [trG] at h
theorem assign1 {e : Expr} {es : List Expr} {env : Env} (h : ordy e = true) : assignEach (e :: es) env = (false, assign e env) :: assignEach es env := by
  cases e <;> first | rfl | cases h
theorem trGs_each {sc : Scope} {env : Env} : ∀ {n : Nat} {es : List Expr} {ts : List Tg}, trGs cx sc n es = some ts → (assignEach es env).length = ts.length ∧ (assignEach es env).findIdx? (·.1) = none
  | 0, _, _, h => by simp [trGs] at h
  | n + 1, [], ts, h => by
    simp only [trGs, Option.some.injEq] at h
    subst h
    exact ⟨rfl, rfl⟩
  | n + 1, e :: es, ts, h => by
    simp only [trGs] at h
    cases h1 : trG cx sc n e with
    | none => rw [h1] at h; simp at h
    | some t =>
      cases h2 : trGs cx sc n es with
      | none => rw [h1, h2] at h; simp at h
      | some ts' =>
        rw [h1, h2] at h
        cases h
        obtain ⟨a, b⟩ := trGs_each (env := env) h2
        rw [assign1 (trG_ordy h1)]
        refine ⟨by rw [List.length_cons, List.length_cons, a], ?_⟩
        rw [List.findIdx?_cons, b]
        rfl
theorem bindTs_len : ∀ {ts : List Tg} {ds : List D} {Γ Γ' : Gm}, bindTs ts ds Γ = some Γ' → ds.length = ts.length
  | [], [], _, _, _ => rfl
  | [], _ :: _, _, _, h => by simp [bindTs] at h
  | _ :: _, [], _, _, h => by simp [bindTs] at h
  | t :: ts, d :: ds, Γ, Γ', h => by
    simp only [bindTs] at h
    cases h1 : bindT t d Γ with
    | none => rw [h1] at h; cases h
    | some Γ1 =>
      rw [h1] at h
      rw [List.length_cons, List.length_cons, bindTs_len h]
theorem sound_G {X : Cx} {sc : Scope} (C : Cxt cx F Ld X sc) : ∀ n : Nat, (∀ e t d Γ Γ', trG cx sc n e = some t → bindT t d Γ = some Γ' → DG X e t.slots Γ d Γ') ∧
    ∀ es ts ds Γ Γ', trGs cx sc n es = some ts → bindTs ts ds Γ = some Γ' → DGs X es (Tg.slotss ts) Γ ds Γ' := by
  intro n
  induction n with
  | zero => exact ⟨fun e t d Γ Γ' h => by simp [trG] at h, fun e t d Γ Γ' h => by simp [trGs] at h⟩
  | succ n ih =>
    refine ⟨fun e t d Γ Γ' h hb => ?_, fun es ts ds Γ Γ' h hb => ?_⟩
    · cases e <;> simp only [trG, reduceCtorEq] at h
      · next x p =>
        split at h
        · next hl =>
          cases hi : ixOf cx x with
          | none => rw [hi] at h; cases h
          | some i =>
            rw [hi] at h
            cases h
            simp only [bindT] at hb
            obtain ⟨l1, l2⟩ := C.loc hl
            exact dg_name (by rw [C.N]; exact C.nd) (by rw [C.N]; exact ixOf_get hi) l1 l2 hb
        · cases h
      · next es k p =>
        cases hi : trGs cx sc n es with
        | none => rw [hi] at h; cases h
        | some ts =>
          rw [hi] at h
          cases h
          obtain ⟨a1, a2⟩ := trGs_each (env := X.env) hi
          cases d <;> simp only [bindT, reduceCtorEq] at hb
          · exact dg_tup C.calm (ih.2 es ts _ Γ Γ' hi hb) (bindTs_len hb) a1 a2
          · exact dg_unl C.calm (ih.2 es ts _ Γ Γ' hi hb) (bindTs_len hb) a1 a2
    · cases es with
      | nil =>
        simp only [trGs, Option.some.injEq] at h
        subst h
        cases ds with
        | nil =>
          simp only [bindTs, Option.some.injEq] at hb
          subst hb
          exact dgs_nil
        | cons d ds => simp [bindTs] at hb
      | cons e es =>
        simp only [trGs] at h
        cases h1 : trG cx sc n e with
        | none => rw [h1] at h; simp at h
        | some t =>
          cases h2 : trGs cx sc n es with
          | none => rw [h1, h2] at h; simp at h
          | some ts' =>
            rw [h1, h2] at h
            cases h
            cases ds with
            | nil => simp [bindTs] at hb
            | cons d ds =>
              simp only [bindTs] at hb
              cases hb1 : bindT t d Γ with
              | none => rw [hb1] at hb; cases hb
              | some Γ1 =>
                rw [hb1] at hb
                refine dgs_cons (ih.1 e t d Γ Γ1 h1 hb1) (ih.2 es ts' ds Γ1 Γ' h2 hb) ?_
                rw [assign1 (trG_ordy h1)]
                rfl
/-! expressions: what is shown of a translation of size n -/
structure IHE (cx : TCx) (F : Nat → Fn) (Ld : Nat → Bool) (n : Nat) : Prop where
  e : ∀ {X : Cx} {sc : Scope} {e : Expr} {ir : E} {Γ Γ' : Gm} {r : Rs}, Cxt cx F Ld X sc → trE cx n sc e = some ir → evE F Ld ir Γ = some (r, Γ') → DE X e Γ r Γ'
  cp : ∀ {X : Cx} {sc : Scope} {a : Expr} {ops : List CmpOp} {cs : List Expr} {pos : Pos} {ir : E} {Γ Γ' : Gm} {r : Rs}, Cxt cx F Ld X sc → trE cx n sc (.Compare a ops cs pos) = some ir → evE F Ld ir Γ = some (r, Γ') → ∀ k, readR r Γ' = some (.bl k) → DT X (.Compare a ops cs pos) Γ k Γ'
  t : ∀ {X : Cx} {sc : Scope} {e : Expr} {ir : T} {Γ Γ' : Gm} {k : Bool}, Cxt cx F Ld X sc → trT cx n sc e = some ir → evT F Ld ir Γ = some (k, Γ') → DT X e Γ k Γ'
  ts : ∀ {X : Cx} {sc : Scope} {es : List Expr} {irs : List T} {Γ Γ' : Gm} {k : Bool}, Cxt cx F Ld X sc → trTs cx n sc es = some irs → irs.length ≤ 1 → evCs F Ld irs Γ = some (k, Γ') → PTs X es (rdT X.K Γ k Γ')
section
variable {X : Cx} {sc : Scope} {n : Nat}
theorem IHE.l (H : IHE cx F Ld n) (C : Cxt cx F Ld X sc) : ∀ {es : List Expr} {irs : List E} {Γ Γ' : Gm} {rs : List Rs}, trL (trE cx n sc) es = some irs → evEs F Ld irs Γ = some (rs, Γ') → DA X es Γ rs Γ'
  | [], irs, Γ, Γ', rs, h, he => by
    simp only [trL, Option.some.injEq] at h
    subst h
    simp only [evEs, Option.some.injEq, Prod.mk.injEq] at he
    obtain ⟨rfl, rfl⟩ := he
    exact da_nil
  | e :: es, irs, Γ, Γ', rs, h, he => by
    simp only [trL] at h
    cases h1 : trE cx n sc e with
    | none => rw [h1] at h; simp at h
    | some x =>
      cases h2 : trL (trE cx n sc) es with
      | none => rw [h1, h2] at h; simp at h
      | some xs =>
        rw [h1, h2] at h
        cases h
        simp only [evEs] at he
        cases e1 : evE F Ld x Γ with
        | none => rw [e1] at he; cases he
        | some p =>
          obtain ⟨r, Γ1⟩ := p
          rw [e1] at he
          simp only at he
          cases e2 : evEs F Ld xs Γ1 with
          | none => rw [e2] at he; cases he
          | some p =>
            obtain ⟨rs', Γ2⟩ := p
            rw [e2] at he
            cases he
            exact da_cons (H.e C h1 e1) (H.l C h2 e2) (star1 (trE_ordy h1))
theorem evEs_len : ∀ {irs : List E} {Γ Γ' : Gm} {rs : List Rs}, evEs F Ld irs Γ = some (rs, Γ') → rs.length = irs.length
  | [], Γ, Γ', rs, he => by
    simp only [evEs, Option.some.injEq, Prod.mk.injEq] at he
    obtain ⟨rfl, rfl⟩ := he
    rfl
  | x :: xs, Γ, Γ', rs, he => by
    simp only [evEs] at he
    cases e1 : evE F Ld x Γ with
    | none => rw [e1] at he; cases he
    | some p =>
      obtain ⟨r, Γ1⟩ := p
      rw [e1] at he
      simp only at he
      cases e2 : evEs F Ld xs Γ1 with
      | none => rw [e2] at he; cases he
      | some p =>
        obtain ⟨rs', Γ2⟩ := p
        rw [e2] at he
        cases he
        rw [List.length_cons, List.length_cons, evEs_len e2]
theorem copOf_op (op : CmpOp) : (copOf op).op = op := by cases op <;> rfl
theorem bopOf_op {op : Operator} {o : BOp} (h : bopOf op = some o) : o.op = op := by
  cases op <;> simp only [bopOf, Option.some.injEq, reduceCtorEq] at h <;> subst h <;> rfl
theorem IHE.bin (H : IHE cx F Ld n) (C : Cxt cx F Ld X sc) {a b : Expr} {op : Operator} {o : BOp} {x y : E} {pos : Pos} {Γ Γ' : Gm} {r : Rs} (ho : bopOf op = some o) (ha : trE cx n sc a = some x) (hb : trE cx n sc b = some y) (he : evE F Ld (.bin o x y) Γ = some (r, Γ')) : DE X (.BinOp a op b pos) Γ r Γ' := by
  simp only [evE] at he
  cases e1 : evE F Ld x Γ with
  | none => rw [e1] at he; cases he
  | some p =>
    obtain ⟨r1, Γ1⟩ := p
    rw [e1] at he
    simp only at he
    cases e2 : evE F Ld y Γ1 with
    | none => rw [e2] at he; cases he
    | some p =>
      obtain ⟨r2, Γ2⟩ := p
      rw [e2] at he
      simp only at he
      cases d1 : readR r1 Γ2 with
      | none => rw [d1] at he; simp at he
      | some d1' =>
        cases d2 : readR r2 Γ2 with
        | none => rw [d1, d2] at he; simp at he
        | some d2' =>
          rw [d1, d2] at he
          simp only at he
          cases hb' : binD o d1' d2' with
          | none => rw [hb'] at he; cases he
          | some r' =>
            rw [hb'] at he
            cases he
            obtain ⟨w, w1, w2⟩ := bin_ok (X := X) hb'
            rw [bopOf_op ho] at w1
            exact de_bin w1 (H.e C ha e1) (H.e C hb e2) d1 d2 w2
theorem IHE.cmp (H : IHE cx F Ld n) (C : Cxt cx F Ld X sc) {a b : Expr} {op : CmpOp} {x y : E} {pos : Pos} {Γ Γ' : Gm} {r : Rs} (ha : trE cx n sc a = some x) (hb : trE cx n sc b = some y) (he : evE F Ld (.cmp (copOf op) x y) Γ = some (r, Γ')) :
    DE X (.Compare a [op] [b] pos) Γ r Γ' ∧ ∀ k, readR r Γ' = some (.bl k) → DT X (.Compare a [op] [b] pos) Γ k Γ' := by
  simp only [evE] at he
  cases e1 : evE F Ld x Γ with
  | none => rw [e1] at he; cases he
  | some p =>
    obtain ⟨r1, Γ1⟩ := p
    rw [e1] at he
    simp only at he
    cases e2 : evE F Ld y Γ1 with
    | none => rw [e2] at he; cases he
    | some p =>
      obtain ⟨r2, Γ2⟩ := p
      rw [e2] at he
      simp only at he
      cases d1 : readR r1 Γ2 with
      | none => rw [d1] at he; simp at he
      | some d1' =>
        cases d2 : readR r2 Γ2 with
        | none => rw [d1, d2] at he; simp at he
        | some d2' =>
          rw [d1, d2] at he
          simp only at he
          cases hb' : cmpD (copOf op) d1' d2' with
          | none => rw [hb'] at he; cases he
          | some k =>
            rw [hb'] at he
            cases he
            obtain ⟨w, w1, w2⟩ := cmp_ok (X := X) C.hu hb'
            rw [copOf_op] at w1
            refine ⟨de_cmp w1 (H.e C ha e1) (H.e C hb e2) (markO (trE_ordy hb)) d1 d2 w2, fun k' hk => ?_⟩
            simp only [readR, Option.some.injEq, D.bl.injEq] at hk
            subst hk
            exact dt_cmp w1 (H.e C ha e1) (H.e C hb e2) (markO (trE_ordy hb)) d1 d2 w2
theorem IHE.an (H : IHE cx F Ld n) (C : Cxt cx F Ld X sc) {pos : Pos} : ∀ {vs : List Expr} {ir : E} {Γ Γ' : Gm} {r : Rs}, trBoolE .an (trE cx n sc) vs = some ir → evE F Ld ir Γ = some (r, Γ') → DE X (.BoolOp .And vs pos) Γ r Γ'
  | [], ir, Γ, Γ', r, h, _ => by simp [trBoolE] at h
  | [a], ir, Γ, Γ', r, h, he => by
    simp only [trBoolE] at h
    exact pe_one (H.e C h he)
  | a :: b :: vs, ir, Γ, Γ', r, h, he => by
    simp only [trBoolE] at h
    cases h1 : trE cx n sc a with
    | none => rw [h1] at h; simp at h
    | some x =>
      cases h2 : trBoolE .an (trE cx n sc) (b :: vs) with
      | none => rw [h1, h2] at h; simp at h
      | some y =>
        rw [h1, h2] at h
        cases h
        simp only [evE] at he
        cases e1 : evE F Ld x Γ with
        | none => rw [e1] at he; cases he
        | some p =>
          obtain ⟨r1, Γ1⟩ := p
          rw [e1] at he
          simp only at he
          split at he
          · next hr =>
            refine pe_sub (pe_and (H.e C h1 e1) (H.an C h2 he)) fun σ Hh Q q => ⟨q.1, fun v H1 s1 p1 o1 => ⟨true, (read_ok s1.env p1 hr).bl, ?_⟩⟩
            rw [if_pos rfl]
            exact ⟨s1.env, fun w H2 s2 p2 o2 => q.2 w H2 (s1.trans s2) p2 (o2.ste s1)⟩
          · next hr =>
            cases he
            refine pe_sub (pe_and (tb := fun _ _ _ => False) (H.e C h1 e1) ⟨fun _ _ _ _ _ _ f => f.elim⟩) fun σ Hh Q q => ⟨q.1, fun v H1 s1 p1 o1 => ⟨false, (read_ok s1.env p1 hr).bl, ?_⟩⟩
            rw [if_neg (by decide)]
            exact q.2 _ H1 s1 (by simp only [Pd, Rp]) trivial
          · cases he
theorem IHE.orr (H : IHE cx F Ld n) (C : Cxt cx F Ld X sc) {pos : Pos} : ∀ {vs : List Expr} {ir : E} {Γ Γ' : Gm} {r : Rs}, trBoolE .orr (trE cx n sc) vs = some ir → evE F Ld ir Γ = some (r, Γ') → DE X (.BoolOp .Or vs pos) Γ r Γ'
  | [], ir, Γ, Γ', r, h, _ => by simp [trBoolE] at h
  | [a], ir, Γ, Γ', r, h, he => by
    simp only [trBoolE] at h
    exact pe_one (H.e C h he)
  | a :: b :: vs, ir, Γ, Γ', r, h, he => by
    simp only [trBoolE] at h
    cases h1 : trE cx n sc a with
    | none => rw [h1] at h; simp at h
    | some x =>
      cases h2 : trBoolE .orr (trE cx n sc) (b :: vs) with
      | none => rw [h1, h2] at h; simp at h
      | some y =>
        rw [h1, h2] at h
        cases h
        simp only [evE] at he
        cases e1 : evE F Ld x Γ with
        | none => rw [e1] at he; cases he
        | some p =>
          obtain ⟨r1, Γ1⟩ := p
          rw [e1] at he
          simp only at he
          split at he
          · next hr =>
            cases he
            refine pe_sub (pe_or (tb := fun _ _ _ => False) (H.e C h1 e1) ⟨fun _ _ _ _ _ _ f => f.elim⟩) fun σ Hh Q q => ⟨q.1, fun v H1 s1 p1 o1 => ⟨true, (read_ok s1.env p1 hr).bl, ?_⟩⟩
            rw [if_pos rfl]
            exact q.2 _ H1 s1 (by simp only [Pd, Rp]) trivial
          · next hr =>
            refine pe_sub (pe_or (H.e C h1 e1) (H.orr C h2 he)) fun σ Hh Q q => ⟨q.1, fun v H1 s1 p1 o1 => ⟨false, (read_ok s1.env p1 hr).bl, ?_⟩⟩
            rw [if_neg (by decide)]
            exact ⟨s1.env, fun w H2 s2 p2 o2 => q.2 w H2 (s1.trans s2) p2 (o2.ste s1)⟩
          · cases he
end
end
end Sv

namespace Sv
open PySem PySem.Spec PyProof.Rows L2
section
variable {cx : TCx} {F : Nat → Fn} {Ld : Nat → Bool} {X : Cx} {sc : Scope} {n : Nat}
theorem IHE.chn (H : IHE cx F Ld n) (C : Cxt cx F Ld X sc) {a b c : Expr} {op op' : CmpOp} {x y z : E} {pos : Pos} {Γ Γ' : Gm} {r : Rs} (ha : trE cx n sc a = some x) (hb : trE cx n sc b = some y) (hc : trE cx n sc c = some z) (he : evE F Ld (.chn (copOf op) (copOf op') x y z) Γ = some (r, Γ')) :
    DE X (.Compare a [op, op'] [b, c] pos) Γ r Γ' ∧ ∀ k, readR r Γ' = some (.bl k) → DT X (.Compare a [op, op'] [b, c] pos) Γ k Γ' := by
  have lm : lastMarks [op, op'] [b, c] = false := markO (trE_ordy hc)
  simp only [evE] at he
  cases e1 : evE F Ld x Γ with
  | none => rw [e1] at he; cases he
  | some p =>
    obtain ⟨r1, Γ1⟩ := p
    rw [e1] at he
    simp only at he
    cases e2 : evE F Ld y Γ1 with
    | none => rw [e2] at he; cases he
    | some p =>
      obtain ⟨r2, Γ2⟩ := p
      rw [e2] at he
      simp only at he
      cases d1 : readR r1 Γ2 with
      | none => rw [d1] at he; simp at he
      | some d1' =>
        cases d2 : readR r2 Γ2 with
        | none => rw [d1, d2] at he; simp at he
        | some d2' =>
          rw [d1, d2] at he
          simp only at he
          cases hb' : cmpD (copOf op) d1' d2' with
          | none => rw [hb'] at he; cases he
          | some k =>
            rw [hb'] at he
            obtain ⟨w, w1, w2⟩ := cmp_ok (X := X) C.hu hb'
            rw [copOf_op] at w1
            have A1 := H.e C ha e1
            have A2 := H.e C hb e2
            cases k with
            | false =>
              simp only [Option.some.injEq, Prod.mk.injEq] at he
              obtain ⟨rfl, rfl⟩ := he
              constructor
              · refine pe_sub (pe_chain (r' := fun _ _ _ _ => False) w1 (fun _ _ _ _ _ _ _ _ _ _ _ _ f => f.elim) A1 A2 (tc := fun _ _ _ => False) ⟨fun _ _ _ _ _ _ f => f.elim⟩ lm) fun σ Hh Q q => ⟨q.1, fun v H1 s1 p1 o1 => ⟨s1.env, fun u H2 s2 p2 o2 => w2 H2 v u _ (read_ok s2.env (p1.ste s2) d1) (read_ok s2.env p2 d2) fun t H3 sm f => ?_⟩⟩
                obtain ⟨s3, p3, o3⟩ := f.lift s2.env sm
                have et : t = .bl false := by simpa only [Fr, Rp] using f
                refine ⟨false, et, ?_⟩
                rw [if_neg (by decide)]
                exact q.2 _ H3 ((s1.trans s2).trans s3) (by simp only [Pd, Rp]) trivial
              · intro k hk
                simp only [readR, Option.some.injEq, D.bl.injEq] at hk
                subst hk
                refine pt_sub (pt_chain (r' := fun _ _ _ _ => False) w1 (fun _ _ _ _ _ _ _ _ _ _ _ _ f => f.elim) A1 A2 (tc := fun _ _ _ => False) ⟨fun _ _ _ _ _ _ f => f.elim⟩ lm) fun σ Hh Q q => ⟨q.1, fun v H1 s1 p1 o1 => ⟨s1.env, fun u H2 s2 p2 o2 => w2 H2 v u _ (read_ok s2.env (p1.ste s2) d1) (read_ok s2.env p2 d2) fun t H3 sm f => ?_⟩⟩
                obtain ⟨s3, p3, o3⟩ := f.lift s2.env sm
                have et : t = .bl false := by simpa only [Fr, Rp] using f
                refine ⟨false, et, ?_⟩
                rw [if_neg (by decide)]
                exact ⟨false, rfl, q.2 H3 ((s1.trans s2).trans s3)⟩
            | true =>
              simp only at he
              cases e3 : evE F Ld z Γ2 with
              | none => rw [e3] at he; cases he
              | some p =>
                obtain ⟨r3, Γ3⟩ := p
                rw [e3] at he
                simp only at he
                cases d2b : readR r2 Γ3 with
                | none => rw [d2b] at he; simp at he
                | some d2'' =>
                  cases d3 : readR r3 Γ3 with
                  | none => rw [d2b, d3] at he; simp at he
                  | some d3' =>
                    rw [d2b, d3] at he
                    simp only at he
                    cases hb2 : cmpD (copOf op') d2'' d3' with
                    | none => rw [hb2] at he; cases he
                    | some k =>
                      rw [hb2] at he
                      cases he
                      obtain ⟨w', w3, w4⟩ := cmp_ok (X := X) C.hu hb2
                      rw [copOf_op] at w3
                      have A3 := H.e C hc e3
                      constructor
                      · refine pe_sub (pe_chain w1 w3 A1 A2 A3 lm) fun σ Hh Q q => ⟨q.1, fun v H1 s1 p1 o1 => ⟨s1.env, fun u H2 s2 p2 o2 => w2 H2 v u _ (read_ok s2.env (p1.ste s2) d1) (read_ok s2.env p2 d2) fun t H3 sm f => ?_⟩⟩
                        obtain ⟨s3, p3, o3⟩ := f.lift s2.env sm
                        have et : t = .bl true := by simpa only [Fr, Rp] using f
                        refine ⟨true, et, ?_⟩
                        rw [if_pos rfl]
                        refine ⟨s3.env, fun t' H4 s4 p4 o4 => w4 H4 u t' _ (read_ok s4.env ((p2.ste s3).ste s4) d2b) (read_ok s4.env p4 d3) fun t'' H5 sm5 f5 => ?_⟩
                        obtain ⟨s5, p5, o5⟩ := f5.lift s4.env sm5
                        exact q.2 _ H5 ((((s1.trans s2).trans s3).trans s4).trans s5) p5 trivial
                      · intro k' hk
                        simp only [readR, Option.some.injEq, D.bl.injEq] at hk
                        subst hk
                        refine pt_sub (pt_chain w1 w3 A1 A2 A3 lm) fun σ Hh Q q => ⟨q.1, fun v H1 s1 p1 o1 => ⟨s1.env, fun u H2 s2 p2 o2 => w2 H2 v u _ (read_ok s2.env (p1.ste s2) d1) (read_ok s2.env p2 d2) fun t H3 sm f => ?_⟩⟩
                        obtain ⟨s3, p3, o3⟩ := f.lift s2.env sm
                        have et : t = .bl true := by simpa only [Fr, Rp] using f
                        refine ⟨true, et, ?_⟩
                        rw [if_pos rfl]
                        refine ⟨s3.env, fun t' H4 s4 p4 o4 => w4 H4 u t' _ (read_ok s4.env ((p2.ste s3).ste s4) d2b) (read_ok s4.env p4 d3) fun t'' H5 sm5 f5 => ?_⟩
                        obtain ⟨s5, p5, o5⟩ := f5.lift s4.env sm5
                        have et2 : t'' = .bl k := by simpa only [Fr, Rp] using f5
                        exact ⟨k, et2, q.2 H5 ((((s1.trans s2).trans s3).trans s4).trans s5)⟩
/-! tests -/
theorem pw_sub {X : Cx} {e : Expr} {t t' : TT} (h : PW X e t) (w : ∀ σ H Q, t' σ H Q → t σ H Q) : PW X e t' := ⟨fun wh pins s σ H Q I q => h.run wh pins s σ H Q I (w σ H Q q)⟩
theorem IHE.anT (H : IHE cx F Ld n) (C : Cxt cx F Ld X sc) {pos : Pos} : ∀ {vs : List Expr} {ir : T} {Γ Γ' : Gm} {k : Bool}, trBoolT .an (trT cx n sc) vs = some ir → evT F Ld ir Γ = some (k, Γ') → PW X (.BoolOp .And vs pos) (rdT X.K Γ k Γ')
  | [], ir, Γ, Γ', k, h, _ => by simp [trBoolT] at h
  | [a], ir, Γ, Γ', k, h, he => by
    simp only [trBoolT] at h
    exact pw_and1 (H.t C h he)
  | a :: b :: vs, ir, Γ, Γ', k, h, he => by
    simp only [trBoolT] at h
    cases h1 : trT cx n sc a with
    | none => rw [h1] at h; simp at h
    | some x =>
      cases h2 : trBoolT .an (trT cx n sc) (b :: vs) with
      | none => rw [h1, h2] at h; simp at h
      | some y =>
        rw [h1, h2] at h
        cases h
        simp only [evT] at he
        split at he
        · cases he
        · next Γ1 e1 =>
          refine pw_sub (pw_and (H.t C h1 e1) (H.anT C h2 he)) fun σ Hh Q q => ⟨q.1, fun H1 s1 => ?_⟩
          dsimp only
          rw [if_pos rfl]
          exact ⟨s1.env, fun H2 s2 => q.2 H2 (s1.trans s2)⟩
        · next Γ1 e1 =>
          cases he
          refine pw_sub (pw_and (tB' := fun _ _ _ => False) (H.t C h1 e1) ⟨fun _ _ _ _ _ _ _ f => f.elim⟩) fun σ Hh Q q => ⟨q.1, fun H1 s1 => ?_⟩
          dsimp only
          rw [if_neg (by decide)]
          exact q.2 H1 s1
theorem IHE.orT (H : IHE cx F Ld n) (C : Cxt cx F Ld X sc) {pos : Pos} : ∀ {vs : List Expr} {ir : T} {Γ Γ' : Gm} {k : Bool}, trBoolT .orr (trT cx n sc) vs = some ir → evT F Ld ir Γ = some (k, Γ') → PW X (.BoolOp .Or vs pos) (rdT X.K Γ k Γ')
  | [], ir, Γ, Γ', k, h, _ => by simp [trBoolT] at h
  | [a], ir, Γ, Γ', k, h, he => by
    simp only [trBoolT] at h
    exact pw_or1 (H.t C h he)
  | a :: b :: vs, ir, Γ, Γ', k, h, he => by
    simp only [trBoolT] at h
    cases h1 : trT cx n sc a with
    | none => rw [h1] at h; simp at h
    | some x =>
      cases h2 : trBoolT .orr (trT cx n sc) (b :: vs) with
      | none => rw [h1, h2] at h; simp at h
      | some y =>
        rw [h1, h2] at h
        cases h
        simp only [evT] at he
        split at he
        · cases he
        · next Γ1 e1 =>
          cases he
          refine pw_sub (pw_or (tB' := fun _ _ _ => False) (H.t C h1 e1) ⟨fun _ _ _ _ _ _ _ f => f.elim⟩) fun σ Hh Q q => ⟨q.1, fun H1 s1 => ?_⟩
          dsimp only
          rw [if_pos rfl]
          exact q.2 H1 s1
        · next Γ1 e1 =>
          refine pw_sub (pw_or (H.t C h1 e1) (H.orT C h2 he)) fun σ Hh Q q => ⟨q.1, fun H1 s1 => ?_⟩
          dsimp only
          rw [if_neg (by decide)]
          exact ⟨s1.env, fun H2 s2 => q.2 H2 (s1.trans s2)⟩
/-- a test's translation, by the sort of the expression -/
theorem IHE.test (H : IHE cx F Ld n) (C : Cxt cx F Ld X sc) {e : Expr} {ir : T} {Γ Γ' : Gm} {k : Bool} (h : trT cx (n + 1) sc e = some ir) (he : evT F Ld ir Γ = some (k, Γ')) : DT X e Γ k Γ' := by
  have dflt : ∀ {e : Expr}, (∀ whole, isTrue e X.env whole = (do let v ← whole; standAt e.pos; holding [v] (truthy v))) → (trE cx n sc e).map T.val = some ir → DT X e Γ k Γ' := by
    intro e hi hh
    cases h1 : trE cx n sc e with
    | none => rw [h1] at hh; cases hh
    | some x =>
      rw [h1] at hh
      cases hh
      simp only [evT] at he
      cases e1 : evE F Ld x Γ with
      | none => rw [e1] at he; cases he
      | some p =>
        obtain ⟨r, Γ1⟩ := p
        rw [e1] at he
        simp only at he
        split at he
        · next hr =>
          cases he
          exact dt_of_bl (H.e C h1 e1) hr hi
        · cases he
  cases e with
  | UnaryOp op a pos =>
    cases op with
    | Not =>
      simp only [trT] at h
      cases h1 : trT cx n sc a with
      | none => rw [h1] at h; cases h
      | some x =>
        rw [h1] at h
        cases h
        simp only [evT] at he
        cases e1 : evT F Ld x Γ with
        | none => rw [e1] at he; cases he
        | some p =>
          obtain ⟨k', Γ1⟩ := p
          rw [e1] at he
          cases he
          exact dt_not (H.t C h1 e1)
    | Invert => simp only [trT] at h; exact dflt (fun _ => rfl) h
    | UAdd => simp only [trT] at h; exact dflt (fun _ => rfl) h
    | USub => simp only [trT] at h; exact dflt (fun _ => rfl) h
  | BoolOp op vs pos =>
    cases op with
    | And =>
      simp only [trT] at h
      exact (H.anT C h he).pt
    | Or =>
      simp only [trT] at h
      exact (H.orT C h he).pt
  | IfExp a b c pos => simp [trT] at h
  | Compare a ops cs pos =>
    simp only [trT] at h
    cases h1 : trE cx n sc (.Compare a ops cs pos) with
    | none => rw [h1] at h; cases h
    | some x =>
      rw [h1] at h
      cases h
      simp only [evT] at he
      cases e1 : evE F Ld x Γ with
      | none => rw [e1] at he; cases he
      | some p =>
        obtain ⟨r, Γ1⟩ := p
        rw [e1] at he
        simp only at he
        split at he
        · next hr =>
          cases he
          exact H.cp C h1 e1 _ hr
        · cases he
  | _ => simp only [trT] at h; exact dflt (fun _ => rfl) h
end
end Sv

namespace Sv
open PySem PySem.Spec PyProof.Rows L2
section
variable {cx : TCx} {F : Nat → Fn} {Ld : Nat → Bool} {X : Cx} {sc : Scope} {n : Nat}
theorem fnIx {f : Str} {i : Nat} {l : List Str} (h : l.findIdx? (· == f) = some i) : l[i]? = some f := by
  rw [List.findIdx?_eq_some_iff_getElem] at h
  obtain ⟨lt, h1, _⟩ := h
  rw [List.getElem?_eq_getElem lt]
  simpa using h1
theorem fnNone {f : Str} {l : List Str} (h : l.findIdx? (· == f) = none) : f ∉ l := by
  rw [List.findIdx?_eq_none_iff] at h
  intro hm
  have := h f hm
  simp at this
theorem IHE.own (H : IHE cx F Ld n) (C : Cxt cx F Ld X sc) {f : Str} {i : Nat} {e : Expr} {es : List Expr} {irs : List E} {Γ Γ' : Gm} {r : Rs} {p pos : Pos} (hg : glob sc f = true) (hd : (f == ("__debug__" : Str)) = false) (hf : cx.fns.findIdx? (· == f) = some i) (ht : trL (trE cx n sc) (e :: es) = some irs)
    (he : evE F Ld (.call i irs) Γ = some (r, Γ')) : DE X (.Call (.Name f p) (e :: es) [] pos) Γ r Γ' := by
  obtain ⟨k, fa, fd, ps, m, FO, hr, hm, hk, hb, hlen, _⟩ := C.fns i f (fnIx hf)
  have od := trL_ordy (fun e ir h => trE_ordy h) ht
  have st : starEach (e :: es) X.env = (false, eval e X.env) :: starEach es X.env := star1 (od e (by simp))
  have sa : (backTo pos (starEach es X.env)).any (·.1) = false := starAll fun x hx => od x (by simp [hx])
  simp only [evE] at he
  cases e1 : evEs F Ld irs Γ with
  | none => rw [e1] at he; cases he
  | some q =>
    obtain ⟨rs, Γ1⟩ := q
    rw [e1] at he
    simp only at he
    have A := H.l C ht e1
    cases hld : Ld i with
    | true =>
      rw [hld] at he
      cases rs with
      | nil => simp [callE] at he
      | cons r0 rs' =>
        cases r0 with
        | val d => simp [callE] at he
        | new d => simp [callE] at he
        | slot j =>
          simp only [callE] at he
          cases h2 : takeRs rs' Γ1 with
          | none => rw [h2] at he; cases he
          | some q =>
            obtain ⟨ds, Γ2⟩ := q
            rw [h2] at he
            simp only at he
            cases h3 : ownAt Γ2 j with
            | none => rw [h3] at he; cases he
            | some d =>
              rw [h3] at he
              simp only at he
              split at he
              · next r' d' h4 =>
                split at he
                · next h5 =>
                  cases he
                  have := hlen _ _ h4
                  exact de_callL FO hr (C.gl hg) hm hk hb (dl_take A h2) h3 (by simpa using this) h4 h5 hd st sa
                · cases he
              · cases he
    | false =>
      rw [hld] at he
      simp only [callE] at he
      cases h2 : takeRs rs Γ1 with
      | none => rw [h2] at he; cases he
      | some q =>
        obtain ⟨ds, Γ2⟩ := q
        rw [h2] at he
        simp only at he
        split at he
        · next r' o h4 =>
          split at he
          · next h5 =>
            cases he
            have := hlen _ _ h4
            exact de_call FO hr (C.gl hg) hm hk hb (dc_take A h2) (by simpa using this) h4 h5 hd st sa
          · cases he
        · cases he
theorem kw_each {pos : Pos} {env : Env} : ∀ {kws : List Keyword} {ks : List Str} {es : List Expr}, kwParts kws = some (ks, es) → (backToKw pos (keywordEach kws env)).filterMap (·.1) = ks ∧ (backToKw pos (keywordEach kws env)).all (·.1.isSome) = true ∧ (backToKw pos (keywordEach kws env)).any (·.1.isNone) = false
  | [], ks, es, h => by
    simp only [kwParts, Option.some.injEq, Prod.mk.injEq] at h
    obtain ⟨rfl, rfl⟩ := h
    exact ⟨rfl, rfl, rfl⟩
  | ⟨some k, e, kp⟩ :: r, ks, es, h => by
    simp only [kwParts, Option.map_eq_some_iff] at h
    obtain ⟨⟨ks', es'⟩, h1, h2⟩ := h
    simp only [Prod.mk.injEq] at h2
    obtain ⟨rfl, rfl⟩ := h2
    obtain ⟨a, b, c⟩ := kw_each (pos := pos) (env := env) h1
    have e1 : backToKw pos (keywordEach (⟨some k, e, kp⟩ :: r) env) = (some k, do let v ← eval e env; standAt pos; pure v) :: backToKw pos (keywordEach r env) := rfl
    rw [e1]
    refine ⟨?_, ?_, ?_⟩
    · rw [List.filterMap_cons, a]
    · rw [List.all_cons, b]; rfl
    · rw [List.any_cons, c]; rfl
  | ⟨none, e, kp⟩ :: r, ks, es, h => by simp [kwParts] at h
theorem IHE.kwArgs (H : IHE cx F Ld n) (C : Cxt cx F Ld X sc) : ∀ {kws : List Keyword} {ks : List Str} {es : List Expr} {irs : List E} {Γ Γ' : Gm} {rs : List Rs}, kwParts kws = some (ks, es) → trL (trE cx n sc) es = some irs → evEs F Ld irs Γ = some (rs, Γ') → PK X kws (rdA X.K Γ rs Γ') ∧ rs.length = ks.length
  | [], ks, es, irs, Γ, Γ', rs, h, ht, he => by
    simp only [kwParts, Option.some.injEq, Prod.mk.injEq] at h
    obtain ⟨rfl, rfl⟩ := h
    simp only [trL, Option.some.injEq] at ht
    subst ht
    simp only [evEs, Option.some.injEq, Prod.mk.injEq] at he
    obtain ⟨rfl, rfl⟩ := he
    exact ⟨dka_nil, rfl⟩
  | ⟨some k, e, kp⟩ :: r, ks, es, irs, Γ, Γ', rs, h, ht, he => by
    simp only [kwParts, Option.map_eq_some_iff] at h
    obtain ⟨⟨ks', es'⟩, h1, h2⟩ := h
    simp only [Prod.mk.injEq] at h2
    obtain ⟨rfl, rfl⟩ := h2
    simp only [trL] at ht
    cases q1 : trE cx n sc e with
    | none => rw [q1] at ht; simp at ht
    | some x =>
      cases q2 : trL (trE cx n sc) es' with
      | none => rw [q1, q2] at ht; simp at ht
      | some xs =>
        rw [q1, q2] at ht
        cases ht
        simp only [evEs] at he
        cases e1 : evE F Ld x Γ with
        | none => rw [e1] at he; cases he
        | some q =>
          obtain ⟨r0, Γ1⟩ := q
          rw [e1] at he
          simp only at he
          cases e2 : evEs F Ld xs Γ1 with
          | none => rw [e2] at he; cases he
          | some q =>
            obtain ⟨rs', Γ2⟩ := q
            rw [e2] at he
            cases he
            obtain ⟨a, b⟩ := IHE.kwArgs H C h1 q2 e2
            exact ⟨dka_cons (H.e C q1 e1) a, by rw [List.length_cons, List.length_cons, b]⟩
  | ⟨none, e, kp⟩ :: r, ks, es, irs, Γ, Γ', rs, h, ht, he => by simp [kwParts] at h
theorem takeRs_len {rs : List Rs} : ∀ {Γ Γ' : Gm} {ds : List D}, takeRs rs Γ = some (ds, Γ') → ds.length = rs.length := by
  induction rs with
  | nil => intro Γ Γ' ds h; simp only [takeRs, Option.some.injEq, Prod.mk.injEq] at h; obtain ⟨rfl, _⟩ := h; rfl
  | cons r rs ih =>
    intro Γ Γ' ds h
    simp only [takeRs] at h
    cases q1 : takeR r Γ with
    | none => rw [q1] at h; cases h
    | some p =>
      obtain ⟨d, Γ1⟩ := p
      rw [q1] at h
      simp only at h
      cases q2 : takeRs rs Γ1 with
      | none => rw [q2] at h; cases h
      | some p =>
        obtain ⟨ds', Γ2⟩ := p
        rw [q2] at h
        cases h
        rw [List.length_cons, List.length_cons, ih q2]
theorem IHE.kw (H : IHE cx F Ld n) (C : Cxt cx F Ld X sc) {f : Str} {kws : List Keyword} {ir : E} {Γ Γ' : Gm} {r : Rs} {p pos : Pos} (h : mkKw cx sc (trE cx n sc) f kws = some ir) (he : evE F Ld ir Γ = some (r, Γ')) : DE X (.Call (.Name f p) [] kws pos) Γ r Γ' := by
  unfold mkKw at h
  split at h
  · cases h
  · next hd =>
    simp only [Bool.or_eq_true, not_or, Bool.not_eq_true, Bool.not_eq_false'] at hd
    split at h
    · next i ks es hf hk =>
      split at h
      · next q xs hq hx =>
        cases h
        have hmem := List.mem_of_find?_eq_some hq
        have hpr := List.find?_some hq
        simp only [Bool.and_eq_true, beq_iff_eq, decide_eq_true_eq] at hpr
        obtain ⟨j, ks0, perm⟩ := q
        obtain ⟨rfl, rfl⟩ := hpr
        obtain ⟨k, fa, fd, ps, m, FO, hr, hm, hkk, hb, hlen, hkw⟩ := C.fns _ f (fnIx hf)
        obtain ⟨kb, pl⟩ := hkw _ _ hmem
        simp only [evE] at he
        cases e1 : evEs F Ld xs Γ with
        | none => rw [e1] at he; cases he
        | some q =>
          obtain ⟨rs, Γ1⟩ := q
          rw [e1] at he
          simp only at he
          split at he
          · cases he
          · cases h2 : takeRs rs Γ1 with
            | none => rw [h2] at he; cases he
            | some q =>
              obtain ⟨ds, Γ2⟩ := q
              rw [h2] at he
              simp only at he
              split at he
              · next r' o h4 =>
                split at he
                · next h5 =>
                  cases he
                  obtain ⟨A, lr⟩ := H.kwArgs C hk hx e1
                  obtain ⟨k1, k2, k3⟩ := kw_each (pos := pos) (env := X.env) hk
                  exact de_callK FO hr (C.gl (by simpa using hd.1)) hm hkk kb (dk_take A h2) (by rw [takeRs_len h2, lr]) pl h4 h5 hd.2 k2 k1 (by rw [k3]; rfl)
                · cases he
              · cases he
      · cases h
    · cases h
theorem biOf_name {x : Str} {b : Bi} (h : biOf x = some b) : b.name = x ∧ x ∈ bltNames ∧ b ≠ .str := by
  unfold biOf at h
  repeat' split at h
  all_goals first
    | (cases h; subst_vars; exact ⟨rfl, by decide, by decide⟩)
    | cases h
theorem tyOf_name {x : Str} {t : Ty} (h : tyOf? x = some t) : t.name = x ∧ x ∈ bltNames := by
  unfold tyOf? at h
  repeat' split at h
  all_goals first
    | (cases h; subst_vars; exact ⟨rfl, by decide⟩)
    | cases h
theorem IHE.bi (H : IHE cx F Ld n) (C : Cxt cx F Ld X sc) {b : Bi} {e : Expr} {es : List Expr} {irs : List E} {Γ Γ' : Gm} {r : Rs} {p pos : Pos} (hg : glob sc b.name = true) (hm : b.name ∈ bltNames) (hf : b.name ∉ cx.fns) (hns : b ≠ .str) (ht : trL (trE cx n sc) (e :: es) = some irs)
    (he : evE F Ld (.bi b irs) Γ = some (r, Γ')) : DE X (.Call (.Name b.name p) (e :: es) [] pos) Γ r Γ' := by
  have od := trL_ordy (fun e ir h => trE_ordy h) ht
  simp only [evE] at he
  cases e1 : evEs F Ld irs Γ with
  | none => rw [e1] at he; cases he
  | some q =>
    obtain ⟨rs, Γ1⟩ := q
    rw [e1] at he
    simp only at he
    cases h2 : readRs rs Γ1 with
    | none => rw [h2] at he; cases he
    | some ds =>
      rw [h2] at he
      simp only at he
      cases h3 : biD b ds with
      | none => rw [h3] at he; cases he
      | some r' =>
        rw [h3] at he
        cases he
        exact de_bi C.calm (C.gl hg) (C.blt _ hm hf) (H.l C ht e1) h2 h3 hns (star1 (od e (by simp))) (starAll fun x hx => od x (by simp [hx]))
theorem IHE.isi (H : IHE cx F Ld n) (C : Cxt cx F Ld X sc) {a t : Expr} {x : E} {ts : List Ty} {Γ Γ' : Gm} {r : Rs} {p pos : Pos} (hg : glob sc "isinstance" = true) (hf : ("isinstance" : Str) ∉ cx.fns) (ha : trE cx n sc a = some x) (ht : trTy sc t = some ts)
    (he : evE F Ld (.isi x ts) Γ = some (r, Γ')) : DE X (.Call (.Name "isinstance" p) [a, t] [] pos) Γ r Γ' := by
  simp only [evE] at he
  cases e1 : evE F Ld x Γ with
  | none => rw [e1] at he; cases he
  | some q =>
    obtain ⟨r1, Γ1⟩ := q
    rw [e1] at he
    simp only at he
    cases h2 : readR r1 Γ1 with
    | none => rw [h2] at he; cases he
    | some d =>
      rw [h2] at he
      simp only at he
      cases h3 : isiD d ts with
      | none => rw [h3] at he; cases he
      | some k =>
        rw [h3] at he
        cases he
        have A := H.e C ha e1
        have oa := trE_ordy ha
        have mi : X.mg "isinstance" = none := C.blt _ (by decide) hf
        unfold trTy at ht
        split at ht
        · next y py =>
          split at ht
          · next hgy =>
            cases hq : tyOf? y with
            | none => rw [hq] at ht; cases ht
            | some u =>
              rw [hq] at ht
              cases ht
              obtain ⟨e2, e3⟩ := tyOf_name hq
              subst e2
              simp only [isiD] at h3
              split at h3
              · next hn =>
                cases h3
                exact de_isi A h2 hn (C.gl hg) mi (C.gl hgy) (C.blt _ e3 (C.bf _ e3)) (star1 oa)
              · cases h3
          · cases ht
        · next y py z pz kk pp =>
          split at ht
          · next hgy =>
            rw [Bool.and_eq_true] at hgy
            cases hq : tyOf? y with
            | none => rw [hq] at ht; simp at ht
            | some u =>
              cases hq2 : tyOf? z with
              | none => rw [hq, hq2] at ht; simp at ht
              | some u2 =>
                rw [hq, hq2] at ht
                cases ht
                obtain ⟨e2, e3⟩ := tyOf_name hq
                obtain ⟨e4, e5⟩ := tyOf_name hq2
                subst e2
                subst e4
                simp only [isiD] at h3
                split at h3
                · next hn =>
                  cases h3
                  exact de_isi2 A h2 hn (C.gl hg) mi (C.gl hgy.1) (C.blt _ e3 (C.bf _ e3)) (C.gl hgy.2) (C.blt _ e5 (C.bf _ e5)) (star1 oa)
                · cases h3
          · cases ht
        · cases ht
theorem IHE.rng (H : IHE cx F Ld n) (C : Cxt cx F Ld X sc) {as : List Expr} {irs : List E} {tg : Expr} {Γ Γ' : Gm} {ds : List D} {p pos : Pos} (hg : glob sc "range" = true) (hf : ("range" : Str) ∉ cx.fns) (ht : trL (trE cx n sc) as = some irs) (h12 : (∃ a, as = [a]) ∨ (∃ a b, as = [a, b]) ∨ ∃ a b c, as = [a, b, c])
    (he : evI F Ld (.rng irs) Γ = some (ds, Γ')) : DI X tg (.Call (.Name "range" p) as [] pos) Γ ds Γ' := by
  have od := trL_ordy (fun e ir h => trE_ordy h) ht
  have mi : X.mg "range" = none := C.blt _ (by decide) hf
  simp only [evI] at he
  cases e1 : evEs F Ld irs Γ with
  | none => rw [e1] at he; cases he
  | some q =>
    obtain ⟨rs, Γ1⟩ := q
    rw [e1] at he
    simp only at he
    cases h2 : readRs rs Γ1 with
    | none => rw [h2] at he; cases he
    | some xs =>
      rw [h2] at he
      simp only at he
      cases h3 : rngD xs with
      | none => rw [h3] at he; cases he
      | some ys =>
        rw [h3] at he
        cases he
        have A := H.l C ht e1
        have hrl : ∀ {rs : List Rs} {xs : List D}, readRs rs Γ' = some xs → xs.length = rs.length := by
          intro rs
          induction rs with
          | nil => intro xs h; simp only [readRs, Option.some.injEq] at h; subst h; rfl
          | cons r rs ih =>
            intro xs h
            simp only [readRs] at h
            cases q1 : readR r Γ' with
            | none => rw [q1] at h; cases h
            | some d =>
              rw [q1] at h
              simp only at h
              cases q2 : readRs rs Γ' with
              | none => rw [q2] at h; cases h
              | some ds =>
                rw [q2] at h
                cases h
                rw [List.length_cons, List.length_cons, ih q2]
        have lx : xs.length = irs.length := by rw [hrl h2, evEs_len e1]
        have li : irs.length = as.length := by
          have key : ∀ {as : List Expr} {irs : List E}, trL (trE cx n sc) as = some irs → irs.length = as.length := by
            intro as
            induction as with
            | nil => intro irs h; simp only [trL, Option.some.injEq] at h; subst h; rfl
            | cons a as ih =>
              intro irs h
              simp only [trL] at h
              cases q1 : trE cx n sc a with
              | none => rw [q1] at h; simp at h
              | some x =>
                cases q2 : trL (trE cx n sc) as with
                | none => rw [q1, q2] at h; simp at h
                | some xs =>
                  rw [q1, q2] at h
                  cases h
                  rw [List.length_cons, List.length_cons, ih q2]
          exact key ht
        rcases h12 with ⟨a, rfl⟩ | ⟨a, b, rfl⟩ | ⟨a, b, c, rfl⟩
        · unfold rngD at h3
          split at h3
          · split at h3
            · next hs =>
              cases h3
              exact di_range1 A h2 hs (C.gl hg) mi (star1 (od a (by simp)))
            · cases h3
          · simp at lx li; omega
          · simp at lx li; omega
          · cases h3
        · unfold rngD at h3
          split at h3
          · simp at lx li; omega
          · split at h3
            · next hs =>
              cases h3
              rw [Bool.and_eq_true] at hs
              exact di_range2 A h2 hs.1 hs.2 (C.gl hg) mi (by rw [star1 (od a (by simp)), star1 (od b (by simp))]; rfl) (star1 (od b (by simp)))
            · cases h3
          · simp at lx li; omega
          · cases h3
        · unfold rngD at h3
          split at h3
          · simp at lx li; omega
          · simp at lx li; omega
          · split at h3
            · next hs =>
              cases h3
              obtain ⟨rfl, q1, q2⟩ := hs
              exact di_down A h2 q1 q2 (C.gl hg) mi (star1 (od a (by simp))) (starAll fun z hz => od z (List.mem_cons_of_mem _ hz))
            · cases h3
          · cases h3
theorem IHE.seq (H : IHE cx F Ld n) (C : Cxt cx F Ld X sc) {it tg : Expr} {x : E} {Γ Γ' : Gm} {ds : List D} (ht : trE cx n sc it = some x) (he : evI F Ld (.seq x) Γ = some (ds, Γ')) : DI X tg it Γ ds Γ' := by
  simp only [evI] at he
  cases e1 : evE F Ld x Γ with
  | none => rw [e1] at he; cases he
  | some q =>
    obtain ⟨r, Γ1⟩ := q
    rw [e1] at he
    simp only at he
    cases h2 : takeR r Γ1 with
    | none => rw [h2] at he; cases he
    | some q =>
      obtain ⟨d, Γ2⟩ := q
      rw [h2] at he
      simp only at he
      have A := de_take (H.e C ht e1) h2
      cases d <;> simp only [seqD, reduceCtorEq] at he
      · cases he; exact di_str A
      · cases he; exact di_tup A
      · cases he; exact di_lst A
theorem IHE.zip (H : IHE cx F Ld n) (C : Cxt cx F Ld X sc) {a b : Expr} {x y : E} {elts : List Expr} {kk : Nat} {tp p pos : Pos} {Γ Γ' : Gm} {ds : List D} (hg : glob sc "zip" = true) (hf : ("zip" : Str) ∉ cx.fns) (ha : trE cx n sc a = some x) (hb : trE cx n sc b = some y)
    (he : evI F Ld (.zip x y) Γ = some (ds, Γ')) : DI X (.Tuple elts kk tp) (.Call (.Name "zip" p) [a, b] [] pos) Γ ds Γ' := by
  simp only [evI] at he
  cases e1 : evE F Ld x Γ with
  | none => rw [e1] at he; cases he
  | some q =>
    obtain ⟨r1, Γ1⟩ := q
    rw [e1] at he
    simp only at he
    cases e2 : evE F Ld y Γ1 with
    | none => rw [e2] at he; cases he
    | some q =>
      obtain ⟨r2, Γ2⟩ := q
      rw [e2] at he
      simp only at he
      split at he
      · next d1 d2 Γ3 h3 =>
        cases h4 : bothSeq d1 d2 with
        | none => rw [h4] at he; cases he
        | some q =>
          obtain ⟨xs, ys⟩ := q
          rw [h4] at he
          cases he
          have A := dc_take (da_cons (H.e C ha e1) (da_cons (H.e C hb e2) da_nil (star1 (trE_ordy hb))) (star1 (trE_ordy ha))) h3
          exact di_zip A h4 (C.gl hg) (C.blt _ (by decide) hf) (star1 (trE_ordy ha)) (starAll fun z hz => by simp at hz; subst hz; exact trE_ordy hb)
      · cases he
theorem IHE.enm (H : IHE cx F Ld n) (C : Cxt cx F Ld X sc) {a : Expr} {x : E} {elts : List Expr} {kk : Nat} {tp p pos : Pos} {Γ Γ' : Gm} {ds : List D} (hg : glob sc "enumerate" = true) (hf : ("enumerate" : Str) ∉ cx.fns) (ha : trE cx n sc a = some x)
    (he : evI F Ld (.enm x) Γ = some (ds, Γ')) : DI X (.Tuple elts kk tp) (.Call (.Name "enumerate" p) [a] [] pos) Γ ds Γ' := by
  simp only [evI] at he
  cases e1 : evE F Ld x Γ with
  | none => rw [e1] at he; cases he
  | some q =>
    obtain ⟨r, Γ1⟩ := q
    rw [e1] at he
    simp only at he
    cases h2 : takeR r Γ1 with
    | none => rw [h2] at he; cases he
    | some q =>
      obtain ⟨d, Γ2⟩ := q
      rw [h2] at he
      simp only at he
      have h3 : takeRs [r] Γ1 = some ([d], Γ2) := by simp only [takeRs, h2]
      have A := dc_take (da_cons (H.e C ha e1) da_nil (star1 (trE_ordy ha))) h3
      cases d <;> simp only [seqT, reduceCtorEq] at he
      · cases he; exact di_enumT A (C.gl hg) (C.blt _ (by decide) hf) (star1 (trE_ordy ha))
      · cases he; exact di_enumL A (C.gl hg) (C.blt _ (by decide) hf) (star1 (trE_ordy ha))
theorem back_cons {e : Expr} {es : List Expr} {env : Env} {pos : Pos} (h : ordy e = true) : backTo pos (starEach (e :: es) env) = (backTo pos [(false, eval e env)]) ++ backTo pos (starEach es env) := by
  rw [star1 h]
  unfold backTo
  rfl
theorem IHE.zps (H : IHE cx F Ld n) (C : Cxt cx F Ld X sc) {a b : Expr} {x y : E} {kws : List Keyword} {elts : List Expr} {kk : Nat} {tp p pos : Pos} {Γ Γ' : Gm} {ds : List D} (hg : glob sc "zip" = true) (hf : ("zip" : Str) ∉ cx.fns) (ha : trE cx n sc a = some x) (hb : trE cx n sc b = some y) (hk : isStrictKw kws = true)
    (he : evI F Ld (.zps x y) Γ = some (ds, Γ')) : DI X (.Tuple elts kk tp) (.Call (.Name "zip" p) [a, b] kws pos) Γ ds Γ' := by
  unfold isStrictKw at hk
  split at hk
  · next k j jp kp =>
    have ek : k = "strict" := of_decide_eq_true hk
    subst ek
    simp only [evI] at he
    cases e1 : evE F Ld x Γ with
    | none => rw [e1] at he; cases he
    | some q =>
      obtain ⟨r1, Γ1⟩ := q
      rw [e1] at he
      simp only at he
      cases e2 : evE F Ld y Γ1 with
      | none => rw [e2] at he; cases he
      | some q =>
        obtain ⟨r2, Γ2⟩ := q
        rw [e2] at he
        simp only at he
        split at he
        · next d1 d2 Γ3 h3 =>
          cases h4 : zipS d1 d2 with
          | none => rw [h4] at he; cases he
          | some q =>
            rw [h4] at he
            cases he
            have A := dc_take (da_cons (H.e C ha e1) (da_cons (H.e C hb e2) da_nil (star1 (trE_ordy hb))) (star1 (trE_ordy ha))) h3
            exact di_zs A h4 (C.gl hg) (C.blt _ (by decide) hf) (pk_cons pe_bl pk_nil) (by rw [star1 (trE_ordy ha), star1 (trE_ordy hb)]; rfl) (starAll fun z hz => by
              simp at hz
              rcases hz with rfl | rfl
              · exact trE_ordy ha
              · exact trE_ordy hb) rfl rfl rfl
        · cases he
  · cases hk
theorem IHE.lrng1 (H : IHE cx F Ld n) (C : Cxt cx F Ld X sc) {Γ Γ' : Gm} {r : Rs} {p p2 p3 pos : Pos} {a : Expr} {x : E} (hg : glob sc "list" = true) (hf : ("list" : Str) ∉ cx.fns) (hg2 : glob sc "range" = true) (hf2 : ("range" : Str) ∉ cx.fns) (ha : trE cx n sc a = some x) (he : evE F Ld (.lrng [x]) Γ = some (r, Γ')) :
    DE X (.Call (.Name "list" p) [.Call (.Name "range" p2) [a] [] p3] [] pos) Γ r Γ' := by
  simp only [evE, evEs] at he
  cases e1 : evE F Ld x Γ with
  | none => rw [e1] at he; cases he
  | some q =>
    obtain ⟨r1, Γ1⟩ := q
    rw [e1] at he
    simp only [readRs] at he
    cases h2 : readR r1 Γ1 with
    | none => rw [h2] at he; cases he
    | some d =>
      rw [h2] at he
      cases d <;> simp only [lrngD, reduceCtorEq] at he
      split at he
      · next h3 =>
        split at h3
        · next h4 =>
          cases h3
          cases he
          exact de_lrng1 C.calm (C.gl hg) (C.blt _ (by decide) hf) (C.gl hg2) (C.blt _ (by decide) hf2) (H.e C ha e1) h2 h4 (star1 (trE_ordy ha)) rfl
        · cases h3
      · cases he
theorem IHE.lrng2 (H : IHE cx F Ld n) (C : Cxt cx F Ld X sc) {Γ Γ' : Gm} {r : Rs} {p p2 p3 pos : Pos} {a b : Expr} {x y : E} (hg : glob sc "list" = true) (hf : ("list" : Str) ∉ cx.fns) (hg2 : glob sc "range" = true) (hf2 : ("range" : Str) ∉ cx.fns) (ha : trE cx n sc a = some x) (hb : trE cx n sc b = some y) (he : evE F Ld (.lrng [x, y]) Γ = some (r, Γ')) :
    DE X (.Call (.Name "list" p) [.Call (.Name "range" p2) [a, b] [] p3] [] pos) Γ r Γ' := by
  simp only [evE, evEs] at he
  cases e1 : evE F Ld x Γ with
  | none => rw [e1] at he; cases he
  | some q =>
    obtain ⟨r1, Γ1⟩ := q
    rw [e1] at he
    simp only at he
    cases e2 : evE F Ld y Γ1 with
    | none => rw [e2] at he; cases he
    | some q =>
      obtain ⟨r2, Γ2⟩ := q
      rw [e2] at he
      simp only [readRs] at he
      cases h2 : readR r1 Γ2 with
      | none => rw [h2] at he; cases he
      | some d =>
        cases h3 : readR r2 Γ2 with
        | none => rw [h2, h3] at he; cases he
        | some d' =>
          rw [h2, h3] at he
          cases d <;> cases d' <;> simp only [lrngD, reduceCtorEq] at he
          split at he
          · next h4 =>
            split at h4
            · next h5 =>
              cases h4
              cases he
              exact de_lrng2 C.calm (C.gl hg) (C.blt _ (by decide) hf) (C.gl hg2) (C.blt _ (by decide) hf2) (H.e C ha e1) (H.e C hb e2) h2 h3 h5 (star1 (trE_ordy ha)) (star1 (trE_ordy hb)) rfl (starAll fun z hz => by simp at hz; subst hz; exact trE_ordy hb)
            · cases h4
          · cases he
end
end Sv

namespace Sv
open PySem PySem.Spec PyProof.Rows L2 HT
theorem rev_pick (xs : List Value) : ((List.range xs.length).filterMap fun (k : Nat) => xs.toArray[(((xs.length : Int) - 1) + (k : Int) * (-1)).toNat]?).toArray = xs.reverse.toArray := by
  congr 1
  have e : ∀ n, n ≤ xs.length → ((List.range n).filterMap fun (k : Nat) => xs.toArray[(((xs.length : Int) - 1) + (k : Int) * (-1)).toNat]?) = xs.reverse.take n := by
    intro n
    induction n with
    | zero => intro _; simp
    | succ n ih =>
      intro hn
      have j : (((xs.length : Int) - 1) + (n : Int) * (-1)).toNat = xs.length - 1 - n := by omega
      have lt : xs.length - 1 - n < xs.length := by omega
      rw [List.range_succ, List.filterMap_append, ih (by omega), List.filterMap_cons, j, List.filterMap_nil]
      rw [List.take_add_one, List.getElem?_reverse (by omega)]
      simp [List.getElem?_eq_getElem lt]
  rw [e _ (Nat.le_refl _), List.take_of_length_le (by simp)]
section
variable {prog : Program} {w : World} {A : Around} {E : Value → Shared → Prop} {s : Shared}
theorem rev_applied {q : Addr} {z : Value} {n : Nat} {Q : Int × Int × Nat → Shared → Prop} (hs : s.heap.IsSliceOf q .none .none z) (pz : IsPart z (some (-1))) (h : Q ((n : Int) - 1, -1, n) s) : wpAny (model prog w) A (Builtin.Slice.sliceApplied (.ref q) (pure (n : Int))) Q E s := by
  obtain ⟨o, ho, _, hd⟩ := id hs
  unfold Builtin.Slice.sliceApplied Builtin.Slice.sliceFields
  refine wpAny_bind (wpAny_bind (wpAny_field ho hd (x := .none) rfl (wpAny_bind (wpAny_field ho hd (x := .none) rfl (wpAny_bind (wpAny_field ho hd (x := z) rfl (wpAny_pure ?_)))))))
  refine wpAny_bind (slicePart_ pz ?_)
  show wpAny _ _ (if ((-1 : Int) == 0) = true then _ else _) _ _ s
  rw [if_neg (by decide)]
  refine wpAny_bind (slicePart_none (wpAny_bind (slicePart_none (wpAny_bind (wpAny_pure ?_)))))
  have e1 : Builtin.Slice.sliceAdjust none none (-1) (n : Int) = ((n : Int) - 1, -1) := by
    simp [Builtin.Slice.sliceAdjust]
  have e2 : Builtin.Slice.slicePlaces ((n : Int) - 1) (-1) (-1) = n := by
    unfold Builtin.Slice.slicePlaces
    simp only [show ¬ ((-1 : Int) > 0) by decide, if_false, show (- (-1 : Int)) = 1 by decide, Int.ediv_one]
    split <;> omega
  show wpAny _ _ (match Builtin.Slice.sliceAdjust none none (-1) (n : Int) with | (lo, hi) => pure (lo, (-1 : Int), Builtin.Slice.slicePlaces lo hi (-1))) _ _ s
  rw [e1]
  show wpAny _ _ (pure ((n : Int) - 1, (-1 : Int), Builtin.Slice.slicePlaces ((n : Int) - 1) (-1) (-1))) _ _ s
  rw [e2]
  exact wpAny_pure h
theorem rev_item {t q : Addr} {xs : List Value} {z : Value} {Q : Value → Shared → Prop} (ht : IsTup s.heap t xs.toArray) (hs : s.heap.IsSliceOf q .none .none z) (pz : IsPart z (some (-1))) (h : Q (.ref s.heap.objs.size) { s with heap := s.heap.push { cls := .type "tuple", data := .seq xs.reverse.toArray } }) (hz : xs.length ≤ sizeLine) :
    wpAny (model prog w) A (getItem (.ref t) (.ref q)) Q E s := by
  have ok : sizeOk (.seq xs.reverse.toArray) := by show xs.reverse.toArray.size ≤ sizeLine; simpa using hz
  obtain ⟨o, ho, hc, _⟩ := id hs
  have tq : s.TypeIs (.ref q) "slice" := ⟨o, ho, hc⟩
  unfold getItem
  try with_reducible refine wpAny_holding ?_
  first | refine wpAny_bind (wpAny_pure ?_) | skip
  refine wpAny_bind (wpAny_sequenceKey ht.typeIs (by decide) (wpAny_bind ?_))
  refine wpAny_callSpecial?_slot (name := Str.ofString "__getitem__") ht.typeIs PyProof.Rows.slot_tuple_getitem (wpAny_call_entry PyProof.Rows.slot_tuple_getitem ht.typeIs entry_tuple_getitem ?_ (args_tuple_getitem _ _))
  show wpAny _ _ (Builtin.Tuple.tupleItemsOf (.ref t) >>= _) _ _ s
  refine wpAny_bind (tupleItemsOf_ ht (wpAny_bind (wpAny_typeOf tq ?_)))
  rw [if_pos (by decide)]
  refine wpAny_bind (rev_applied hs pz ?_)
  show wpAny _ _ (if ((((xs.toArray.size : Nat) : Int) - 1) == 0 && (-1 : Int) == 1 && xs.toArray.size == xs.toArray.size) = true then _ else _) _ _ s
  rw [if_neg (by simp)]
  have e : ((List.range xs.toArray.size).filterMap fun (k : Nat) => xs.toArray[((((xs.toArray.size : Nat) : Int) - 1) + (k : Int) * (-1)).toNat]?).toArray = xs.reverse.toArray := by
    simp only [List.size_toArray]
    exact rev_pick xs
  rw [e]
  first
    | exact wpAny_bind (m := Builtin.Tuple.tupleExact _) (wpAny_newObj_type (wpAny_pure ⟨_, rfl, wpAny_pure h⟩) ok)
    | exact wpAny_bind (m := Builtin.Tuple.tupleExact _) (wpAny_newObj_type (wpAny_bind (wpAny_pure (wpAny_pure ⟨_, rfl, wpAny_pure h⟩))) ok)
    | exact wpAny_bind (wpAny_bind (m := Builtin.Tuple.tupleExact _) (wpAny_newObj_type (wpAny_pure (wpAny_pure ⟨_, rfl, wpAny_pure h⟩)) ok))
    | exact wpAny_bind (wpAny_bind (m := Builtin.Tuple.tupleExact _) (wpAny_newObj_type (wpAny_pure ⟨_, rfl, wpAny_pure h⟩) ok))
end
end Sv
namespace Sv
open PySem PySem.Spec PyProof.Rows L2 HT
def tRevT (K : PySem.W.Frag) (te : TE) : TE := fun σ H Q => te σ H fun x H1 => ∃ a xs, x = .ref a ∧ SqT K H1 a xs ∧ ∀ p, H1 p = none → Q (.ref p) (upd H1 p (.tup xs.reverse))
theorem pe_revT {X : Cx} {e : Expr} {te : TE} {k : Nat} {p1 p2 p3 pos : Pos} (he : PE X e te) : PE X (.Subscript e (.Slice none none (some (.UnaryOp .USub (.Constant (.int 1) k p1) p2)) p3) pos) (tRevT X.K te) := by
  refine ⟨fun pins s σ H Q J h => Subscript_ (thn (he.run pins s σ H _ J h) fun v sa ⟨x, Ha, Ja, ra, qa⟩ => ?_)⟩
  obtain ⟨a, xs, rfl, hx, fin⟩ := qa
  cases ra
  have mi : PO X (some (.UnaryOp .USub (.Constant (.int 1) k p1) p2)) (tPart (tUn (rU fun i => .int (-i)) (tC (.int 1)))) := po_some (pe_un un_neg pe_int)
  refine wpAny_Slice (thn (po_none.run pins sa σ Ha (fun o Hb => o = none ∧ Hb = Ha) Ja ⟨rfl, rfl⟩) fun v1 sb ⟨_, Hb, Jb, g1, rfl, eb⟩ => thn (po_none.run pins sb σ Hb (fun o Hc => o = none ∧ Hc = Hb) Jb ⟨rfl, rfl⟩) fun v2 sc ⟨_, Hc, Jc, g2, rfl, ec⟩ => thn (mi.run pins sc σ Hc (fun o Hd => o = some (-1) ∧ Hd = Hc) Jc ⟨1, rfl, -1, rfl, rfl, rfl⟩) fun v3 sd ⟨o, Hd, Jd, g3, eo, ed⟩ => ?_)
  subst eo ed ec eb
  cases g1; cases g2
  have Je : L2.Inv X pins σ Hd { sd with heap := sd.heap.push { cls := .type "slice", data := .fields #[.none, .none, v3] } } := Jd.kept (t' := sd.toks) fun b ob q => Heap.get?_push_of_some _ q
  obtain ⟨its, r, ht, hz⟩ := Je.tuple hx
  have hn := r.length
  show wpAny (model X.prog X.w) X.A (subscriptTail e (.Slice none none (some (.UnaryOp .USub (.Constant (.int 1) k p1) p2)) p3) (.ref a) (.ref sd.heap.objs.size)) (EP X pins σ Q) X.xe { sd with heap := sd.heap.push { cls := .type "slice", data := .fields #[.none, .none, v3] } }
  refine tail_any (ops := [.ref a, .ref sd.heap.objs.size]) ht.typeIs (PyProof.Rows.slot_tuple_getitem.lookup) ?_ (by with_unfolding_all rfl)
  refine rev_item ht (Heap.IsSliceOf.new _ .none .none v3) g3 ?_ (by omega)
  refine ⟨.ref _, _, Je.laid (t' := sd.toks) (o := .tup xs.reverse) (fun b ob q => Heap.get?_push_of_some _ q) (Nat.le_refl _) ?_, rfl, fin _ (Je.hok.fresh (Nat.le_refl _))⟩
  exact ⟨by simpa using hz, _, r.reverse, IsTup.new _ _⟩
end Sv
namespace Sv
open PySem PySem.Spec PyProof.Rows L2
section
variable {cx : TCx} {F : Nat → Fn} {Ld : Nat → Bool} {X : Cx} {sc : Scope} {n : Nat}
theorem RpL.reverse {K : PySem.W.Frag} {H : Hp} : ∀ {xs : List D} {vs : List V}, RpL K H xs vs → RpL K H xs.reverse vs.reverse
  | [], vs, h => by simp only [RpL] at h; subst h; simp [RpL]
  | x :: xs, vs, h => by
    simp only [RpL] at h
    obtain ⟨v, w, rfl, h1, h2⟩ := h
    rw [List.reverse_cons, List.reverse_cons]
    exact (RpL.reverse h2).snoc h1
theorem de_revT {X : Cx} {Γ Γ1 : Gm} {e : Expr} {r : Rs} {xs : List D} {k : Nat} {p1 p2 p3 pos : Pos} (he : DE X e Γ r Γ1) (hr : readR r Γ1 = some (.tup xs)) : DE X (.Subscript e (.Slice none none (some (.UnaryOp .USub (.Constant (.int 1) k p1) p2)) p3) pos) Γ (.val (.tup xs.reverse)) Γ1 :=
  pe_sub (pe_revT he) fun σ H Q q => ⟨q.1, fun v H1 s1 p1 o1 => by
    obtain ⟨a, vs, rfl, hs, hv⟩ := (read_ok s1.env p1 hr).tup
    refine ⟨a, vs, rfl, hs, fun p hp => ?_⟩
    have f : Fr X.K H1 (.val (.tup xs.reverse)) (.ref p) (upd H1 p (.tup vs.reverse)) := by
      simp only [Fr, Rp]
      exact ⟨p, _, rfl, SqT.of upd_same, RpL.per (Per.of_same (same_new hp)) _ _ hv.reverse⟩
    obtain ⟨s2, p2, o2⟩ := f.lift s1.env (same_new hp)
    exact q.2 _ _ (s1.trans s2) p2 (o2.ste s1)⟩
theorem de_revL {X : Cx} {Γ Γ1 : Gm} {e : Expr} {r : Rs} {xs : List D} {k : Nat} {p1 p2 p3 pos : Pos} (he : DE X e Γ r Γ1) (hr : readR r Γ1 = some (.lst xs)) : DE X (.Subscript e (.Slice none none (some (.UnaryOp .USub (.Constant (.int 1) k p1) p2)) p3) pos) Γ (.new (.lst xs.reverse)) Γ1 :=
  pe_sub (pe_revL he) fun σ H Q q => ⟨q.1, fun v H1 s1 p1 o1 => by
    obtain ⟨a, vs, rfl, hs, hv⟩ := (read_ok s1.env p1 hr).lst
    refine ⟨a, vs, rfl, hs, fun p hp => ?_⟩
    have f : Fr X.K H1 (.new (.lst xs.reverse)) (.ref p) (upd H1 p (.lst vs.reverse)) := ⟨p, rfl, hp, _, upd_same, RpL.per (Per.of_same (same_new hp)) _ _ hv.reverse⟩
    obtain ⟨s2, p2, o2⟩ := f.lift s1.env (same_new hp)
    exact q.2 _ _ (s1.trans s2) p2 (o2.ste s1)⟩
theorem IHE.comp (H : IHE cx F Ld n) (C : Cxt cx F Ld X sc) {elt tg it : Expr} {ifs : List Expr} {csc : Scope} {x : E} {t : Tg} {i : I} {cs : List T} {Γ : Gm} (hk : blkC cx.N sc csc (ownOf cx csc) = true) (hi : mkI cx sc (trE cx n sc) tg it = some i) (hg : trG cx csc n tg = some t) (hc : trTs cx n csc ifs = some cs) (he : trE cx n csc elt = some x)
    (hs : (t.slots.all fun j => ((ownOf cx csc).map (·.2)).contains j) = true) (hl : cs.length ≤ 1) {r : Rs} {Γ' : Gm} (hv : evE F Ld (.comp x t i cs ((ownOf cx csc).map (·.2))) Γ = some (r, Γ')) (hI : ∀ {ds : List D} {Γ1 : Gm}, evI F Ld i Γ = some (ds, Γ1) → DI X tg it Γ ds Γ1) (ot : ordy it = true) :
    ∃ ds Γ1 Γe out, r = .new (.lst out) ∧ Γ' = restore Γ1 Γe ((ownOf cx csc).map (·.2)) ∧ DI X tg it Γ ds Γ1 ∧ BlkOk X.N X.env.scope csc (ownOf cx csc) ∧
      (∀ (s : Shared) (Hh : Hp) (Ca : Addr) (cl : List (Str × Addr)) (fp : List Addr) (d : D) (Γ Γ1 : Gm), bindT t d Γ = some Γ1 → DG (X.blk s Hh csc (compEnvC csc cl Ca X.env) fp) tg t.slots Γ d Γ1) ∧
      (∀ (s : Shared) (Hh : Hp) (Ca : Addr) (cl : List (Str × Addr)) (fp : List Addr) (Γ : Gm) (b : Bool) (Γ1 : Gm), evCs F Ld cs Γ = some (b, Γ1) → PTs (X.blk s Hh csc (compEnvC csc cl Ca X.env) fp) ifs (rdT X.K Γ b Γ1)) ∧
      (∀ (s : Shared) (Hh : Hp) (Ca : Addr) (cl : List (Str × Addr)) (fp : List Addr) (Γ : Gm) (d : D) (Γ1 : Gm), (match evE F Ld x Γ with | none => none | some (r, Γ') => takeR r Γ') = some (d, Γ1) → DE (X.blk s Hh csc (compEnvC csc cl Ca X.env) fp) elt Γ (.val d) Γ1) ∧
      (∀ x, foldedSetIterable it X.env x = pure x) ∧ compL ((ownOf cx csc).map (·.2)) (bindT t) (evCs F Ld cs) (fun Γ => match evE F Ld x Γ with | none => none | some (r, Γ') => takeR r Γ') ds [] (wipeG Γ1 ((ownOf cx csc).map (·.2))) = some (out, Γe) ∧
      (∀ j ∈ (ownOf cx csc).map (·.2), ∀ d, Γ1[j]? ≠ some (.io d)) ∧ (∀ j ∈ t.slots, j ∈ (ownOf cx csc).map (·.2)) := by
  simp only [evE] at hv
  cases e1 : evI F Ld i Γ with
  | none => rw [e1] at hv; cases hv
  | some q =>
    obtain ⟨ds, Γ1⟩ := q
    rw [e1] at hv
    simp only at hv
    split at hv
    · next hn =>
      split at hv
      · cases hv
      · next out Γe hcl =>
        cases hv
        refine ⟨ds, Γ1, Γe, out, rfl, rfl, hI e1, C.blkOk hk, fun s Hh Ca cl fp d Γ Γ1 hb => (sound_G (C.blk s Hh Ca cl fp) n).1 tg t d Γ Γ1 hg hb, fun s Hh Ca cl fp Γ b Γ1 hb => H.ts (C.blk s Hh Ca cl fp) hc hl hb,
          fun s Hh Ca cl fp Γ d Γ1 hb => ?_, foldO ot, hcl, fun j hj d hd => ?_, fun j hj => ?_⟩
        · cases e2 : evE F Ld x Γ with
          | none => rw [e2] at hb; cases hb
          | some q =>
            obtain ⟨r, Γ2⟩ := q
            rw [e2] at hb
            exact de_take (H.e (C.blk s Hh Ca cl fp) he e2) hb
        · unfold notIo at hn
          rw [List.all_eq_true] at hn
          have := hn j hj
          rw [hd] at this
          cases this
        · rw [List.all_eq_true] at hs
          have := hs j hj
          simpa using this
    · cases hv
theorem Cxt.pvar (C : Cxt cx F Ld X sc) {x : Str} {p : Pos} {i : Nat} (h : trName cx sc x = some (.var i)) : PE X (.Name x p) (tVar i) := by
  unfold trName at h
  split at h
  · cases h
  · next hd =>
    simp only [Bool.or_eq_true, not_or, Bool.not_eq_true] at hd
    split at h
    · next hs =>
      cases hi : ixOf cx x with
      | none => rw [hi] at h; cases h
      | some j =>
        rw [hi] at h
        cases h
        exact pe_var (by rw [C.N]; exact ixOf_get hi) (C.vis hs) hd.1 hd.2
    · split at h
      · cases hc : cx.cons.lookup x with
        | none => rw [hc] at h; cases h
        | some d => rw [hc] at h; cases h
      · cases h
theorem IHE.compO (H : IHE cx F Ld n) (C : Cxt cx F Ld X sc) {elt tg it : Expr} {ifs : List Expr} {csc : Scope} {x : E} {t : Tg} {i : Nat} {cs : List T} {Γ : Gm} {pos : Pos} (hk : blkC cx.N sc csc (ownOf cx csc) = true) (hi : borOf cx sc it = some i) (hg : trG cx csc n tg = some t) (hc : trTs cx n csc ifs = some cs) (he : trE cx n csc elt = some x)
    (hs : (t.slots.all fun j => ((ownOf cx csc).map (·.2)).contains j) = true) (hl : cs.length ≤ 1) {r : Rs} {Γ' : Gm} (hv : evE F Ld (.compO x t i cs ((ownOf cx csc).map (·.2))) Γ = some (r, Γ')) :
    DE X (.ListComp elt [⟨tg, it, ifs, 0⟩] csc pos) Γ r Γ' := by
  have hv0 : PE X it (tVar i) ∧ ordy it = true := by
    cases it <;> simp only [borOf, reduceCtorEq] at hi
    split at hi
    · split at hi
      · next j hj => cases hi; exact ⟨C.pvar hj, rfl⟩
      · cases hi
    · cases hi
  simp only [evE] at hv
  split at hv
  · next ds hg0 =>
    split at hv
    · next hn =>
      split at hv
      · cases hv
      · next out Γe hcl =>
        split at hv
        · next hno =>
          cases hv
          have hn2 := hn.2
          unfold notIo at hn2
          rw [List.all_eq_true] at hn2
          refine de_lcO C.calm (by rw [C.N]; exact C.nd) hv0.1 hg0 (fun z => ?_) hno (C.blkOk hk) (fun s Hh Ca cl fp d Γ Γ1 hb => (sound_G (C.blk s Hh Ca cl fp) n).1 tg t d Γ Γ1 hg hb) (fun s Hh Ca cl fp Γ b Γ1 hb => H.ts (C.blk s Hh Ca cl fp) hc hl hb)
            (fun s Hh Ca cl fp Γ d Γ1 hb => ?_) (foldO hv0.2) hcl (fun j hj d hd => ?_) fun j hj => ?_
          · have := hn.1
            rw [List.contains_eq_mem, decide_eq_false_iff_not] at this
            exact this z
          · cases e2 : evE F Ld x Γ with
            | none => rw [e2] at hb; cases hb
            | some q =>
              obtain ⟨r, Γ2⟩ := q
              rw [e2] at hb
              exact de_take (H.e (C.blk s Hh Ca cl fp) he e2) hb
          · have := hn2 j hj
            rw [hd] at this
            cases this
          · rw [List.all_eq_true] at hs
            have := hs j hj
            simpa using this
        · cases hv
    · cases hv
  · cases hv
/-- the iterable of a translated loop is plain -/
theorem mkI_ordy {tg it : Expr} {i : I} (h : mkI cx sc (trE cx n sc) tg it = some i) : ordy it = true := by
  cases it <;> first
    | rfl
    | (simp only [mkI] at h
       simp only [Option.map_eq_some_iff] at h
       obtain ⟨x, h1, _⟩ := h
       exact trE_ordy h1)
theorem and3 {a b c : Bool} (h : (a && b && c) = true) : a = true ∧ b = true ∧ c = true := by
  rw [Bool.and_eq_true, Bool.and_eq_true] at h
  exact ⟨h.1.1, h.1.2, h.2⟩
theorem isRange_of {g : Str} (h : isRange cx sc g = true) : g = "range" ∧ glob sc "range" = true ∧ ("range" : Str) ∉ cx.fns := by
  unfold isRange at h
  obtain ⟨h1, h2, h3⟩ := and3 h
  have e : g = "range" := of_decide_eq_true h1
  subst e
  exact ⟨rfl, h2, by simpa using h3⟩
theorem isZip_of {g : Str} (h : isZip cx sc g = true) : g = "zip" ∧ glob sc "zip" = true ∧ ("zip" : Str) ∉ cx.fns := by
  unfold isZip at h
  obtain ⟨h1, h2, h3⟩ := and3 h
  have e : g = "zip" := of_decide_eq_true h1
  subst e
  exact ⟨rfl, h2, by simpa using h3⟩
theorem isBlt_of {w g : Str} (h : isBlt cx sc w g = true) : g = w ∧ glob sc w = true ∧ w ∉ cx.fns := by
  unfold isBlt at h
  obtain ⟨h1, h2, h3⟩ := and3 h
  have e : g = w := of_decide_eq_true h1
  subst e
  exact ⟨rfl, h2, by simpa using h3⟩
theorem len123_of {as : List Expr} (h : len123 as = true) : (∃ a, as = [a]) ∨ (∃ a b, as = [a, b]) ∨ ∃ a b c, as = [a, b, c] := by
  unfold len123 at h
  split at h
  · exact .inl ⟨_, rfl⟩
  · exact .inr (.inl ⟨_, _, rfl⟩)
  · exact .inr (.inr ⟨_, _, _, rfl⟩)
  · cases h
theorem len12_of {as : List Expr} (h : len12 as = true) : (∃ a, as = [a]) ∨ ∃ a b, as = [a, b] := by
  unfold len12 at h
  split at h
  · exact .inl ⟨_, rfl⟩
  · exact .inr ⟨_, _, rfl⟩
  · cases h
theorem IHE.iter (H : IHE cx F Ld n) (C : Cxt cx F Ld X sc) {tg it : Expr} {i : I} {Γ Γ' : Gm} {ds : List D} (h : mkI cx sc (trE cx n sc) tg it = some i) (he : evI F Ld i Γ = some (ds, Γ')) : DI X tg it Γ ds Γ' := by
  have sq : ∀ {it : Expr}, (trE cx n sc it).map I.seq = some i → DI X tg it Γ ds Γ' := by
    intro it hh
    rw [Option.map_eq_some_iff] at hh
    obtain ⟨x, h1, rfl⟩ := hh
    exact H.seq C h1 he
  unfold mkI at h
  split at h
  · next g pg as pos =>
    split at h
    · next hr =>
      rw [Bool.and_eq_true] at hr
      obtain ⟨rfl, h2, h3⟩ := isRange_of hr.1
      rw [Option.map_eq_some_iff] at h
      obtain ⟨xs, h1, rfl⟩ := h
      exact H.rng C h2 h3 h1 (len123_of hr.2) he
    · split at h
      · next hz =>
        rw [Bool.and_eq_true] at hz
        obtain ⟨rfl, h2, h3⟩ := isZip_of hz.1
        have ht := hz.2
        unfold isTupleE at ht
        split at ht
        · unfold mkZip at h
          split at h
          · split at h
            · next x y h4 h5 =>
              cases h
              exact H.zip C h2 h3 h4 h5 he
            · cases h
          · cases h
        · cases ht
      · split at h
        · next hz =>
          rw [Bool.and_eq_true] at hz
          obtain ⟨rfl, h2, h3⟩ := isBlt_of hz.1
          have ht := hz.2
          unfold isTupleE at ht
          split at ht
          · unfold mkEnm at h
            split at h
            · rw [Option.map_eq_some_iff] at h
              obtain ⟨x, h4, rfl⟩ := h
              exact H.enm C h2 h3 h4 he
            · cases h
          · cases ht
        · exact sq h
  · next g pg as kw kws pos =>
    split at h
    · next hz =>
      rw [Bool.and_eq_true, Bool.and_eq_true] at hz
      obtain ⟨rfl, h2, h3⟩ := isZip_of hz.1.1
      have ht := hz.1.2
      unfold isTupleE at ht
      split at ht
      · unfold mkZps at h
        split at h
        · split at h
          · next x y h4 h5 =>
            cases h
            exact H.zps C h2 h3 h4 h5 hz.2 he
          · cases h
        · cases h
      · cases ht
    · cases h
  · exact sq h
theorem notIo_of {Γ : Gm} {vs : List Nat} (h : notIo Γ vs = true) : ∀ j ∈ vs, ∀ d, Γ[j]? ≠ some (.io d) := by
  intro j hj d hd
  unfold notIo at h
  rw [List.all_eq_true] at h
  have := h j hj
  rw [hd] at this
  cases this
theorem all2_of {l m : List Nat} (h : all2 l m = true) : ∀ j ∈ l, j ∈ m := by
  intro j hj
  unfold all2 at h
  rw [List.all_eq_true] at h
  have := h j hj
  simpa using this
/-- the parts of a block of two clauses -/
theorem IHE.blk2 (H : IHE cx F Ld n) (C : Cxt cx F Ld X sc) {elt tg tg1 it1 : Expr} {ifs ifs1 : List Expr} {csc : Scope} {x : E} {t t1 : Tg} {i1 : I} {cs cs1 : List T} {w : Option (D × Gm) → Option (D × Gm)} (hw : ∀ q p, w q = some p → q = some p)
    (hg : trG cx csc n tg = some t) (hc : trTs cx n csc ifs = some cs) (hi1 : mkI cx csc (trE cx n csc) tg1 it1 = some i1) (hg1 : trG cx csc n tg1 = some t1) (hc1 : trTs cx n csc ifs1 = some cs1) (he : trE cx n csc elt = some x) (hl : cs.length ≤ 1) (hl1 : cs1.length ≤ 1) :
    Blk2 X csc elt tg tg1 it1 ifs ifs1 t.slots t1.slots (bindT t) (bindT t1) (evCs F Ld cs) (evCs F Ld cs1) (fun Γ => match evE F Ld x Γ with | none => none | some (r, Γ') => w (takeR r Γ')) (evI F Ld i1) where
  hg := fun s Hh Ca cl fp d Γ Γ1 hb => (sound_G (C.blk s Hh Ca cl fp) n).1 tg t d Γ Γ1 hg hb
  ht := fun s Hh Ca cl fp Γ b Γ1 hb => H.ts (C.blk s Hh Ca cl fp) hc hl hb
  hi := fun s Hh Ca cl fp Γ ds Γ1 hb => H.iter (C.blk s Hh Ca cl fp) hi1 hb
  hg1 := fun s Hh Ca cl fp d Γ Γ1 hb => (sound_G (C.blk s Hh Ca cl fp) n).1 tg1 t1 d Γ Γ1 hg1 hb
  ht1 := fun s Hh Ca cl fp Γ b Γ1 hb => H.ts (C.blk s Hh Ca cl fp) hc1 hl1 hb
  he := fun s Hh Ca cl fp Γ d Γ1 hb => by
    cases e2 : evE F Ld x Γ with
    | none => rw [e2] at hb; cases hb
    | some q =>
      obtain ⟨r, Γ2⟩ := q
      rw [e2] at hb
      exact de_take (H.e (C.blk s Hh Ca cl fp) he e2) (hw _ _ hb)
theorem strTake_of {q : Option (D × Gm)} {p : D × Gm} (h : strTake q = some p) : q = some p := by
  unfold strTake at h
  split at h
  · exact h
  · cases h
theorem IHE.comp2 (H : IHE cx F Ld n) (C : Cxt cx F Ld X sc) {elt tg it tg1 it1 : Expr} {ifs ifs1 : List Expr} {csc : Scope} {ir x : E} {t t1 : Tg} {i i1 : I} {cs cs1 : List T} {Γ Γ' : Gm} {r : Rs} {pos : Pos} (hk : blkC cx.N sc csc (ownOf cx csc) = true) (hi : mkI cx sc (trE cx n sc) tg it = some i) (hg : trG cx csc n tg = some t) (hc : trTs cx n csc ifs = some cs)
    (hi1 : mkI cx csc (trE cx n csc) tg1 it1 = some i1) (hg1 : trG cx csc n tg1 = some t1) (hc1 : trTs cx n csc ifs1 = some cs1) (he : trE cx n csc elt = some x) (hm : mk2 .comp2 cx csc t i cs t1 i1 cs1 x = some ir) (hv : evE F Ld ir Γ = some (r, Γ')) :
    DE X (.ListComp elt [⟨tg, it, ifs, 0⟩, ⟨tg1, it1, ifs1, 0⟩] csc pos) Γ r Γ' := by
  unfold mk2 at hm
  split at hm
  · next hs =>
    cases hm
    simp only [Bool.and_eq_true, decide_eq_true_eq] at hs
    obtain ⟨⟨⟨s1, s2⟩, s3⟩, s4⟩ := hs
    simp only [evE] at hv
    cases e1 : evI F Ld i Γ with
    | none => rw [e1] at hv; cases hv
    | some q =>
      obtain ⟨ds, Γ1⟩ := q
      rw [e1] at hv
      simp only at hv
      split at hv
      · next hn =>
        split at hv
        · cases hv
        · next out Γe hcl =>
          cases hv
          exact de_lc2 C.calm (by rw [C.N]; exact C.nd) (H.iter C hi e1) (C.blkOk hk) (H.blk2 (w := id) C (fun _ _ h => h) hg hc hi1 hg1 hc1 he s3 s4) (foldO (mkI_ordy hi)) (fun env => foldO (mkI_ordy hi1)) hcl (notIo_of hn) (all2_of s1) (fun _ h => h) (all2_of s2)
      · cases hv
  · cases hm
theorem IHE.srt2 (H : IHE cx F Ld n) (C : Cxt cx F Ld X sc) {elt tg it tg1 it1 : Expr} {ifs ifs1 : List Expr} {csc : Scope} {ir x : E} {t t1 : Tg} {i i1 : I} {cs cs1 : List T} {Γ Γ' : Gm} {r : Rs} {p pos pos' : Pos} (hgl : glob sc "sorted" = true) (hf : ("sorted" : Str) ∉ cx.fns) (hk : blkC cx.N sc csc (ownOf cx csc) = true) (hi : mkI cx sc (trE cx n sc) tg it = some i) (hg : trG cx csc n tg = some t) (hc : trTs cx n csc ifs = some cs)
    (hi1 : mkI cx csc (trE cx n csc) tg1 it1 = some i1) (hg1 : trG cx csc n tg1 = some t1) (hc1 : trTs cx n csc ifs1 = some cs1) (he : trE cx n csc elt = some x) (hm : mk2 .srt2 cx csc t i cs t1 i1 cs1 x = some ir) (hv : evE F Ld ir Γ = some (r, Γ')) :
    DE X (.Call (.Name "sorted" p) [.SetComp elt [⟨tg, it, ifs, 0⟩, ⟨tg1, it1, ifs1, 0⟩] csc pos'] [] pos) Γ r Γ' := by
  unfold mk2 at hm
  split at hm
  · next hs =>
    cases hm
    simp only [Bool.and_eq_true, decide_eq_true_eq] at hs
    obtain ⟨⟨⟨s1, s2⟩, s3⟩, s4⟩ := hs
    simp only [evE] at hv
    cases e1 : evI F Ld i Γ with
    | none => rw [e1] at hv; cases hv
    | some q =>
      obtain ⟨ds, Γ1⟩ := q
      rw [e1] at hv
      simp only at hv
      split at hv
      · next hn =>
        split at hv
        · cases hv
        · next out Γe hcl =>
          split at hv
          · next ho =>
            split at hv
            · cases hv
            · next xs hx =>
              cases hv
              refine de_srtX C.calm (pe_sx2 C.calm (by rw [C.N]; exact C.nd) (H.iter C hi e1) (C.blkOk hk) (H.blk2 (w := strTake) C (fun _ _ h => strTake_of h) hg hc hi1 hg1 hc1 he s3 s4) ho (fun Γ d Γ1 hb => ?_) (foldO (mkI_ordy hi)) (fun env => foldO (mkI_ordy hi1)) hcl (notIo_of hn) (all2_of s1) (fun _ h => h) (all2_of s2)) hx (C.gl hgl) (C.blt _ (by decide) hf) rfl
              cases e2 : evE F Ld x Γ with
              | none => rw [e2] at hb; cases hb
              | some q =>
                rw [e2] at hb
                simp only at hb
                unfold strTake at hb
                split at hb
                · cases hb; exact ⟨_, rfl⟩
                · cases hb
          · cases hv
      · cases hv
  · cases hm
theorem IHE.dcomp (H : IHE cx F Ld n) (C : Cxt cx F Ld X sc) {kx elt tg it : Expr} {ifs : List Expr} {csc : Scope} {ir kk x : E} {t : Tg} {i : I} {cs : List T} {Γ Γ' : Gm} {r : Rs} {pos : Pos} (hk : blkC cx.N sc csc (ownOf cx csc) = true) (hi : mkI cx sc (trE cx n sc) tg it = some i) (hg : trG cx csc n tg = some t) (hc : trTs cx n csc ifs = some cs)
    (hkx : trE cx n csc kx = some kk) (he : trE cx n csc elt = some x) (hm : mkDc cx csc t i cs kk x = some ir) (hv : evE F Ld ir Γ = some (r, Γ')) :
    DE X (.DictComp kx elt [⟨tg, it, ifs, 0⟩] csc pos) Γ r Γ' := by
  unfold mkDc at hm
  split at hm
  · next hs =>
    cases hm
    simp only [Bool.and_eq_true, decide_eq_true_eq] at hs
    simp only [evE] at hv
    cases e1 : evI F Ld i Γ with
    | none => rw [e1] at hv; cases hv
    | some q =>
      obtain ⟨ds, Γ1⟩ := q
      rw [e1] at hv
      simp only at hv
      split at hv
      · next hn =>
        split at hv
        · cases hv
        · next out Γe hcl =>
          cases hv
          have tk : ∀ {y : Expr} {ye : E}, trE cx n csc y = some ye → ∀ (s : Shared) (Hh : Hp) (Ca : Addr) (cl : List (Str × Addr)) (fp : List Addr) (Γ : Gm) (d : D) (Γ1 : Gm), (match evE F Ld ye Γ with | none => none | some (r, Γ') => takeR r Γ') = some (d, Γ1) → DE (X.blk s Hh csc (compEnvC csc cl Ca X.env) fp) y Γ (.val d) Γ1 := by
            intro y ye hy s Hh Ca cl fp Γ d Γ1 hb
            cases e2 : evE F Ld ye Γ with
            | none => rw [e2] at hb; cases hb
            | some q =>
              obtain ⟨r, Γ2⟩ := q
              rw [e2] at hb
              exact de_take (H.e (C.blk s Hh Ca cl fp) hy e2) hb
          exact de_dc C.calm (by rw [C.N]; exact C.nd) (H.iter C hi e1) (C.blkOk hk) (fun s Hh Ca cl fp d Γ Γ1 hb => (sound_G (C.blk s Hh Ca cl fp) n).1 tg t d Γ Γ1 hg hb) (fun s Hh Ca cl fp Γ b Γ1 hb => H.ts (C.blk s Hh Ca cl fp) hc hs.2 hb)
            (tk hkx) (tk he) (foldO (mkI_ordy hi)) hcl (notIo_of hn) (all2_of hs.1)
      · cases hv
  · cases hm
theorem IHE.rpr (H : IHE cx F Ld n) (C : Cxt cx F Ld X sc) {a : Expr} {x : E} {Γ Γ' : Gm} {r : Rs} {p pos : Pos} (hg : glob sc "repr" = true) (hf : ("repr" : Str) ∉ cx.fns) (ha : trE cx n sc a = some x)
    (he : evE F Ld (.rpr x) Γ = some (r, Γ')) : DE X (.Call (.Name "repr" p) [a] [] pos) Γ r Γ' := by
  simp only [evE] at he
  cases e1 : evE F Ld x Γ with
  | none => rw [e1] at he; cases he
  | some q =>
    obtain ⟨r1, Γ1⟩ := q
    rw [e1] at he
    simp only at he
    cases h2 : readR r1 Γ1 with
    | none => rw [h2] at he; cases he
    | some d =>
      rw [h2] at he
      simp only at he
      split at he
      · next ok =>
        cases he
        exact de_rpr C.gd C.hu (C.gl hg) (C.blt _ (by decide) hf) (H.e C ha e1) h2 ok (star1 (trE_ordy ha))
      · cases he
theorem IHE.srt (H : IHE cx F Ld n) (C : Cxt cx F Ld X sc) {a : Expr} {x : E} {Γ Γ' : Gm} {r : Rs} {p pos : Pos} (hg : glob sc "sorted" = true) (hf : ("sorted" : Str) ∉ cx.fns) (ha : trE cx n sc a = some x)
    (he : evE F Ld (.srt x) Γ = some (r, Γ')) : DE X (.Call (.Name "sorted" p) [a] [] pos) Γ r Γ' := by
  simp only [evE] at he
  cases e1 : evE F Ld x Γ with
  | none => rw [e1] at he; cases he
  | some q =>
    obtain ⟨r1, Γ1⟩ := q
    rw [e1] at he
    simp only at he
    cases h2 : readR r1 Γ1 with
    | none => rw [h2] at he; cases he
    | some d =>
      rw [h2] at he
      simp only at he
      cases h3 : sortD d with
      | none => rw [h3] at he; cases he
      | some out =>
        rw [h3] at he
        cases he
        exact de_srt C.calm (C.gl hg) (C.blt _ (by decide) hf) (H.e C ha e1) h2 h3 (star1 (trE_ordy ha))
theorem IHE.maxd (H : IHE cx F Ld n) (C : Cxt cx F Ld X sc) {a b : Expr} {x y : E} {Γ Γ' : Gm} {r : Rs} {p kp pos : Pos} (hg : glob sc "max" = true) (hf : ("max" : Str) ∉ cx.fns) (ha : trE cx n sc a = some x) (hb : trE cx n sc b = some y)
    (he : evE F Ld (.maxd x y) Γ = some (r, Γ')) : DE X (.Call (.Name "max" p) [a] [⟨some "default", b, kp⟩] pos) Γ r Γ' := by
  simp only [evE] at he
  cases e1 : evE F Ld x Γ with
  | none => rw [e1] at he; cases he
  | some q =>
    obtain ⟨r1, Γ1⟩ := q
    rw [e1] at he
    simp only at he
    cases e2 : evE F Ld y Γ1 with
    | none => rw [e2] at he; cases he
    | some q =>
      obtain ⟨r2, Γ2⟩ := q
      rw [e2] at he
      simp only at he
      cases e3 : takeR r2 Γ2 with
      | none => rw [e3] at he; cases he
      | some q =>
        obtain ⟨d3, Γ3⟩ := q
        rw [e3] at he
        simp only at he
        split at he
        · next xs hr =>
          cases hi : intsOf xs with
          | none => rw [hi] at he; cases he
          | some ns =>
            rw [hi] at he
            cases he
            exact de_maxD C.calm (C.gl hg) (C.blt _ (by decide) hf) (H.e C ha e1) (de_take (H.e C hb e2) e3) hr hi (star1 (trE_ordy ha))
        · cases he
theorem IHE.get2 (H : IHE cx F Ld n) (C : Cxt cx F Ld X sc) {o a b : Expr} {x y z : E} {Γ Γ' : Gm} {r : Rs} {ap cp : Pos} (ho : trE cx n sc o = some x) (ha : trE cx n sc a = some y) (hb : trE cx n sc b = some z) (hline : (ap.endLine == cp.line) = true) (hbase : attributeBase o "get" X.env (eval o X.env) = eval o X.env)
    (he : evE F Ld (.get2 x y z) Γ = some (r, Γ')) : DE X (.Call (.Attribute o "get" ap) [a, b] [] cp) Γ r Γ' := by
  simp only [evE] at he
  cases e1 : evE F Ld x Γ with
  | none => rw [e1] at he; cases he
  | some q =>
    obtain ⟨r1, Γ1⟩ := q
    rw [e1] at he
    simp only at he
    split at he
    · next hd =>
      cases e2 : evE F Ld y Γ1 with
      | none => rw [e2] at he; cases he
      | some q =>
        obtain ⟨r2, Γ2⟩ := q
        rw [e2] at he
        simp only at he
        cases e3 : evE F Ld z Γ2 with
        | none => rw [e3] at he; cases he
        | some q =>
          obtain ⟨r3, Γ3⟩ := q
          rw [e3] at he
          simp only at he
          cases e4 : takeR r3 Γ3 with
          | none => rw [e4] at he; cases he
          | some q =>
            obtain ⟨d3, Γ4⟩ := q
            rw [e4] at he
            simp only at he
            split at he
            · next d1 d2 h1 h2 =>
              split at he
              · next d h3 =>
                cases he
                unfold isDK at hd
                split at hd
                · next kv hr =>
                  have oa := trE_ordy ha
                  have ob := trE_ordy hb
                  exact de_get2 C.hu (H.e C ho e1) hr (H.e C ha e2) (de_take (H.e C hb e3) e4) h1 h2 h3 ⟨hbase, by rw [star1 oa, star1 ob]; rfl, hline, by rw [star1 oa, star1 ob]; rfl⟩
                · cases hd
              · cases he
            · cases he
    · cases he
theorem IHE.disp (H : IHE cx F Ld n) (C : Cxt cx F Ld X sc) {es : List Expr} {irs : List E} {Γ Γ' : Gm} {r : Rs} {k : Nat} {pos : Pos} (ht : trL (trE cx n sc) es = some irs) :
    (evE F Ld (.tup irs) Γ = some (r, Γ') → DE X (.Tuple es k pos) Γ r Γ') ∧ (evE F Ld (.lst irs) Γ = some (r, Γ') → DE X (.List es pos) Γ r Γ') := by
  constructor
  · intro he
    simp only [evE] at he
    cases e1 : evEs F Ld irs Γ with
    | none => rw [e1] at he; cases he
    | some q =>
      obtain ⟨rs, Γ1⟩ := q
      rw [e1] at he
      simp only at he
      cases h2 : takeRs rs Γ1 with
      | none => rw [h2] at he; cases he
      | some q =>
        obtain ⟨ds, Γ2⟩ := q
        rw [h2] at he
        simp only at he
        split at he
        · next hl =>
          cases he
          exact de_tup (dc_take (H.l C ht e1) h2) (lim_size hl)
        · cases he
  · intro he
    simp only [evE] at he
    cases e1 : evEs F Ld irs Γ with
    | none => rw [e1] at he; cases he
    | some q =>
      obtain ⟨rs, Γ1⟩ := q
      rw [e1] at he
      simp only at he
      cases h2 : takeRs rs Γ1 with
      | none => rw [h2] at he; cases he
      | some q =>
        obtain ⟨ds, Γ2⟩ := q
        rw [h2] at he
        simp only at he
        split at he
        · next hl =>
          cases he
          exact de_lst (dc_take (H.l C ht e1) h2) (lim_size hl)
        · cases he
theorem IHE.ite (H : IHE cx F Ld n) (C : Cxt cx F Ld X sc) {c a b : Expr} {x : T} {y z : E} {Γ Γ' : Gm} {r : Rs} {pos : Pos} (hc : trT cx n sc c = some x) (ha : trE cx n sc a = some y) (hb : trE cx n sc b = some z) (he : evE F Ld (.ite x y z) Γ = some (r, Γ')) : DE X (.IfExp c a b pos) Γ r Γ' := by
  simp only [evE] at he
  split at he
  · cases he
  · next Γ1 e1 => exact de_if (H.t C hc e1) (fun _ => H.e C ha he) (fun h => by cases h)
  · next Γ1 e1 => exact de_if (H.t C hc e1) (fun h => by cases h) (fun _ => H.e C hb he)
theorem IHE.ix (H : IHE cx F Ld n) (C : Cxt cx F Ld X sc) {a b : Expr} {x y : E} {Γ Γ' : Gm} {r : Rs} {pos : Pos} (ha : trE cx n sc a = some x) (hb : trE cx n sc b = some y) (he : evE F Ld (.ix x y) Γ = some (r, Γ')) : DE X (.Subscript a b pos) Γ r Γ' := by
  simp only [evE] at he
  cases e1 : evE F Ld x Γ with
  | none => rw [e1] at he; cases he
  | some p =>
    obtain ⟨r1, Γ1⟩ := p
    rw [e1] at he
    simp only at he
    cases e2 : evE F Ld y Γ1 with
    | none => rw [e2] at he; cases he
    | some p =>
      obtain ⟨r2, Γ2⟩ := p
      rw [e2] at he
      simp only at he
      split at he
      · next d1 d2 h1 h2 =>
        split at he
        · next d h3 =>
          cases he
          obtain ⟨o, w1, w2⟩ := ix_ok (X := X) C.hu h3
          exact de_ix w1 (H.e C ha e1) (H.e C hb e2) (plainO (trE_ordy hb)) h1 h2 w2
        · cases he
      · cases he
theorem IHE.o (H : IHE cx F Ld n) (C : Cxt cx F Ld X sc) {e : Option Expr} {x : Option E} {Γ Γ' : Gm} {l : Option Int} (ht : trO (trE cx n sc) e = some x) (he : evO F Ld x Γ = some (l, Γ')) : DO X e Γ l Γ' := by
  cases e with
  | none =>
    simp only [trO, Option.some.injEq] at ht
    subst ht
    simp only [evO, Option.some.injEq, Prod.mk.injEq] at he
    obtain ⟨rfl, rfl⟩ := he
    exact do_none
  | some e =>
    simp only [trO] at ht
    cases h1 : trE cx n sc e with
    | none => rw [h1] at ht; cases ht
    | some y =>
      rw [h1] at ht
      cases ht
      simp only [evO] at he
      cases e1 : evE F Ld y Γ with
      | none => rw [e1] at he; cases he
      | some p =>
        obtain ⟨r1, Γ1⟩ := p
        rw [e1] at he
        simp only at he
        split at he
        · next hr =>
          cases he
          exact do_some (H.e C h1 e1) hr
        · cases he
theorem IHE.sl (H : IHE cx F Ld n) (C : Cxt cx F Ld X sc) {a : Expr} {lo hi : Option Expr} {x : E} {y z : Option E} {Γ Γ' : Gm} {r : Rs} {pos p2 : Pos} (ha : trE cx n sc a = some x) (hlo : trO (trE cx n sc) lo = some y) (hhi : trO (trE cx n sc) hi = some z) (he : evE F Ld (.sl x y z) Γ = some (r, Γ')) : DE X (.Subscript a (.Slice lo hi none p2) pos) Γ r Γ' := by
  simp only [evE] at he
  cases e1 : evE F Ld x Γ with
  | none => rw [e1] at he; cases he
  | some p =>
    obtain ⟨r1, Γ1⟩ := p
    rw [e1] at he
    simp only at he
    cases e2 : evO F Ld y Γ1 with
    | none => rw [e2] at he; cases he
    | some p =>
      obtain ⟨l, Γ2⟩ := p
      rw [e2] at he
      simp only at he
      cases e3 : evO F Ld z Γ2 with
      | none => rw [e3] at he; cases he
      | some p =>
        obtain ⟨u, Γ3⟩ := p
        rw [e3] at he
        simp only at he
        split at he
        · next d1 h1 =>
          split at he
          · next r' h2 =>
            cases he
            obtain ⟨o, w1, w2⟩ := sl_ok (X := X) h2
            exact de_slice w1 (H.e C ha e1) (H.o C hlo e2) (H.o C hhi e3) h1 w2
          · cases he
        · cases he
theorem IHE.app (H : IHE cx F Ld n) (C : Cxt cx F Ld X sc) {o a : Expr} {x y : E} {Γ Γ' : Gm} {r : Rs} {ap cp : Pos} (ho : trE cx n sc o = some x) (ha : trE cx n sc a = some y) (hl : (ap.endLine == cp.line) = true) (he : evE F Ld (.app x y) Γ = some (r, Γ')) (hb : attributeBase o "append" X.env (eval o X.env) = eval o X.env) :
    DE X (.Call (.Attribute o "append" ap) [a] [] cp) Γ r Γ' := by
  simp only [evE] at he
  split at he
  · next i Γ1 e1 =>
    split at he
    · next ys h1 =>
      cases e2 : evE F Ld y Γ1 with
      | none => rw [e2] at he; cases he
      | some p =>
        obtain ⟨r2, Γ2⟩ := p
        rw [e2] at he
        simp only at he
        cases h2 : takeR r2 Γ2 with
        | none => rw [h2] at he; cases he
        | some p =>
          obtain ⟨d, Γ3⟩ := p
          rw [h2] at he
          simp only at he
          split at he
          · next xs h3 =>
            split at he
            · next h4 =>
              cases he
              have A : DC X [a] Γ1 [d] Γ3 := dc_take (da_cons (H.e C ha e2) da_nil (star1 (trE_ordy ha))) (by simp only [takeRs]; rw [h2])
              exact de_append (H.e C ho e1) A h3 h4 hb (star1 (trE_ordy ha)) hl (by rw [h1]; exact fun z => by cases z) (fun zs hz => by rw [h1] at hz; cases hz; exact ⟨ys, rfl⟩)
            · cases he
          · cases he
    · cases he
  · next ys Γ1 e1 =>
    cases e2 : evE F Ld y Γ1 with
    | none => rw [e2] at he; cases he
    | some p =>
      obtain ⟨r2, Γ2⟩ := p
      rw [e2] at he
      simp only at he
      cases h2 : takeR r2 Γ2 with
      | none => rw [h2] at he; cases he
      | some p =>
        obtain ⟨d, Γ3⟩ := p
        rw [h2] at he
        simp only at he
        split at he
        · next h4 =>
          cases he
          have A : DC X [a] Γ1 [d] Γ' := dc_take (da_cons (H.e C ha e2) da_nil (star1 (trE_ordy ha))) (by simp only [takeRs]; rw [h2])
          exact de_appendN (H.e C ho e1) A h4 hb (star1 (trE_ordy ha)) hl
        · cases he
  · cases he
theorem IHE.jn (H : IHE cx F Ld n) (C : Cxt cx F Ld X sc) {o a : Expr} {x y : E} {Γ Γ' : Gm} {r : Rs} {ap cp : Pos} (ho : trE cx n sc o = some x) (ha : trE cx n sc a = some y) (hl : (ap.endLine == cp.line) = true) (he : evE F Ld (.jn x y) Γ = some (r, Γ')) (hb : attributeBase o "join" X.env (eval o X.env) = eval o X.env) :
    DE X (.Call (.Attribute o "join" ap) [a] [] cp) Γ r Γ' := by
  simp only [evE] at he
  split at he
  · next z Γ1 e1 =>
    cases e2 : evE F Ld y Γ1 with
    | none => rw [e2] at he; cases he
    | some p =>
      obtain ⟨r2, Γ2⟩ := p
      rw [e2] at he
      simp only at he
      split at he
      · next d2 h2 =>
        split at he
        · next w h3 =>
          cases he
          exact de_join (H.e C ho e1) (H.e C ha e2) h2 h3 (star1 (trE_ordy ha)) hb hl
        · cases he
      · cases he
  · cases he
end
end Sv

namespace Sv
open PySem PySem.Spec PyProof.Rows L2
section
variable {cx : TCx} {F : Nat → Fn} {Ld : Nat → Bool}
theorem trL_ne {f : Expr → Option E} {a : Expr} {as : List Expr} {irs : List E} (h : trL f (a :: as) = some irs) : ∃ x xs, f a = some x ∧ trL f as = some xs ∧ irs = x :: xs := by
  simp only [trL] at h
  split at h
  · next x xs h1 h2 => cases h; exact ⟨x, xs, h1, h2, rfl⟩
  · cases h
theorem IHE.call {X : Cx} {sc : Scope} {n : Nat} (H : IHE cx F Ld n) (C : Cxt cx F Ld X sc) {f : Str} {args : List Expr} {ir : E} {Γ Γ' : Gm} {r : Rs} {p pos : Pos} (h : mkCall cx sc (trE cx n sc) f args = some ir) (he : evE F Ld ir Γ = some (r, Γ')) : DE X (.Call (.Name f p) args [] pos) Γ r Γ' := by
  unfold mkCall at h
  split at h
  · cases h
  · next hc =>
    simp only [Bool.or_eq_true, not_or, Bool.not_eq_true, Bool.not_eq_true', Bool.not_eq_false] at hc
    obtain ⟨⟨hg, hd⟩, hne⟩ := hc
    cases args with
    | nil => cases hne
    | cons e es =>
      split at h
      · next i hi =>
        rw [Option.map_eq_some_iff] at h
        obtain ⟨irs, h1, rfl⟩ := h
        exact H.own C hg hd hi h1 he
      · next hi =>
        unfold mkBi at h
        split at h
        · next hf =>
          subst hf
          cases es with
          | nil => simp [mkIsi] at h
          | cons t ts =>
            cases ts with
            | cons => simp [mkIsi] at h
            | nil =>
              simp only [mkIsi] at h
              split at h
              · next x tys h1 h2 =>
                cases h
                exact H.isi C hg (C.bf _ (by decide)) h1 h2 he
              · cases h
        · split at h
          · next hf =>
            subst hf
            cases es with
            | cons => simp [mk1] at h
            | nil =>
              simp only [mk1, Option.map_eq_some_iff] at h
              obtain ⟨x, h1, rfl⟩ := h
              exact H.rpr C hg (C.bf _ (by decide)) h1 he
          split at h
          · next hf =>
            subst hf
            cases es with
            | cons => simp [mk1] at h
            | nil =>
              simp only [mk1, Option.map_eq_some_iff] at h
              obtain ⟨x, h1, rfl⟩ := h
              exact H.srt C hg (C.bf _ (by decide)) h1 he
          split at h
          · cases h
          · next b hb =>
            obtain ⟨e1, e2, e3⟩ := biOf_name hb
            subst e1
            split at h
            · next as has =>
              split at has
              · next hl =>
                unfold rangeArg at has
                split at has
                · next g pg as' pos' hx =>
                  cases hx
                  split at has
                  · next hr =>
                    cases has
                    rw [Bool.and_eq_true] at hr
                    obtain ⟨rfl, h2, h3⟩ := isRange_of hr.1
                    rw [Option.map_eq_some_iff] at h
                    obtain ⟨irs, h1, rfl⟩ := h
                    rw [hl] at hg ⊢
                    have hfl : ("list" : Str) ∉ cx.fns := C.bf _ (by decide)
                    rcases len12_of hr.2 with ⟨a, rfl⟩ | ⟨a, b', rfl⟩
                    · obtain ⟨x, xs, q1, q2, rfl⟩ := trL_ne h1
                      simp only [trL, Option.some.injEq] at q2
                      subst q2
                      exact H.lrng1 C hg hfl h2 h3 q1 he
                    · obtain ⟨x, xs, q1, q2, rfl⟩ := trL_ne h1
                      obtain ⟨y, ys, q3, q4, rfl⟩ := trL_ne q2
                      simp only [trL, Option.some.injEq] at q4
                      subst q4
                      exact H.lrng2 C hg hfl h2 h3 q1 q3 he
                  · cases has
                · cases has
              · cases has
            · rw [Option.map_eq_some_iff] at h
              obtain ⟨irs, h1, rfl⟩ := h
              exact H.bi C hg e2 (C.bf _ e2) e3 h1 he
theorem attrBase {o : Expr} {m : Str} {env : Env} {n : Nat} {sc : Scope} {x : E} (h : trE cx n sc o = some x) : attributeBase o m env (eval o env) = eval o env := by
  cases o with
  | Call f args kws pos =>
    cases f with
    | Name id p =>
      cases args with
      | nil =>
        cases n with
        | zero => simp [trE] at h
        | succ n =>
          cases kws with
          | nil => simp [trE, mkCall] at h
          | cons => rfl
      | cons => rfl
    | _ => rfl
  | _ => rfl
theorem sound_E : ∀ n : Nat, IHE cx F Ld n := by
  intro n
  induction n with
  | zero => exact ⟨fun _ h _ => by simp [trE] at h, fun _ h _ => by simp [trE] at h, fun _ h _ => by simp [trT] at h, fun _ h _ _ => by simp [trTs] at h⟩
  | succ n H =>
    have cmpc : ∀ {X : Cx} {sc : Scope} {a : Expr} {ops : List CmpOp} {cs : List Expr} {pos : Pos} {ir : E} {Γ Γ' : Gm} {r : Rs}, Cxt cx F Ld X sc → trE cx (n + 1) sc (.Compare a ops cs pos) = some ir → evE F Ld ir Γ = some (r, Γ') → DE X (.Compare a ops cs pos) Γ r Γ' ∧ ∀ k, readR r Γ' = some (.bl k) → DT X (.Compare a ops cs pos) Γ k Γ' := by
      intro X sc a ops cs pos ir Γ Γ' r C h he
      cases ops with
      | nil => simp [trE] at h
      | cons op ops =>
        cases cs with
        | nil => cases ops <;> simp [trE] at h
        | cons b cs =>
          cases ops with
          | nil =>
            cases cs with
            | cons => simp [trE] at h
            | nil =>
              simp only [trE] at h
              split at h
              · next x y h1 h2 =>
                cases h
                exact H.cmp C h1 h2 he
              · cases h
          | cons op' ops =>
            cases cs with
            | nil => cases ops <;> simp [trE] at h
            | cons c cs =>
              cases ops with
              | cons => simp [trE] at h
              | nil =>
                cases cs with
                | cons => simp [trE] at h
                | nil =>
                  simp only [trE] at h
                  split at h
                  · next x y z h1 h2 h3 =>
                    cases h
                    exact H.chn C h1 h2 h3 he
                  · cases h
    refine ⟨fun {X sc e ir Γ Γ' r} C h he => ?_, fun C h he => (cmpc C h he).2, fun {X sc e ir Γ Γ' k} C h he => ?_, fun {X sc es irs Γ Γ' k} C h hl he => ?_⟩
    · unfold trE at h
      split at h
      · cases h; simp only [evE] at he; cases he; exact de_c pe_non fun K H => by simp only [Rp]
      · cases h; simp only [evE] at he; cases he; exact de_c pe_bl fun K H => by simp only [Rp]
      · cases h; simp only [evE] at he; cases he; exact de_c pe_int fun K H => by simp only [Rp]
      · split at h
        · next ok => cases h; simp only [evE] at he; cases he; exact de_c pe_str fun K H => by simp only [Rp, true_and]; exact strOkL_ok ok
        · cases h
      · exact C.name h he
      · rw [Option.map_eq_some_iff] at h
        obtain ⟨irs, h1, rfl⟩ := h
        exact (H.disp C h1).1 he
      · rw [Option.map_eq_some_iff] at h
        obtain ⟨irs, h1, rfl⟩ := h
        exact (H.disp (k := 0) C h1).2 he
      · split at h
        · next o x y h1 h2 h3 => cases h; exact H.bin C h1 h2 h3 he
        · cases h
      · rw [Option.map_eq_some_iff] at h
        obtain ⟨x, h1, rfl⟩ := h
        simp only [evE] at he
        split at he
        · cases he
        · next r1 Γ1 e1 =>
          split at he
          · next d1 h2 =>
            split at he
            · next d h3 =>
              cases he
              cases d1 <;> simp only [negD, reduceCtorEq] at h3
              cases h3
              exact de_un un_neg (H.e C h1 e1) h2 fun Hh v Q q k => ⟨_, q.int, k _ Hh (same_refl Hh) (by simp only [Fr, Rp])⟩
            · cases he
          · cases he
      · rw [Option.map_eq_some_iff] at h
        obtain ⟨x, h1, rfl⟩ := h
        simp only [evE] at he
        split at he
        · cases he
        · next r1 Γ1 e1 =>
          split at he
          · next k h2 =>
            cases he
            exact de_not (H.e C h1 e1) h2
          · cases he
      · exact H.an C h he
      · exact H.orr C h he
      · split at h
        · next x y h1 h2 => cases h; exact (H.cmp C h1 h2 he).1
        · cases h
      · split at h
        · next x y z h1 h2 h3 => cases h; exact (H.chn C h1 h2 h3 he).1
        · cases h
      · split at h
        · next x y z h1 h2 h3 => cases h; exact H.ite C h1 h2 h3 he
        · cases h
      · split at h
        · next x y z h1 h2 h3 => cases h; exact H.sl C h1 h2 h3 he
        · cases h
      · split at h
        · next hi =>
          subst hi
          rw [Option.map_eq_some_iff] at h
          obtain ⟨x, h1, rfl⟩ := h
          simp only [evE] at he
          split at he
          · cases he
          · next r1 Γ1 e1 =>
            split at he
            · next d1 h2 =>
              split at he
              · next r' h3 =>
                cases he
                cases d1 <;> simp only [revD, reduceCtorEq] at h3
                · cases h3; exact de_revT (H.e C h1 e1) h2
                · cases h3; exact de_revL (H.e C h1 e1) h2
              · cases he
            · cases he
        · cases h
      · split at h
        · next x y h1 h2 => cases h; exact H.ix C h1 h2 he
        · cases h
      · split at h
        · next hk =>
          obtain ⟨q1, rfl, rfl, hk⟩ := hk
          obtain ⟨rfl, h2, h3⟩ := isBlt_of q1
          split at h
          · next i t cs i1 t1 cs1 x g1 g2 g3 g4 g5 g6 g7 => exact H.srt2 C h2 h3 hk g1 g2 g3 g4 g5 g6 g7 h he
          · cases h
        · cases h
      · exact H.call C h he
      · split at h
        · next hl =>
          unfold mkGet at h
          split at h
          · next x y z h1 h2 h3 =>
            split at h
            · next hm =>
              subst hm
              cases h
              exact H.get2 C h1 h2 h3 hl (attrBase h1) he
            · cases h
          · cases h
        · cases h
      · cases h; simp only [evE] at he; cases he; exact de_dnew
      · exact H.kw C h he
      · split at h
        · next hk =>
          obtain ⟨q1, rfl⟩ := hk
          obtain ⟨rfl, h2, h3⟩ := isBlt_of q1
          split at h
          · next x y g1 g2 => cases h; exact H.maxd C h2 h3 g1 g2 he
          · cases h
        · cases h
      · split at h
        · next hk =>
          obtain ⟨rfl, hk⟩ := hk
          split at h
          · next i t cs k x g1 g2 g3 g4 g5 => exact H.dcomp C hk g1 g2 g3 g4 g5 h he
          · cases h
        · cases h
      · split at h
        · next hk =>
          obtain ⟨rfl, rfl, hk⟩ := hk
          split at h
          · next i t cs i1 t1 cs1 x g1 g2 g3 g4 g5 g6 g7 => exact H.comp2 C hk g1 g2 g3 g4 g5 g6 g7 h he
          · cases h
        · cases h
      · split at h
        · next hl =>
          unfold mkMeth at h
          split at h
          · next x y h1 h2 =>
            split at h
            · next hm =>
              subst hm
              cases h
              exact H.app C h1 h2 hl he (attrBase h1)
            · split at h
              · next hm =>
                subst hm
                cases h
                exact H.jn C h1 h2 hl he (attrBase h1)
              · cases h
          · cases h
        · cases h
      · split at h
        · next hk =>
          obtain ⟨rfl, hk⟩ := hk
          split at h
          · next i hbo =>
            split at h
            · next t cs x h2 h3 h4 =>
              unfold mkCompO at h
              split at h
              · next hs =>
                cases h
                rw [Bool.and_eq_true, decide_eq_true_eq] at hs
                exact H.compO C hk hbo h2 h3 h4 hs.1 hs.2 he
              · cases h
            · cases h
          split at h
          · next i t cs x h1 h2 h3 h4 =>
            unfold mkComp at h
            split at h
            · next hs =>
              cases h
              rw [Bool.and_eq_true, decide_eq_true_eq] at hs
              obtain ⟨ds, Γ1, Γe, out, rfl, rfl, q1, q2, q3, q4, q5, q6, q7, q8, q9⟩ := H.comp C hk h1 h2 h3 h4 hs.1 hs.2 he (fun e => H.iter C h1 e) (mkI_ordy h1)
              exact de_lc C.calm (by rw [C.N]; exact C.nd) q1 q2 q3 q4 q5 q6 q7 q8 q9
            · cases h
          · cases h
        · cases h
      · cases h
    · exact H.test C h he
    · cases es with
      | nil =>
        simp only [trTs, Option.some.injEq] at h
        subst h
        simp only [evCs, Option.some.injEq, Prod.mk.injEq] at he
        obtain ⟨rfl, rfl⟩ := he
        exact ⟨fun pins s σ Hh Q I q => pts_nil.run pins s σ Hh Q I (q.2 Hh (Ste.refl q.1))⟩
      | cons e es =>
        simp only [trTs] at h
        split at h
        · next x xs h1 h2 =>
          cases h
          have hx : xs = [] := List.eq_nil_of_length_eq_zero (by rw [List.length_cons] at hl; omega)
          subst hx
          cases es with
          | cons e2 es2 =>
            cases n with
            | zero => simp [trTs] at h2
            | succ n =>
              simp only [trTs] at h2
              split at h2 <;> cases h2
          | nil =>
            simp only [evCs] at he
            split at he
            · cases he
            · next Γ1 e1 => cases he; exact pts_one (H.t C h1 e1)
            · next Γ1 e1 => cases he; exact pts_one (H.t C h1 e1)
        · cases h
end
end Sv

namespace Sv
open PySem PySem.Spec PyProof.Rows L2
/-! several names at once -/
section
variable {X : Cx} {pins : List (Addr × Obj)} {s : Shared} {K : PySem.W.Frag} {Γ Γ' Γ0 Γ1 Γ2 : Gm} {σ σ' σ0 : L2.St} {H H' H0 : Hp}
theorem settle_new : ∀ {rs rs' : List Rs} {Γ Γ' : Gm}, settleRs rs Γ = some (rs', Γ') → rs'.map isNew = rs.map isNew ∧ ∀ r ∈ rs', notSlot r = true
  | [], rs', Γ, Γ', h => by
    simp only [settleRs, Option.some.injEq, Prod.mk.injEq] at h
    obtain ⟨rfl, rfl⟩ := h
    exact ⟨rfl, fun _ h => by simp at h⟩
  | r :: rs, rs', Γ, Γ', h => by
    simp only [settleRs] at h
    cases h1 : settleR r Γ with
    | none => rw [h1] at h; cases h
    | some q =>
      obtain ⟨r1, Γ1⟩ := q
      rw [h1] at h
      simp only at h
      cases h2 : settleRs rs Γ1 with
      | none => rw [h2] at h; cases h
      | some q =>
        obtain ⟨rs1, Γ2⟩ := q
        rw [h2] at h
        cases h
        obtain ⟨a, b⟩ := settle_new h2
        have : isNew r1 = isNew r ∧ notSlot r1 = true := by
          cases r with
          | val d => simp only [settleR] at h1; cases h1; exact ⟨rfl, rfl⟩
          | new d => simp only [settleR] at h1; cases h1; exact ⟨rfl, rfl⟩
          | slot i =>
            simp only [settleR] at h1
            split at h1
            · cases h1; exact ⟨rfl, rfl⟩
            · cases h1
        refine ⟨by rw [List.map_cons, List.map_cons, a, this.1], fun x hx => ?_⟩
        rcases List.mem_cons.1 hx with rfl | hx
        · exact this.2
        · exact b x hx
theorem zip_new {α : Type} {f : α → Bool} : ∀ {as bs : List α} {vs : List V}, as.map f = bs.map f → ∀ p ∈ as.zip vs, f p.1 = true → ∃ b, (b, p.2) ∈ bs.zip vs ∧ f b = true
  | [], _, _, _, p, hp, _ => by simp at hp
  | a :: as, [], _, h, _, _, _ => by simp at h
  | a :: as, b :: bs, [], _, p, hp, _ => by simp at hp
  | a :: as, b :: bs, v :: vs, h, p, hp, hf => by
    rw [List.map_cons, List.map_cons] at h
    injection h with h1 h2
    rw [List.zip_cons_cons, List.mem_cons] at hp
    rcases hp with rfl | hp
    · exact ⟨b, by rw [List.zip_cons_cons]; exact List.mem_cons_self, by rw [← h1]; exact hf⟩
    · obtain ⟨c, hc, hf'⟩ := zip_new h2 p hp hf
      exact ⟨c, by rw [List.zip_cons_cons]; exact List.mem_cons_of_mem _ hc, hf'⟩
theorem settles_ok : ∀ {rs rs' : List Rs} {vs : List V} {Γ Γ' : Gm} {H : Hp}, Inv X pins σ H s → EnvOk K Γ σ H → Pds K Γ σ H rs vs → settleRs rs Γ = some (rs', Γ') → ∃ H', Inv X pins σ H' s ∧ Ste K Γ σ H Γ' σ H' ∧ Pds K Γ' σ H' rs' vs
  | [], rs', vs, Γ, Γ', H, I, e, p, h => by
    simp only [settleRs, Option.some.injEq, Prod.mk.injEq] at h
    obtain ⟨rfl, rfl⟩ := h
    exact ⟨H, I, Ste.refl e, p⟩
  | r :: rs, rs', vs, Γ, Γ', H, I, e, p, h => by
    obtain ⟨v, ws, rfl, p1, p2, p3⟩ := p
    simp only [settleRs] at h
    cases h1 : settleR r Γ with
    | none => rw [h1] at h; cases h
    | some q =>
      obtain ⟨r1, Γ1⟩ := q
      rw [h1] at h
      simp only at h
      cases h2 : settleRs rs Γ1 with
      | none => rw [h2] at h; cases h
      | some q =>
        obtain ⟨rs1, Γ2⟩ := q
        rw [h2] at h
        cases h
        have nn := (settle_new h2).1
        cases r with
        | val d =>
          simp only [settleR] at h1
          cases h1
          obtain ⟨H2, I2, S2, P2⟩ := settles_ok I e p2 h2
          exact ⟨H2, I2, S2, v, ws, rfl, p1.ste S2, P2, fun z => by cases z⟩
        | new d =>
          simp only [settleR] at h1
          cases h1
          obtain ⟨H2, I2, S2, P2⟩ := settles_ok I e p2 h2
          refine ⟨H2, I2, S2, v, ws, rfl, p1.ste S2, P2, fun z p hp np => ?_⟩
          obtain ⟨b, hb, nb⟩ := zip_new nn p hp np
          exact p3 rfl (b, p.2) hb nb
        | slot i =>
          simp only [settleR] at h1
          split at h1
          · next d Γ3 ht =>
            cases h1
            obtain ⟨H1, I1, S1, rp, ps1, _⟩ := take_ok I (Ste.refl e) p1 trivial p2 p3 ht
            obtain ⟨H2, I2, S2, P2⟩ := settles_ok I1 S1.env ps1 h2
            exact ⟨H2, I2, S1.trans S2, v, ws, rfl, Rp.per S2.per _ _ rp, P2, fun z => by cases z⟩
          · cases h1
theorem da_settle {es : List Expr} {rs rs' : List Rs} (h : DA X es Γ rs Γ1) (hs : settleRs rs Γ1 = some (rs', Γ2)) : DA X es Γ rs' Γ2 := by
  refine ⟨fun pos pins s σ H Q I q => ?_⟩
  refine thn (h.run pos pins s σ H (fun vs H1 => Ste X.K Γ σ H Γ1 σ H1 ∧ Pds X.K Γ1 σ H1 rs vs ∧ Origs Γ σ H rs vs) I ⟨q.1, fun vs H1 a b c => ⟨a, b, c⟩⟩) fun us s' hh => ?_
  obtain ⟨vs, H1, I1, rv, A, p, og⟩ := hh
  obtain ⟨H2, I2, B, P2⟩ := settles_ok I1 A.env p hs
  refine ⟨vs, H2, I2, rv, q.2 vs H2 (A.trans B) P2 fun p hp => ?_⟩
  cases hr : p.1 with
  | val d => trivial
  | slot i => trivial
  | new d =>
    obtain ⟨b, hb, nb⟩ := zip_new (settle_new hs).1 p hp (by rw [hr]; rfl)
    have := og _ hb
    cases b with
    | val d => cases nb
    | slot i => cases nb
    | new d' => exact this
theorem de_settle {e : Expr} {r r' : Rs} (h : DE X e Γ r Γ1) (hs : settleR r Γ1 = some (r', Γ2)) : DE X e Γ r' Γ2 := by
  cases r with
  | val d => simp only [settleR] at hs; cases hs; exact h
  | new d => simp only [settleR] at hs; cases hs; exact h
  | slot i =>
    simp only [settleR] at hs
    split at hs
    · next d Γ3 ht => cases hs; exact de_take h ht
    · cases hs
def setAll (σ : L2.St) : List Nat → List V → L2.St
  | i :: is, v :: vs => setAll (σ.set i (some v)) is vs
  | _, _ => σ
theorem setAll_length : ∀ {is : List Nat} {vs : List V} {σ : L2.St}, (setAll σ is vs).length = σ.length
  | [], _, _ => rfl
  | _ :: _, [], _ => rfl
  | i :: is, v :: vs, σ => by rw [setAll, setAll_length, List.length_set]
theorem binds_ok : ∀ {is : List Nat} {rs : List Rs} {vs : List V} {Γ Γ' : Gm} {σ : L2.St}, Ste K Γ0 σ0 H0 Γ σ H → Pds K Γ σ H rs vs → (∀ r ∈ rs, notSlot r = true) → Origs Γ0 σ0 H0 rs vs → bindRs is rs Γ = some Γ' → Ste K Γ0 σ0 H0 Γ' (setAll σ is vs) H
  | [], [], vs, Γ, Γ', σ, A, p, n, og, h => by
    simp only [bindRs, Option.some.injEq] at h
    subst h
    cases p
    exact A
  | [], _ :: _, _, _, _, _, _, _, _, _, h => by simp [bindRs] at h
  | _ :: _, [], _, _, _, _, _, _, _, _, h => by simp [bindRs] at h
  | i :: is, r :: rs, vs, Γ, Γ', σ, A, p, n, og, h => by
    obtain ⟨v, ws, rfl, p1, p2, p3⟩ := p
    simp only [bindRs] at h
    cases h1 : bindR i r Γ with
    | none => rw [h1] at h; cases h
    | some Γ1 =>
      rw [h1] at h
      simp only at h
      have B := A.bind A.env.len h1 p1 (og _ (by rw [List.zip_cons_cons]; exact List.mem_cons_self))
      rw [setAll]
      refine binds_ok B ?_ (fun x hx => n x (List.mem_cons_of_mem _ hx)) (fun p hp => og p (by rw [List.zip_cons_cons]; exact List.mem_cons_of_mem _ hp)) h
      -- the others wait on
      have key : ∀ {rs : List Rs} {ws : List V}, Pds K Γ σ H rs ws → (∀ r ∈ rs, notSlot r = true) → (isNew r = true → ∀ p ∈ rs.zip ws, isNew p.1 = true → p.2 ≠ v) → Pds K Γ1 (σ.set i (some v)) H rs ws := by
        intro rs
        induction rs with
        | nil => intro ws q _ _; exact q
        | cons r2 rs ih =>
          intro ws q nq dq
          obtain ⟨v2, ws2, rfl, q1, q2, q3⟩ := q
          refine ⟨v2, ws2, rfl, ?_, ih q2 (fun x hx => nq x (List.mem_cons_of_mem _ hx)) (fun z p hp => dq z p (by rw [List.zip_cons_cons]; exact List.mem_cons_of_mem _ hp)), q3⟩
          cases r2 with
          | val d => exact q1
          | slot j => have := nq _ List.mem_cons_self; cases this
          | new d =>
            obtain ⟨b, rfl, c, nb⟩ := q1
            refine ⟨b, rfl, c, fun cc => ?_⟩
            obtain ⟨hm, s1, hs1, rfl⟩ := bindR_some h1
            obtain ⟨lt, nio⟩ := mayBind_lt hm
            obtain ⟨j, e, hj, hb⟩ := cc
            by_cases z : j = i
            · subst z
              rw [set_lt (by rw [A.env.len]; exact lt)] at hb
              cases hb
              cases r with
              | val d => cases hs1; rcases hj with hj | hj <;> (rw [set_lt lt] at hj; cases hj)
              | slot k => cases hs1
              | new d2 => exact dq rfl (.new d, .ref b) (by rw [List.zip_cons_cons]; exact List.mem_cons_self) rfl rfl
            · rw [get_set_ne (Ne.symm z)] at hb
              exact nb ⟨j, e, (own_set_ne (Ne.symm z)).1 hj, hb⟩
      exact key p2 (fun x hx => n x (List.mem_cons_of_mem _ hx)) p3
theorem Pds.same {Hn : Hp} (e : EnvOk K Γ σ H) (sm : Same H Hn) {rs : List Rs} {vs : List V} (h : Pds K Γ σ H rs vs) : Pds K Γ σ Hn rs vs := Pds.ste (Ste.same e sm) rs vs h
end
section
variable {cx : TCx} {F : Nat → Fn} {Ld : Nat → Bool} {X : Cx} {sc : Scope}
def gNms (is : List Nat) : TGs := fun vs σ H Q => vs.length = is.length ∧ Q (setAll σ is vs) H
theorem trPar_ok (C : Cxt cx F Ld X sc) : ∀ {ts : List Expr} {is : List Nat}, trPar cx sc ts = some is → PGs X ts (gNms is) ∧ (assignEach ts X.env).length = is.length ∧ (assignEach ts X.env).findIdx? (·.1) = none
  | [], is, h => by
    simp only [trPar, Option.some.injEq] at h
    subst h
    exact ⟨pgs_sub' pgs_nil fun vs σ H Q q => ⟨List.eq_nil_of_length_eq_zero q.1, q.2⟩, rfl, rfl⟩
  | e :: ts, is, h => by
    cases e <;> simp only [trPar, reduceCtorEq] at h
    next x p =>
    split at h
    · next hl =>
      split at h
      · next i is' h1 h2 =>
        cases h
        obtain ⟨a1, a2, a3⟩ := trPar_ok C h2
        obtain ⟨l1, l2⟩ := C.loc hl
        refine ⟨pgs_sub' (pgs_cons (pg_name (by rw [C.N]; exact C.nd) (by rw [C.N]; exact ixOf_get h1) l1 l2) a1 rfl) fun vs σ H Q q => ?_, ?_, ?_⟩
        · cases vs with
          | nil => exact absurd q.1 (by simp)
          | cons v vs => exact ⟨v, vs, rfl, by have := q.1; simpa using this, q.2⟩
        · show ((false, _) :: assignEach ts X.env).length = _
          rw [List.length_cons, List.length_cons, a2]
        · show List.findIdx? _ ((false, _) :: assignEach ts X.env) = none
          rw [List.findIdx?_cons, a3]
          rfl
      · cases h
    · cases h
/-- a, b = x, y by a tuple -/
theorem ds_parT {ts es : List Expr} {is : List Nat} {rs : List Rs} {Γ Γ1 Γ2 : Gm} {k k2 : Nat} {p p2 pos : Pos} (C : Cxt cx F Ld X sc) (ht : trPar cx sc ts = some is) (ha : DA X es Γ rs Γ1) (hn : ∀ r ∈ rs, notSlot r = true) (hl : rs.length = is.length) (hz : is.length ≤ lim) (hb : bindRs is rs Γ1 = some Γ2)
    (hw : swappedStores [.Tuple ts k p] (.Tuple es k2 p2) X.env = pure none) : DS X (.Assign [.Tuple ts k p] (.Tuple es k2 p2) pos) Γ .nx Γ2 := by
  obtain ⟨a1, a2, a3⟩ := trPar_ok C ht
  refine ps_sub (ps_asg (pe_tup ha) (pg_tup C.calm a1 a2 a3) rfl hw rfl) fun D σ H q => ⟨q.1, fun vs H1 s1 p1 o1 => ?_⟩
  have lv : vs.length = is.length := by rw [Pds.length rs vs p1, hl]
  refine ⟨by rw [lv]; exact lim_size hz, fun t ht => ⟨t, vs, rfl, SqT.of upd_same, lv, lv, ?_⟩⟩
  have s2 := Ste.same s1.env (same_new (o := .tup vs) ht)
  exact q.2.2 _ _ (binds_ok (s1.trans s2) (Pds.ste s2 rs vs p1) hn o1 hb)
end
end Sv

namespace Sv
open PySem PySem.Spec PyProof.Rows L2
theorem parWay_cases {sc : Scope} {ts es : List Expr} {b : Bool} (h : parWay sc ts es = some b) : es.length = ts.length ∧
    ((b = false ∧ ((ts.length == 2 || ts.length == 3) = false ∨ ((parNames sc ts).length != ts.length || (parNames sc ts).eraseDups.length != (parNames sc ts).length) = true ∨ es.all (foldedForSure 8) = true)) ∨
     (b = true ∧ (ts.length == 2 || ts.length == 3) = true ∧ ((parNames sc ts).length != ts.length || (parNames sc ts).eraseDups.length != (parNames sc ts).length) = false ∧ es.all (foldedForSure 8) = false ∧ es.all (constantsAlone 8) = false)) := by
  unfold parWay at h
  split at h
  · cases h
  · next h0 =>
    refine ⟨by simpa using h0, ?_⟩
    split at h
    · next h1 => cases h; exact .inl ⟨rfl, .inl (by simpa using h1)⟩
    · next h1 =>
      split at h
      · next h2 => cases h; exact .inl ⟨rfl, .inr (.inl h2)⟩
      · next h2 =>
        split at h
        · next h3 => cases h; exact .inl ⟨rfl, .inr (.inr h3)⟩
        · next h3 =>
          split at h
          · cases h
          · next h4 =>
            cases h
            exact .inr ⟨rfl, by
              cases hx : (ts.length == 2 || ts.length == 3) with
              | true => rfl
              | false => rw [hx] at h1; exact absurd rfl h1, Bool.eq_false_iff.2 h2, Bool.eq_false_iff.2 h3, Bool.eq_false_iff.2 h4⟩
theorem noStar {es : List Expr} (od : ∀ e ∈ es, ordy e = true) {f : Expr → Bool} (hf : ∀ e, ordy e = true → f e = false) : es.any f = false := by
  rw [List.any_eq_false]
  intro e he
  rw [hf e (od e he)]
  decide
theorem way_false {env : Env} {ts es : List Expr} {k k2 : Nat} {p p2 : Pos} (od : ∀ e ∈ es, ordy e = true) (hk : env.scope.kind = .function) (h : parWay env.scope ts es = some false) : swappedStores [.Tuple ts k p] (.Tuple es k2 p2) env = pure none := by
  obtain ⟨h2, h3⟩ := parWay_cases h
  rcases h3 with ⟨_, h3⟩ | ⟨h3, _⟩
  · unfold swappedStores
    simp only
    rcases h3 with h3 | h3 | h3
    · rw [if_pos (by rw [h3]; rfl)]
    · by_cases c : (!(ts.length == 2 || ts.length == 3) || es.length != ts.length || env.blockKind != .function) = true
      · rw [if_pos c]
      · rw [if_neg c, if_neg (by rw [noStar od (fun e he => by cases e <;> first | rfl | cases he)]; decide)]
        show (if ((parNames env.scope ts).length != ts.length || (parNames env.scope ts).eraseDups.length != (parNames env.scope ts).length) = true then pure none else _) = pure none
        rw [if_pos h3]
    · by_cases c : (!(ts.length == 2 || ts.length == 3) || es.length != ts.length || env.blockKind != .function) = true
      · rw [if_pos c]
      · rw [if_neg c, if_neg (by rw [noStar od (fun e he => by cases e <;> first | rfl | cases he)]; decide)]
        show (if ((parNames env.scope ts).length != ts.length || (parNames env.scope ts).eraseDups.length != (parNames env.scope ts).length) = true then pure none else _) = pure none
        by_cases c2 : ((parNames env.scope ts).length != ts.length || (parNames env.scope ts).eraseDups.length != (parNames env.scope ts).length) = true
        · rw [if_pos c2]
        · rw [if_neg c2, if_pos h3]
  · cases h3
theorem way_true {env : Env} {ts es : List Expr} {k k2 : Nat} {p p2 : Pos} (od : ∀ e ∈ es, ordy e = true) (hk : env.scope.kind = .function) (h : parWay env.scope ts es = some true) : swappedStores [.Tuple ts k p] (.Tuple es k2 p2) env = pure (some (parNames env.scope ts)) ∧ (ts.length = 2 ∨ ts.length = 3) ∧ (parNames env.scope ts).length = ts.length := by
  obtain ⟨h2, h3⟩ := parWay_cases h
  rcases h3 with ⟨h3, _⟩ | ⟨_, h3, h4, h5, h6⟩
  · cases h3
  · have hb : env.blockKind = .function := by
      unfold Env.blockKind
      rw [hk]
      rfl
    refine ⟨?_, by simpa using h3, ?_⟩
    · unfold swappedStores
      simp only
      rw [if_neg (by rw [h3, hb, h2]; simp), if_neg (by rw [noStar od (fun e he => by cases e <;> first | rfl | cases he)]; decide)]
      show (if ((parNames env.scope ts).length != ts.length || (parNames env.scope ts).eraseDups.length != (parNames env.scope ts).length) = true then pure none else _) = pure _
      rw [if_neg (by rw [h4]; decide), if_neg (by rw [h5]; decide), if_neg (by rw [h6]; decide)]
      rfl
    · rw [Bool.or_eq_false_iff] at h4
      simpa using h4.1
section
variable {cx : TCx} {F : Nat → Fn} {Ld : Nat → Bool} {X : Cx} {sc : Scope}
theorem parNames_local {sc : Scope} {l : Nat} : ∀ {ts : List Expr}, (ts.filterMap (pnm sc l)).length = ts.length → ts.filterMap (pnm sc l) = ts.filterMap nameOf ∧ ∀ e ∈ ts, ∃ x p, e = .Name x p ∧ sc.names.lookup x = some .local
  | [], _ => ⟨rfl, fun e he => by simp at he⟩
  | t :: ts, h => by
    have le : (ts.filterMap (pnm sc l)).length ≤ ts.length := List.length_filterMap_le _ _
    rw [List.filterMap_cons] at h
    cases hb : pnm sc l t with
    | none => rw [hb, List.length_cons] at h; simp only at h; omega
    | some b =>
      rw [hb] at h
      simp only [List.length_cons] at h
      have hh : (ts.filterMap (pnm sc l)).length = ts.length := by omega
      obtain ⟨i1, i2⟩ := parNames_local hh
      cases t <;> simp only [pnm, reduceCtorEq] at hb
      next x p =>
      split at hb
      · next hc =>
        rw [Bool.and_eq_true] at hc
        refine ⟨by rw [List.filterMap_cons, List.filterMap_cons, i1]; simp only [pnm, nameOf]; rw [if_pos (by rw [Bool.and_eq_true]; exact hc)], fun e he => ?_⟩
        rcases List.mem_cons.1 he with rfl | he
        · exact ⟨x, p, rfl, by simpa using hc.1⟩
        · exact i2 e he
      · cases hb
theorem ds_parS {ts es : List Expr} {is : List Nat} {rs : List Rs} {Γ Γ1 Γ2 : Gm} {k k2 : Nat} {p p2 pos : Pos} (C : Cxt cx F Ld X sc) (hsc : X.env.scope = sc) (hk : sc.kind = .function) (ht : trPar cx sc ts = some is) (hnd : is.Nodup) (ha : DA X es Γ rs Γ1) (hn : ∀ r ∈ rs, notSlot r = true) (hl : rs.length = is.length) (hle : es.length = ts.length) (hb : bindRs is rs Γ1 = some Γ2)
    (od : ∀ e ∈ es, ordy e = true) (hw : parWay sc ts es = some true) : DS X (.Assign [.Tuple ts k p] (.Tuple es k2 p2) pos) Γ .nx Γ2 := by
  subst hsc
  obtain ⟨w1, w2, w3⟩ := way_true (k := k) (k2 := k2) (p := p) (p2 := p2) od hk hw
  have w1' : swappedStores [.Tuple ts k p] (.Tuple es k2 p2) X.env = pure (some (parNames X.env.scope ts)) := w1
  obtain ⟨nms, loc⟩ := parNames_local w3
  have nms' : parNames X.env.scope ts = ts.filterMap nameOf := nms
  rw [nms'] at w1'
  have hN : X.N.Nodup := by rw [C.N]; exact C.nd
  rcases w2 with w2 | w2
  · obtain ⟨t1, t2, rfl⟩ : ∃ a b, ts = [a, b] := by
      match ts, w2 with
      | [a, b], _ => exact ⟨a, b, rfl⟩
    obtain ⟨e1, e2, rfl⟩ : ∃ a b, es = [a, b] := by
      match es, hle with
      | [a, b], _ => exact ⟨a, b, rfl⟩
    obtain ⟨x, px, rfl, hx⟩ := loc t1 (by simp)
    obtain ⟨y, py, rfl, hy⟩ := loc t2 (by simp)
    have w4 : [Expr.Name x px, .Name y py].filterMap nameOf = [x, y] := rfl
    rw [w4] at w1'
    simp only [trPar] at ht
    split at ht
    · split at ht
      · next i is' h1 h2 =>
        cases ht
        split at h2
        · split at h2
          · next j js h3 h4 =>
            cases h2
            cases h4
            refine ps_sub (ps_par C.calm hN (by rw [C.N]; exact ixOf_get h1) (by rw [C.N]; exact ixOf_get h3) (by intro z; subst z; simp at hnd) hx hy ha w1' rfl) fun D σ H q => ⟨q.1, fun vs H1 s1 p1 o1 => ?_⟩
            have lv : vs.length = 2 := by rw [Pds.length rs vs p1, hl]; rfl
            obtain ⟨v, w, rfl⟩ : ∃ a b, vs = [a, b] := by
              match vs, lv with
              | [a, b], _ => exact ⟨a, b, rfl⟩
            exact ⟨v, w, rfl, q.2.2 _ H1 (binds_ok s1 p1 hn o1 hb)⟩
          · cases h2
        · cases h2
      · cases ht
    · cases ht
  · obtain ⟨t1, t2, t3, rfl⟩ : ∃ a b c, ts = [a, b, c] := by
      match ts, w2 with
      | [a, b, c], _ => exact ⟨a, b, c, rfl⟩
    obtain ⟨e1, e2, e3, rfl⟩ : ∃ a b c, es = [a, b, c] := by
      match es, hle with
      | [a, b, c], _ => exact ⟨a, b, c, rfl⟩
    obtain ⟨x, px, rfl, hx⟩ := loc t1 (by simp)
    obtain ⟨y, py, rfl, hy⟩ := loc t2 (by simp)
    obtain ⟨z, pz, rfl, hz⟩ := loc t3 (by simp)
    have w4 : [Expr.Name x px, .Name y py, .Name z pz].filterMap nameOf = [x, y, z] := rfl
    rw [w4] at w1'
    simp only [trPar] at ht
    split at ht
    · split at ht
      · next i is' h1 h2 =>
        cases ht
        split at h2
        · split at h2
          · next j js h3 h4 =>
            cases h2
            split at h4
            · split at h4
              · next l ls h5 h6 =>
                cases h4
                cases h6
                refine ps_sub (ps_par3 C.calm hN (by rw [C.N]; exact ixOf_get h1) (by rw [C.N]; exact ixOf_get h3) (by rw [C.N]; exact ixOf_get h5) (by intro z; subst z; simp at hnd) (by intro z; subst z; simp at hnd) (by intro z; subst z; simp at hnd) hx hy hz ha w1' rfl) fun D σ H q => ⟨q.1, fun vs H1 s1 p1 o1 => ?_⟩
                have lv : vs.length = 3 := by rw [Pds.length rs vs p1, hl]; rfl
                obtain ⟨v, w, u, rfl⟩ : ∃ a b c, vs = [a, b, c] := by
                  match vs, lv with
                  | [a, b, c], _ => exact ⟨a, b, c, rfl⟩
                exact ⟨v, w, u, rfl, q.2.2 _ H1 (binds_ok s1 p1 hn o1 hb)⟩
              · cases h4
            · cases h4
          · cases h2
        · cases h2
      · cases ht
    · cases ht
end
end Sv

namespace Sv
open PySem PySem.Spec PyProof.Rows L2
section
variable {cx : TCx} {F : Nat → Fn} {Ld : Nat → Bool} {W : Nat} {X : Cx} {sc : Scope}
theorem swaps_other {e : Expr} {n : Nat} {y : E} {t : Option Expr} {l : Nat} {env : Env} (h : trE cx n sc e = some y) (ok : okSet e = true) (hc : ∀ elt gs csc pos, e ≠ .ListComp elt gs csc pos) : swapsWith e t l env = pure false := by
  cases e <;> first
    | rfl
    | exact absurd rfl (hc _ _ _ _)
    | cases ok
    | (cases n <;> simp [trE] at h)
theorem swaps_nn {e t : Expr} {l : Nat} {env : Env} (h : ∀ x p, t ≠ .Name x p) : swapsWith e (some t) l env = pure false := by
  cases e <;> cases t <;> first | rfl | exact absurd rfl (h _ _)
theorem swaps_lc {elt : Expr} {gs : List Comprehension} {csc : Scope} {pos px : Pos} {x : Str} {l : Nat} {env : Env} : swapsWith (.ListComp elt gs csc pos) (some (.Name x px)) l env = pure (env.blockKind == .function && env.kindOf x == some .local && px.line == pos.line && !(csc.names.any fun (n, k) => n == x && (k == .local || k == .cell))) := rfl
theorem set_sound (C : Cxt cx F Ld X sc) {n : Nat} {x : Str} {px pos : Pos} {e : Expr} {i : Nat} {y : E} {Γ Γ1 Γ2 Γ3 : Gm} {r r' : Rs} (hl : locl sc x = true) (ok : okSet e = true) (no : notO y = true) (hi : ixOf cx x = some i) (ht : trE cx n sc e = some y) (he : evE F Ld y Γ = some (r, Γ1)) (hs : settleR r Γ1 = some (r', Γ2)) (hb : bindR i r' Γ2 = some Γ3) :
    DS X (.Assign [.Name x px] e pos) Γ .nx Γ3 := by
  obtain ⟨l1, l2⟩ := C.loc hl
  have hN : X.N.Nodup := by rw [C.N]; exact C.nd
  have hix : X.N[i]? = some x := by rw [C.N]; exact ixOf_get hi
  have H := sound_E (cx := cx) (F := F) (Ld := Ld) n
  have dflt : swapsWith e (some (.Name x px)) pos.line X.env = pure false → DS X (.Assign [.Name x px] e pos) Γ .nx Γ3 := fun hsw => ds_set hN hix l1 (de_settle (H.e C ht he) hs) hb hsw l2
  by_cases hc : ∃ elt gs csc pos, e = .ListComp elt gs csc pos
  · obtain ⟨elt, gs, csc, cpos, rfl⟩ := hc
    cases hb1 : (X.env.blockKind == .function && X.env.kindOf x == some .local && px.line == cpos.line && !(csc.names.any fun (n, k) => n == x && (k == .local || k == .cell))) with
    | false => exact dflt (by rw [swaps_lc, hb1])
    | true =>
      have hloc : X.env.scope.names.lookup x = some .local := by
        simp only [Bool.and_eq_true, beq_iff_eq] at hb1
        exact hb1.1.1.2
      have hsw : swapsWith (.ListComp elt gs csc cpos) (some (.Name x px)) pos.line X.env = pure true := by rw [swaps_lc, hb1]
      cases n with
      | zero => simp [trE] at ht
      | succ n =>
        have H' := sound_E (cx := cx) (F := F) (Ld := Ld) n
        cases gs with
        | nil => simp [trE] at ht
        | cons g gs =>
          cases gs with
          | cons => cases ok
          | nil =>
            obtain ⟨tg, it, ifs, a⟩ := g
            simp only [trE] at ht
            split at ht
            · next hk =>
              obtain ⟨rfl, hk⟩ := hk
              split at ht
              · split at ht
                · unfold mkCompO at ht
                  split at ht
                  · cases ht; cases no
                  · cases ht
                · cases ht
              split at ht
              · next i0 t cs x0 h1 h2 h3 h4 =>
                unfold mkComp at ht
                split at ht
                · next hsl =>
                  cases ht
                  rw [Bool.and_eq_true, decide_eq_true_eq] at hsl
                  obtain ⟨ds, Γ4, Γe, out, rfl, rfl, q1, q2, q3, q4, q5, q6, q7, q8, q9⟩ := H'.comp C hk h1 h2 h3 h4 hsl.1 hsl.2 he (fun e => H'.iter C h1 e) (mkI_ordy h1)
                  simp only [settleR] at hs
                  cases hs
                  exact ds_lc C.calm hN hix hloc hsw q1 q2 q3 q4 q5 q6 q7 q8 q9 hb
                · cases ht
              · cases ht
            · cases ht
  · exact dflt (swaps_other ht ok fun elt gs csc pos h => hc ⟨elt, gs, csc, pos, h⟩)
theorem sound_S (C : Cxt cx F Ld X sc) (hsc : X.env.scope = sc) (hk : sc.kind = .function) (hp : PassesOwn (model X.prog X.w) X.A X.env X.xe) : ∀ n : Nat,
    (∀ st ir Γ fl Γ', trS cx n sc st = some ir → evS F Ld W ir Γ = some (fl, Γ') → DS X st Γ fl Γ') ∧ ∀ sts irs Γ fl Γ', trSs cx n sc sts = some irs → evSs F Ld W irs Γ = some (fl, Γ') → DSs X sts Γ fl Γ' := by
  intro n
  induction n with
  | zero => exact ⟨fun _ _ _ _ _ h => by simp [trS] at h, fun _ _ _ _ _ h => by simp [trSs] at h⟩
  | succ n ih =>
    have H := sound_E (cx := cx) (F := F) (Ld := Ld) n
    have hN : X.N.Nodup := by rw [C.N]; exact C.nd
    refine ⟨fun st ir Γ fl Γ' h he => ?_, fun sts irs Γ fl Γ' h he => ?_⟩
    · unfold trS at h
      split at h
      · -- x = e
        split at h
        · next hl =>
          rw [Bool.and_eq_true] at hl
          split at h
          · next i y h1 h2 =>
            split at h
            case isFalse => cases h
            next no =>
            cases h
            simp only [evS] at he
            split at he
            · cases he
            · next r Γ1 e1 =>
              split at he
              · cases he
              · next r' Γ2 e2 =>
                split at he
                · cases he
                · next Γ3 e3 =>
                  cases he
                  exact set_sound C hl.1 hl.2 no h1 h2 e1 e2 e3
          · cases h
        · cases h
      · -- a, b = x, y
        next ts k p es k2 p2 pos =>
        split at h
        · next b is ys h1 h2 h3 =>
          split at h
          · next hnd =>
            rw [Bool.and_eq_true, Bool.and_eq_true, decide_eq_true_eq, decide_eq_true_eq, decide_eq_true_eq] at hnd
            cases h
            simp only [evS] at he
            split at he
            · cases he
            · next rs Γ1 e1 =>
              split at he
              · cases he
              · next rs' Γ2 e2 =>
                split at he
                · cases he
                · next Γ3 e3 =>
                  cases he
                  have od := trL_ordy (fun e ir h => trE_ordy h) h3
                  have A := da_settle (H.l C h3 e1) e2
                  obtain ⟨n1, n2⟩ := settle_new e2
                  have len : rs'.length = is.length := by
                    have := congrArg List.length n1
                    rw [List.length_map, List.length_map] at this
                    rw [this, evEs_len e1, hnd.1.2]
                  have les : es.length = ts.length := (parWay_cases h1).1
                  cases b with
                  | true => exact ds_parS C hsc hk h2 hnd.1.1 A n2 len les e3 od h1
                  | false =>
                    refine ds_parT C h2 A n2 len ?_ e3 (way_false od (by rw [hsc]; exact hk) (by rw [hsc]; exact h1))
                    exact Nat.le_trans hnd.2 (by decide)
          · cases h
        · cases h
      · -- a, b = e
        next ts k p e pos hne =>
        split at h
        · next t y h1 h2 =>
          cases h
          simp only [evS] at he
          split at he
          · cases he
          · next r Γ1 e1 =>
            split at he
            · cases he
            · next d Γ2 e2 =>
              split at he
              · cases he
              · next Γ3 e3 =>
                cases he
                have hw : swappedStores [.Tuple ts k p] e X.env = pure none := by
                  cases e <;> first | rfl | exact absurd rfl (hne _ _ _)
                refine ds_asg (de_take (H.e C h2 e1) e2) ((sound_G C n).1 _ t d Γ2 _ h1 e3) ?_ hw rfl
                unfold swapsWithSole
                exact swaps_nn fun _ _ h => by cases h
        · cases h
      · -- x[i] = e
        next o ix p2 e pos =>
        split at h
        · next x y z h1 h2 h3 =>
          cases h
          simp only [evS] at he
          split at he
          · cases he
          · next r Γ1 e1 =>
            split at he
            · cases he
            · next d Γ2 e2 =>
              split at he
              · next i Γ3 e3 =>
                split at he
                · cases he
                · next r2 Γ4 e4 =>
                  split at he
                  · next m xs e5 e6 =>
                    split at he
                    · next j e7 =>
                      cases he
                      have ha : ∀ v, assign (.Subscript o ix p2) X.env v = (do
                          let ov ← holding [v] (eval o X.env)
                          let iv ← holding [v, ov] (eval ix X.env)
                          standAt p2
                          holding [v, ov, iv] (setItem ov iv v)
                          release [v, ov, iv] []) := by
                        have oi := trE_ordy h2
                        intro v
                        cases ix <;> first | rfl | cases oi
                      refine ds_ixset (de_take (H.e C h3 e1) e2) (H.e C h1 e3) (H.e C h2 e4) e5 e6 e7 ha ?_ ?_ rfl
                      · unfold swapsWithSole
                        exact swaps_nn fun _ _ h => by cases h
                      · cases e <;> rfl
                    · cases he
                  · next dk kvs e5 e6 =>
                    split at he
                    · next k e7 =>
                      split at he
                      · next e8 =>
                        cases he
                        refine ds_dset C.hu (de_take (H.e C h3 e1) e2) (H.e C h1 e3) (H.e C h2 e4) e5 e7 e6 e8 ?_
                        exact swaps_nn fun _ _ h => by cases h
                      · cases he
                    · cases he
                  · cases he
              · cases he
        · cases h
      · -- x op= e
        next x px op e pos =>
        split at h
        · next hl =>
          split at h
          · next i o y h1 h2 h3 =>
            cases h
            obtain ⟨l1, l2⟩ := C.loc hl
            simp only [evS] at he
            split at he
            · next m e0 =>
              split at he
              · cases he
              · next r Γ1 e1 =>
                split at he
                · next m2 e2 =>
                  split at he
                  · next k e3 =>
                    split at he
                    · cases he
                    · next Γ2 e4 =>
                      cases he
                      rw [← bopOf_op h2]
                      exact ds_augI hN (by rw [C.N]; exact ixOf_get h1) l1 e0 (H.e C h3 e1) e2 e3 e4 l2
                  · cases he
                · cases he
            · cases he
          · cases h
        · cases h
      · -- a text alone
        cases h
        simp only [evS] at he
        cases he
        exact ds_doc
      · -- e alone
        next e pos hne =>
        split at h
        · next hcall =>
          rw [Option.map_eq_some_iff] at h
          obtain ⟨y, h1, rfl⟩ := h
          simp only [evS] at he
          split at he
          · cases he
          · next r Γ1 e1 =>
            cases he
            refine ds_drop (H.e C h1 e1) ?_
            cases e <;> first | rfl | cases hcall
        · cases h
      · -- if
        split at h
        · next x y z h1 h2 h3 =>
          cases h
          simp only [evS] at he
          split at he
          · cases he
          · next Γ1 e1 => exact ds_if (H.t C h1 e1) (fun _ => ih.2 _ _ _ _ _ h2 he) (fun z => by cases z)
          · next Γ1 e1 => exact ds_if (H.t C h1 e1) (fun z => by cases z) (fun _ => ih.2 _ _ _ _ _ h3 he)
        · cases h
      · -- while
        split at h
        · next x y h1 h2 =>
          cases h
          simp only [evS] at he
          exact ds_while hp (fun Γ k Γ1 e => H.t C h1 e) (fun Γ fl Γ1 e => ih.2 _ _ _ _ _ h2 e) he
        · cases h
      · -- for
        split at h
        · next t i y h1 h2 h3 =>
          cases h
          simp only [evS] at he
          split at he
          · cases he
          · next ds Γ1 e1 => exact ds_for hp C.calm (H.iter C h2 e1) (fun d Γ Γ1 e => (sound_G C n).1 _ t d Γ Γ1 h1 e) (fun Γ fl Γ1 e => ih.2 _ _ _ _ _ h3 e) he (foldO (mkI_ordy h2))
        · cases h
      · -- return
        cases h
        simp only [evS] at he
        cases he
        exact ds_retN
      · -- return e
        rw [Option.map_eq_some_iff] at h
        obtain ⟨y, h1, rfl⟩ := h
        simp only [evS] at he
        split at he
        · cases he
        · next i Γ1 e1 =>
          split at he
          · next d e2 => cases he; exact ds_retM (H.e C h1 e1) e2
          · next d e2 =>
            cases he
            exact ds_ret (de_take (H.e C h1 e1) (by simp only [takeR]; rw [e2])) rfl
          · cases he
        · next r Γ1 hns e1 =>
          cases he
          refine ds_ret (H.e C h1 e1) ?_
          cases r with
          | slot i => exact absurd rfl (hns i)
          | val d => rfl
          | new d => rfl
      · cases h; simp only [evS] at he; cases he; exact ds_break
      · cases h; simp only [evS] at he; cases he; exact ds_continue
      · cases h; simp only [evS] at he; cases he; exact ds_pass
      · cases h; simp only [evS] at he; cases he
      · cases h
    · cases sts with
      | nil =>
        simp only [trSs, Option.some.injEq] at h
        subst h
        simp only [evSs] at he
        cases he
        exact dss_nil
      | cons st sts =>
        simp only [trSs] at h
        split at h
        · next x xs h1 h2 =>
          cases h
          simp only [evSs] at he
          split at he
          · cases he
          · next Γ1 e1 => exact dss_cons (ih.1 _ _ _ _ _ h1 e1) (ih.2 _ _ _ _ _ h2 he)
          · next fl' Γ1 hn e1 =>
            cases he
            exact dss_stop (ih.1 _ _ _ _ _ h1 e1) fun z => by subst z; exact hn rfl
        · cases h
end
end Sv

namespace Sv
open PySem PySem.Spec PyProof.Rows L2 Tx
/-! a def of the text keeps what its body makes of its arguments -/
structure FnIn (P : Program) (w : World) (K : PySem.W.Frag) (mg : Str → Option Value) (base : Heap) (x : Str) (k np : Nat) (sem : Fn) (kk : List Str → List Nat → Prop) : Prop where
  ex : ∃ f fd ps, FnG P w K mg base CX0 k f fd ps (spOf K np sem) ∧ mg x = some (.ref f) ∧ PySem.W.keepIn K (.ref f) = true ∧ L2.Binds K fd ps [] ∧ ∀ ks perm, kk ks perm → KBn K fd ps 0 ks (fun _ ws => gP perm ws) (fun _ zs => gPV perm zs) ∧ perm.length = np
  len : ∀ as out, sem as = some out → as.length = np
section
variable {P : Program} {w : World} {K : PySem.W.Frag} {mg : Str → Option Value} {base : Heap}
/-- the module's facts that a def's body leans on -/
structure Top (cx : TCx) (F : Nat → Fn) (k : Nat) (P : Program) (w : World) (K : PySem.W.Frag) (mg : Str → Option Value) (base : Heap) : Prop where
  cons : ∀ x d, cx.cons.lookup x = some d → ∃ u v, mg x = some u ∧ RelV v u ∧ ∀ K H, Rp K H d v
  fns : ∀ i x, cx.fns[i]? = some x → ∃ np, FnIn P w K mg base x k np (F i) (fun ks perm => (i, ks, perm) ∈ cx.kws)
  blt : ∀ x ∈ bltNames, x ∉ cx.fns → mg x = none
  bf : ∀ x ∈ bltNames, x ∉ cx.fns
theorem okA_io_tail {as : List Sl} (h : okA as = true) : ∀ i d, as[i]? = some (.io d) → i = 0 := by
  intro i d hi
  cases as with
  | nil => simp at hi
  | cons s as =>
    cases i with
    | zero => rfl
    | succ i =>
      exfalso
      rw [List.getElem?_cons_succ] at hi
      have hm := List.mem_of_getElem? hi
      cases s with
      | io e =>
        simp only [okA, List.all_eq_true] at h
        have := h _ hm
        simp at this
      | _ =>
        simp only [okA, List.all_cons, Bool.and_eq_true, List.all_eq_true] at h
        have := h.2 _ hm
        simp at this
theorem okA_kind {as : List Sl} (h : okA as = true) : ∀ (i : Nat) s, as[i]? = some s → (∃ d, s = .sh d) ∨ (∃ d, s = .io d ∧ i = 0) := by
  intro i s hi
  cases as with
  | nil => simp at hi
  | cons s0 as =>
    have key : ∀ s, s ∈ as → ∃ d, s = Sl.sh d := by
      intro s hs
      cases s0 with
      | io e =>
        simp only [okA, List.all_eq_true] at h
        have := h _ hs
        cases s <;> simp at this
        exact ⟨_, rfl⟩
      | _ =>
        simp only [okA, List.all_cons, Bool.and_eq_true, List.all_eq_true] at h
        have := h.2 _ hs
        cases s <;> simp at this
        exact ⟨_, rfl⟩
    cases i with
    | zero =>
      simp only [List.getElem?_cons_zero, Option.some.injEq] at hi
      subst hi
      cases s0 with
      | io e => exact .inr ⟨e, rfl, rfl⟩
      | sh e => exact .inl ⟨e, rfl⟩
      | no => simp [okA] at h
      | ow e => simp [okA] at h
    | succ i =>
      rw [List.getElem?_cons_succ] at hi
      exact .inl (key s (List.mem_of_getElem? hi))
/-- the body's slots at the start -/
theorem env_start {as : List Sl} {vs : List V} {N : List Str} {H : Hp} (e : EnvOk K as (vs.map some) H) (hl : as.length = vs.length) (hn : vs.length ≤ N.length) : EnvOk K (as ++ List.replicate (N.length - vs.length) .no) (L2.start N vs) H := by
  have ga : ∀ (i : Nat) s, (as ++ List.replicate (N.length - vs.length) Sl.no)[i]? = some s → (i < as.length ∧ as[i]? = some s) ∨ s = .no := by
    intro i s h
    by_cases lt : i < as.length
    · rw [List.getElem?_append_left lt] at h
      exact .inl ⟨lt, h⟩
    · right
      rw [List.getElem?_append_right (by omega)] at h
      have := List.mem_of_getElem? h
      exact (List.mem_replicate.1 this).2
  have gv : ∀ (i : Nat), i < as.length → (L2.start N vs)[i]? = (vs.map some)[i]? := by
    intro i lt
    unfold L2.start
    rw [List.getElem?_append_left (by rw [List.length_map]; omega)]
  have ow : ∀ i d, Own (as ++ List.replicate (N.length - vs.length) Sl.no) i d → i < as.length ∧ Own as i d := by
    intro i d h
    rcases h with h | h
    · rcases ga i _ h with ⟨a, b⟩ | b
      · exact ⟨a, .inl b⟩
      · cases b
    · rcases ga i _ h with ⟨a, b⟩ | b
      · exact ⟨a, .inr b⟩
      · cases b
  refine ⟨fun i d h => ?_, fun i d h => ?_, fun i j d f a h1 h2 h3 h4 => ?_, ?_⟩
  · rcases ga i _ h with ⟨a, b⟩ | b
    · rw [gv i a]
      exact e.sh i d b
    · cases b
  · obtain ⟨a, b⟩ := ow i d h
    rw [gv i a]
    exact e.mu i d b
  · obtain ⟨a1, b1⟩ := ow i d h1
    obtain ⟨a2, b2⟩ := ow j f h2
    rw [gv i a1] at h3
    rw [gv j a2] at h4
    exact e.df i j d f a b1 b2 h3 h4
  · unfold L2.start
    rw [List.length_append, List.length_append, List.length_map, List.length_replicate, List.length_replicate, hl]
/-- behind the body: what the caller sees -/
theorem Ste.exit {as : List Sl} {vs : List V} {N : List Str} {H H' : Hp} {Γ : Gm} {σ' : L2.St} (ok : okA as = true) (e : EnvOk K as (vs.map some) H) (hl : as.length = vs.length) (hn : vs.length ≤ N.length)
    (A : Ste K (as ++ List.replicate (N.length - vs.length) .no) (L2.start N vs) H Γ σ' H') : Ste K as (vs.map some) H (outA as (ioOut as Γ)) (vs.map some) H' ∧ (∀ b, Cell (outA as (ioOut as Γ)) (vs.map some) b → Cell Γ σ' b) ∧ ∀ b, Cell (as ++ List.replicate (N.length - vs.length) Sl.no) (L2.start N vs) b → Cell as (vs.map some) b := by
  have kind := okA_kind ok
  have cellA : ∀ b, Cell (as ++ List.replicate (N.length - vs.length) Sl.no) (L2.start N vs) b → Cell as (vs.map some) b := by
    rintro b ⟨i, d, hi, hb⟩
    have lt : i < as.length := by
      apply Classical.byContradiction
      intro ge
      have : (as ++ List.replicate (N.length - vs.length) Sl.no)[i]? = (List.replicate (N.length - vs.length) Sl.no)[i - as.length]? := List.getElem?_append_right (by omega)
      rcases hi with hi | hi
      · rw [this] at hi; have := (List.mem_replicate.1 (List.mem_of_getElem? hi)).2; cases this
      · rw [this] at hi; have := (List.mem_replicate.1 (List.mem_of_getElem? hi)).2; cases this
    refine ⟨i, d, ?_, ?_⟩
    · unfold Own at hi ⊢
      rw [List.getElem?_append_left lt] at hi
      exact hi
    · unfold L2.start at hb
      rw [List.getElem?_append_left (by rw [List.length_map]; omega)] at hb
      exact hb
  suffices h : Ste K as (vs.map some) H (outA as (ioOut as Γ)) (vs.map some) H' ∧ ∀ b, Cell (outA as (ioOut as Γ)) (vs.map some) b → Cell Γ σ' b from ⟨h.1, h.2, cellA⟩
  cases as with
  | nil =>
    have e0 : outA [] (ioOut [] Γ) = [] := rfl
    rw [e0]
    refine ⟨⟨e, ⟨fun i d h => by simp at h, fun i d h => by rcases h with h | h <;> simp at h, fun i j d f a h => by rcases h with h | h <;> simp at h, e.len⟩, fun b o hb nb => A.keep b o hb fun c => nb (cellA b c), A.live, fun b c => .inl c, fun i d h => by simp at h, rfl, rfl⟩, ?_⟩
    rintro b ⟨i, d, h, _⟩
    rcases h with h | h <;> simp at h
  | cons s0 as =>
    -- all but a first lent one are as they were
    have same : ∀ (as' : List Sl), as'.length = (s0 :: as).length → (∀ i s, as'[i]? = some s → (∃ d, s = .sh d ∧ (s0 :: as)[i]? = some (.sh d)) ∨ (i = 0 ∧ ∃ d0 d, s0 = .io d0 ∧ s = .io d ∧ Γ[0]? = some (.io d))) → (∀ d0, s0 = .io d0 → ∃ d, as'[0]? = some (.io d)) →
        Ste K (s0 :: as) (vs.map some) H as' (vs.map some) H' ∧ ∀ b, Cell as' (vs.map some) b → Cell Γ σ' b := by
      intro as' len ks k0
      have io0 : ∀ d0, s0 = .io d0 → σ'[0]? = (vs.map some)[0]? := by
        intro d0 h0
        have := (A.io 0 d0 (by rw [h0]; rfl)).2
        rw [this]
        unfold L2.start
        rw [List.getElem?_append_left (by rw [List.length_map]; rw [List.length_cons] at hl; omega)]
      have cel : ∀ b, Cell as' (vs.map some) b → Cell Γ σ' b ∧ Cell (s0 :: as) (vs.map some) b := by
        rintro b ⟨i, d, hi, hb⟩
        have : ∃ s, as'[i]? = some s ∧ (s = .ow d ∨ s = .io d) := by
          rcases hi with hi | hi
          · exact ⟨_, hi, .inl rfl⟩
          · exact ⟨_, hi, .inr rfl⟩
        obtain ⟨s, h1, h2⟩ := this
        rcases ks i s h1 with ⟨d', h3, _⟩ | ⟨rfl, d0, d', h3, h4, h5⟩
        · subst h3; rcases h2 with h2 | h2 <;> cases h2
        · refine ⟨⟨0, d', .inr h5, by rw [io0 d0 h3]; exact hb⟩, ⟨0, d0, .inr (by rw [h3]; rfl), hb⟩⟩
      refine ⟨⟨e, ⟨fun i d h => ?_, fun i d h => ?_, fun i j d f a h1 h2 _ _ => ?_, by rw [List.length_map, len, hl]⟩, fun b o hb nb => A.keep b o hb fun c => nb (cellA b c), A.live, fun b c => .inl (cel b c).2, fun i d h => ?_, len, rfl⟩, fun b c => (cel b c).1⟩
      · rcases ks i _ h with ⟨d', h3, h4⟩ | ⟨rfl, d0, d', h3, h4, h5⟩
        · cases h3
          obtain ⟨v, q1, q2⟩ := e.sh i d h4
          exact ⟨v, q1, Rp.per A.per d v q2⟩
        · cases h4
      · have : ∃ s, as'[i]? = some s ∧ (s = .ow d ∨ s = .io d) := by
          rcases h with h | h
          · exact ⟨_, h, .inl rfl⟩
          · exact ⟨_, h, .inr rfl⟩
        obtain ⟨s, h1, h2⟩ := this
        rcases ks i s h1 with ⟨d', h3, _⟩ | ⟨rfl, d0, d', h3, h4, h5⟩
        · subst h3; rcases h2 with h2 | h2 <;> cases h2
        · have ed : d' = d := by subst h4; rcases h2 with h2 | h2 <;> cases h2; rfl
          subst ed
          obtain ⟨a, q1, q2⟩ := A.env.mu 0 d' (.inr h5)
          rw [io0 d0 h3] at q1
          exact ⟨a, q1, q2⟩
      · have z : ∀ i d, Own as' i d → i = 0 := by
          intro i d h
          have : ∃ s, as'[i]? = some s ∧ (s = .ow d ∨ s = .io d) := by
            rcases h with h | h
            · exact ⟨_, h, .inl rfl⟩
            · exact ⟨_, h, .inr rfl⟩
          obtain ⟨s, h1, h2⟩ := this
          rcases ks i s h1 with ⟨d', h3, _⟩ | ⟨h3, _⟩
          · subst h3; rcases h2 with h2 | h2 <;> cases h2
          · exact h3
        rw [z i d h1, z j f h2]
      · rcases kind i _ h with ⟨d', h3⟩ | ⟨d', h3, rfl⟩
        · cases h3
        · cases h3
          obtain ⟨d2, q⟩ := k0 d (by simpa using h)
          exact ⟨⟨d2, q⟩, rfl⟩
    cases s0 with
    | io d0 =>
      obtain ⟨⟨d1, h1⟩, _⟩ := A.io 0 d0 rfl
      have ho : ioOut (.io d0 :: as) Γ = some d1 := by
        cases Γ with
        | nil => simp at h1
        | cons g Γ =>
          simp only [List.getElem?_cons_zero, Option.some.injEq] at h1
          subst h1
          rfl
      rw [ho]
      refine same (.io d1 :: as) rfl (fun i s hs => ?_) (fun d0' _ => ⟨d1, rfl⟩)
      cases i with
      | zero => simp only [List.getElem?_cons_zero, Option.some.injEq] at hs; subst hs; exact .inr ⟨rfl, d0, d1, rfl, rfl, h1⟩
      | succ i =>
        rw [List.getElem?_cons_succ] at hs
        rcases kind (i + 1) s (by rw [List.getElem?_cons_succ]; exact hs) with ⟨d, hd⟩ | ⟨d, _, hd⟩
        · exact .inl ⟨d, hd, by rw [List.getElem?_cons_succ, hs, hd]⟩
        · exact absurd hd (by omega)
    | sh d0 =>
      have ho : outA (.sh d0 :: as) (ioOut (.sh d0 :: as) Γ) = .sh d0 :: as := rfl
      rw [ho]
      refine same _ rfl (fun i s hs => ?_) (fun d h => by cases h)
      rcases kind i s hs with ⟨d, hd⟩ | ⟨d, hd, rfl⟩
      · exact .inl ⟨d, hd, by rw [hs, hd]⟩
      · simp only [List.getElem?_cons_zero, Option.some.injEq] at hs
        subst hs
        cases hd
    | no => simp [okA] at ok
    | ow d0 => simp [okA] at ok
end
end Sv

namespace Sv
open PySem PySem.Spec PyProof.Rows L2 Tx
/-! a whole program -/
structure DefI where
  name : Str
  st : Stmt
  N : List Str
  ps : List Str
  ir : List S
  ld : Bool
  bor : List Str
structure Prg where
  defs : List DefI
  cons : List (Str × D)
  kws : List (Nat × List Str × List Nat)
def Prg.fns (p : Prg) : List Str := p.defs.map (·.name)
def Prg.ld (p : Prg) (i : Nat) : Bool := match p.defs[i]? with
  | some d => d.ld
  | none => false
def Prg.FT (p : Prg) (W : Nat) : Nat → Nat → Fn
  | 0, _ => fun _ => none
  | n + 1, i => match p.defs[i]? with
    | some d => runF (p.FT W n) p.ld W ⟨d.ps.length, d.N.length, d.ir⟩
    | none => fun _ => none
def Prg.cx (p : Prg) (d : DefI) : TCx := ⟨d.N, p.fns, p.cons, p.kws, d.bor⟩
/-- what is looked at in the text -/
structure DefOk (p : Prg) (d : DefI) : Prop where
  sc : FnScope d.N d.ps (defScope d.st)
  tr : trSs (p.cx d) 100 (defScope d.st) (defBody d.st) = some d.ir
  le : d.ps.length ≤ d.N.length
  bi : ∀ (kV doc pm : Value) (an : Option Addr) (cdv ct : Value) (us : List Value), us.length = d.ps.length → bindArgs (PySem.W.fnOf d.name d.name (defArgs d.st) (defBody d.st) (defScope d.st) .none kV doc pm an cdv ct) ⟨us, []⟩ = pure (d.ps.zip us)
/-- calls by names -/
structure KwOk (p : Prg) : Prop where
  bk : ∀ i ks perm, (i, ks, perm) ∈ p.kws → ∀ d, p.defs[i]? = some d → perm.length = d.ps.length ∧ ∀ (kV doc pm : Value) (an : Option Addr) (cdv ct : Value) (ws : List Value), ws.length = ks.length →
    bindArgs (PySem.W.fnOf d.name d.name (defArgs d.st) (defBody d.st) (defScope d.st) .none kV doc pm an cdv ct) ⟨[], ks.zip ws⟩ = pure (d.ps.zip (gP perm ws))
structure TopOk (p : Prg) (K : PySem.W.Frag) (mg : Str → Option Value) : Prop where
  defs : ∀ d ∈ p.defs, ∃ f fd, mg d.name = some (.ref f) ∧ FunD K d.name d.name (defArgs d.st) (defBody d.st) (defScope d.st) [] [] f fd
  cons : ∀ x d, p.cons.lookup x = some d → ∃ u v, mg x = some u ∧ RelV v u ∧ ∀ K H, Rp K H d v
  blt : ∀ x ∈ bltNames, mg x = none
section
variable {P : Program} {w : World} {K : PySem.W.Frag} {mg : Str → Option Value} {base : Heap}
theorem fn_soundF {cx : TCx} {F : Nat → Fn} {Ld : Nat → Bool} {W k n : Nat} {x : Str} {st : Stmt} {f : Addr} {fd : FuncData} {ps : List Str} {ir : List S} (Fu : FunD K x x (defArgs st) (defBody st) (defScope st) [] [] f fd) (Sc : FnScope cx.N ps (defScope st)) (hb : trSs cx n (defScope st) (defBody st) = some ir) (T : Top cx F k P w K mg base) (hps : ps.length ≤ cx.N.length) :
    FnG P w K mg base CX0 (k + 1) f fd ps (spOf K ps.length (runF F Ld W ⟨ps.length, cx.N.length, ir⟩)) := by
  refine fd_okG Fu Sc (fun vs H Q E h => ?_) (fun cdv A outer s H vs Q E hr h => ?_)
  · obtain ⟨as, r, o, h1, _⟩ := h
    exact h1
  · obtain ⟨as, r, o, h1, h2, h3, h4, h5, h6, q⟩ := h
    have C : Cxt cx F Ld (cxOf CX0 P w K mg base cx.N x (defScope st) f cdv A outer s H E).nox (defScope st) := {
      calm := rfl
      N := rfl
      nd := Sc.nd
      lk := fun x k h => .inl h
      fn := fun _ _ => rfl
      cons := T.cons
      fns := fun i y hy => by
        obtain ⟨np, I⟩ := T.fns i y hy
        obtain ⟨f', fd', ps', F', a, b, c, e⟩ := I.ex
        exact ⟨k, f', fd', ps', np, F', hr, a, b, c, I.len, e⟩
      blt := T.blt
      bf := T.bf
      hu := by have := hr.un; show (A.deeper _).units + 65 < cLine; omega
      gd := hr.gd }
    unfold runF at h5
    rw [if_pos h2] at h5
    have hl : as.length = vs.length := by rw [h1, h2]
    have hn : vs.length ≤ cx.N.length := by rw [h1]; exact hps
    have E0 := env_start (N := cx.N) h4 hl hn
    have e1 : as ++ List.replicate (cx.N.length - ps.length) Sl.no = as ++ List.replicate (cx.N.length - vs.length) Sl.no := by rw [h1]
    rw [e1] at h5
    have L0 := E0.len
    split at h5
    · next Γ he =>
      cases h5
      refine ⟨_, PSs.nox ((sound_S C rfl Sc.kind PassesOwn.never n).2 _ _ _ _ _ hb he), E0, L0, fun σ' H' A => ?_⟩
      obtain ⟨B, c1, c2⟩ := A.exit h3 h4 hl hn
      exact q .non H' B (by simp only [Pd, Rp]) trivial
    · next r' Γ he =>
      cases h5
      refine ⟨_, PSs.nox ((sound_S C rfl Sc.kind PassesOwn.never n).2 _ _ _ _ _ hb he), E0, L0, fun v σ' H' A p og ns => ?_⟩
      obtain ⟨B, c1, c2⟩ := A.exit h3 h4 hl hn
      refine q v H' B ?_ ?_
      · cases r with
        | val d => exact p
        | slot i => cases h6
        | new d =>
          obtain ⟨a, e, c, nc⟩ := p
          exact ⟨a, e, c, fun cc => nc (c1 a cc)⟩
      · cases r with
        | val d => trivial
        | slot i => trivial
        | new d =>
          intro a ea
          rcases og a ea with c | c
          · exact .inl (c2 a c)
          · exact .inr c
    · cases h5
theorem kbN {x qual : Str} {params : Arguments} {body : List Stmt} {scope : Scope} {kws : List (Str × V)} {f : Addr} {fd : FuncData} {ps ks : List Str} {perm : List Nat} (F : FunD K x qual params body scope [] kws f fd)
    (h : ∀ (kV doc pm : Value) (an : Option Addr) (cdv ct : Value) (ws : List Value), ws.length = ks.length → bindArgs (PySem.W.fnOf x qual params body scope .none kV doc pm an cdv ct) ⟨[], ks.zip ws⟩ = pure (ps.zip (gP perm ws))) : KBn K fd ps 0 ks (fun _ ws => gP perm ws) (fun _ zs => gPV perm zs) := by
  obtain ⟨oc, od, dV, kV, doc, pm, an, cdv, ct, osl, rfl, lk, hcd, hD, hK⟩ := F.ex
  rcases hD with ⟨_, rfl⟩ | ⟨e, _⟩
  · refine ⟨fun s us ws _ h0 hl => ?_, fun _ r => vals_gP r⟩
    cases us with
    | nil => exact .of_eq (h kV doc pm an cdv ct ws hl)
    | cons => simp at h0
  · exact absurd rfl e
theorem fn_soundD {cx : TCx} {F : Nat → Fn} {Ld : Nat → Bool} {W k n : Nat} {x : Str} {st : Stmt} {f : Addr} {fd : FuncData} {ps : List Str} {ir : List S} (Fu : FunD K x x (defArgs st) (defBody st) (defScope st) [] [] f fd) (Sc : FnScope cx.N ps (defScope st)) (hb : trSs cx n (defScope st) (defBody st) = some ir) (T : Top cx F k P w K mg base) (hx : mg x = some (.ref f)) (hps : ps.length ≤ cx.N.length) (hbi : L2.Binds K fd ps []) {kk : List Str → List Nat → Prop} (hkk : ∀ ks perm, kk ks perm → KBn K fd ps 0 ks (fun _ ws => gP perm ws) (fun _ zs => gPV perm zs) ∧ perm.length = ps.length) :
    FnIn P w K mg base x (k + 1) ps.length (runF F Ld W ⟨ps.length, cx.N.length, ir⟩) kk := by
  refine ⟨⟨f, fd, ps, fn_soundF Fu Sc hb T hps, hx, Fu.kp, hbi, hkk⟩, fun as out h => ?_⟩
  unfold runF at h
  split at h
  · next hh => exact hh
  · cases h
theorem all_in {p : Prg} {W : Nat} (D : ∀ d ∈ p.defs, DefOk p d) (Kw : KwOk p) (T : TopOk p K mg) (bf : ∀ x ∈ bltNames, x ∉ p.fns) : ∀ (n i : Nat) (d : DefI), p.defs[i]? = some d → FnIn P w K mg base d.name n d.ps.length (p.FT W n i) (fun ks perm => (i, ks, perm) ∈ p.kws) := by
  intro n
  induction n with
  | zero =>
    intro i d hd
    obtain ⟨f, fd, h1, h2⟩ := T.defs d (List.mem_of_getElem? hd)
    exact ⟨⟨f, fd, d.ps, ⟨fun vs H Q E h => (by obtain ⟨as, r, o, _, _, _, _, h5, _⟩ := h; cases h5), fun A outer s H args us vs Q E _ _ _ _ h => (by obtain ⟨as, r, o, _, _, _, _, h5, _⟩ := h; cases h5)⟩, h1, h2.kp, h2.bindsN fun kV doc pm an cdv ct us hl => (D d (List.mem_of_getElem? hd)).bi kV doc pm an cdv ct us hl, fun ks perm hk => ⟨kbN h2 fun kV doc pm an cdv ct ws hl => (Kw.bk i ks perm hk d hd).2 kV doc pm an cdv ct ws hl, (Kw.bk i ks perm hk d hd).1⟩⟩, fun as out h => (by cases h)⟩
  | succ n ih =>
    intro i d hd
    have hm := List.mem_of_getElem? hd
    obtain ⟨f, fd, h1, h2⟩ := T.defs d hm
    have O := D d hm
    have e : p.FT W (n + 1) i = runF (p.FT W n) p.ld W ⟨d.ps.length, d.N.length, d.ir⟩ := by
      simp only [Prg.FT]
      rw [hd]
    rw [e]
    refine fn_soundD (cx := p.cx d) (n := 100) h2 O.sc O.tr ⟨T.cons, fun j x hj => ?_, fun x hx _ => T.blt x hx, bf⟩ h1 O.le (h2.bindsN fun kV doc pm an cdv ct us hl => O.bi kV doc pm an cdv ct us hl) (fun ks perm hk => ⟨kbN h2 fun kV doc pm an cdv ct ws hl => (Kw.bk i ks perm hk d hd).2 kV doc pm an cdv ct ws hl, (Kw.bk i ks perm hk d hd).1⟩)
    unfold Prg.cx Prg.fns at hj
    simp only [List.getElem?_map, Option.map_eq_some_iff] at hj
    obtain ⟨d', q1, rfl⟩ := hj
    exact ⟨_, ih j d' q1⟩
theorem one_ok {p : Prg} {W : Nat} (D : ∀ d ∈ p.defs, DefOk p d) (Kw : KwOk p) (T : TopOk p K mg) (bf : ∀ x ∈ bltNames, x ∉ p.fns) (n i : Nat) {d : DefI} (hd : p.defs[i]? = some d) {f : Addr} {fd : FuncData} (Fu : FunD K d.name d.name (defArgs d.st) (defBody d.st) (defScope d.st) [] [] f fd) :
    FnG P w K mg base CX0 (n + 1) f fd d.ps (spOf K d.ps.length (p.FT W (n + 1) i)) := by
  have O := D d (List.mem_of_getElem? hd)
  have e : p.FT W (n + 1) i = runF (p.FT W n) p.ld W ⟨d.ps.length, d.N.length, d.ir⟩ := by
    simp only [Prg.FT]
    rw [hd]
  rw [e]
  refine fn_soundF (cx := p.cx d) (n := 100) Fu O.sc O.tr ⟨T.cons, fun j x hj => ?_, fun x hx _ => T.blt x hx, bf⟩ O.le
  unfold Prg.cx Prg.fns at hj
  simp only [List.getElem?_map, Option.map_eq_some_iff] at hj
  obtain ⟨d', q1, rfl⟩ := hj
  exact ⟨_, all_in D Kw T bf n j d' q1⟩
/-- the law: from what its def makes of every script -/
theorem law_sp {p : Prg} {W n i : Nat} {np : Nat} (hnp : np = 1) (h : ∀ ns : List Int, ns.length ≤ 63 → p.FT W n i [.sh (.scr ns)] = some (.val (.bl true), none)) (H : Hp) (a : Addr) (ns : List Int) (hl : ns.length ≤ 63) (hO : Only H) (hS : SqL K H a (ns.map V.int)) :
    spOf K np (p.FT W n i) [.ref a] H (fun v _ => v = .bl true) fun _ _ _ => False := by
  subst hnp
  have hs : SqS K H a (ns.map V.int) := by
    rcases hS with (hS | hS) | hS
    · rcases hO a with z | ⟨o, xs, z⟩ <;> rw [hS] at z <;> cases z
    · exact .inl hS
    · exact .inr hS
  refine ⟨[.sh (.scr ns)], .val (.bl true), none, rfl, rfl, rfl, ⟨fun i d hd => ?_, fun i d hd => ?_, fun i j d e a hd => ?_, rfl⟩, h ns hl, rfl, fun v H' _ p _ => by simpa only [Pd, Rp] using p⟩
  · cases i with
    | zero =>
      simp only [List.getElem?_cons_zero, Option.some.injEq, Sl.sh.injEq] at hd
      subst hd
      refine ⟨.ref a, rfl, ?_⟩
      simp only [Rp]
      exact ⟨a, rfl, hs⟩
    | succ i => simp at hd
  · rcases hd with hd | hd <;> cases i <;> simp at hd
  · rcases hd with hd | hd <;> cases i <;> simp at hd
end
end Sv

namespace Sv
open PySem PySem.Spec PyProof.Rows L2
/-! plain facts on the loops -/
theorem compL_inv {vs : List Nat} {fg : D → Gm → Option Gm} {ft : Gm → Option (Bool × Gm)} {fe : Gm → Option (D × Gm)} {P : List D → Gm → Prop} {L : Nat} (hL : L ≤ 1000000) : ∀ (ds acc : List D) (Γ : Gm),
    (∀ d ∈ ds, ∀ acc Γ, P acc Γ → acc.length < L → ∃ Γ1 Γ2 e Γ3, fg d Γ = some Γ1 ∧ ft Γ1 = some (true, Γ2) ∧ fe Γ2 = some (e, Γ3) ∧ P (acc ++ [e]) (wipeG Γ3 vs)) → P acc Γ → acc.length + ds.length ≤ L →
    ∃ out Γe, compL vs fg ft fe ds acc Γ = some (out, Γe) ∧ P out Γe ∧ out.length = acc.length + ds.length
  | [], acc, Γ, _, h, _ => ⟨acc, Γ, rfl, h, rfl⟩
  | d :: ds, acc, Γ, hs, h, hl => by
    simp only [List.length_cons] at hl
    obtain ⟨Γ1, Γ2, e, Γ3, e1, e2, e3, h'⟩ := hs d List.mem_cons_self acc Γ h (by omega)
    obtain ⟨out, Γe, q1, q2, q3⟩ := compL_inv hL ds (acc ++ [e]) (wipeG Γ3 vs) (fun d hd => hs d (List.mem_cons_of_mem _ hd)) h' (by simp; omega)
    refine ⟨out, Γe, ?_, q2, by rw [q3]; simp; omega⟩
    simp only [compL, e1, e2, e3]
    rw [if_pos (by omega)]
    exact q1
/-- a comprehension that leaves the slots as they are -/
theorem compL_pure {vs : List Nat} {fg : D → Gm → Option Gm} {ft : Gm → Option (Bool × Gm)} {fe : Gm → Option (D × Gm)} {p : D → Bool} {f : D → D} {Γ : Gm} : ∀ (ds acc : List D),
    (∀ d ∈ ds, ∃ Γ1 Γ2, fg d Γ = some Γ1 ∧ ft Γ1 = some (p d, Γ2) ∧ (p d = false → wipeG Γ2 vs = Γ) ∧ (p d = true → ∃ Γ3, fe Γ2 = some (f d, Γ3) ∧ wipeG Γ3 vs = Γ)) → acc.length + ds.length ≤ 1000000 →
    compL vs fg ft fe ds acc Γ = some (acc ++ (ds.filter p).map f, Γ)
  | [], acc, _, _ => by simp [compL]
  | d :: ds, acc, hs, hl => by
    obtain ⟨Γ1, Γ2, e1, e2, e3, e4⟩ := hs d List.mem_cons_self
    simp only [List.length_cons] at hl
    simp only [compL, e1, e2]
    cases hp : p d with
    | false =>
      simp only [hp, e3 hp]
      rw [compL_pure ds acc (fun d hd => hs d (List.mem_cons_of_mem _ hd)) (by omega)]
      simp [List.filter_cons, hp]
    | true =>
      obtain ⟨Γ3, q1, q2⟩ := e4 hp
      simp only [hp, q1, q2]
      rw [if_pos (by omega), compL_pure ds (acc ++ [f d]) (fun d hd => hs d (List.mem_cons_of_mem _ hd)) (by simp; omega)]
      simp [List.filter_cons, hp]
theorem compL_map {vs : List Nat} {fg : D → Gm → Option Gm} {ft : Gm → Option (Bool × Gm)} {fe : Gm → Option (D × Gm)} {f : D → D} {Γ : Gm} (ds : List D)
    (hs : ∀ d ∈ ds, ∃ Γ1 Γ2 Γ3, fg d Γ = some Γ1 ∧ ft Γ1 = some (true, Γ2) ∧ fe Γ2 = some (f d, Γ3) ∧ wipeG Γ3 vs = Γ) (hl : ds.length ≤ 1000000) :
    compL vs fg ft fe ds [] Γ = some (ds.map f, Γ) := by
  have := compL_pure (vs := vs) (fg := fg) (ft := ft) (fe := fe) (p := fun _ => true) (f := f) (Γ := Γ) ds [] (fun d hd => by
    obtain ⟨Γ1, Γ2, Γ3, a, b, c, e⟩ := hs d hd
    exact ⟨Γ1, Γ2, a, b, fun h => by (cases h), fun _ => ⟨Γ3, c, e⟩⟩) (by simpa using hl)
  simpa [List.filter_eq_self.2] using this
theorem evSs_app (F : Nat → Fn) (Ld : Nat → Bool) (W : Nat) : ∀ (a b : List S) (Γ Γ1 : Gm), evSs F Ld W a Γ = some (.nx, Γ1) → evSs F Ld W (a ++ b) Γ = evSs F Ld W b Γ1
  | [], b, Γ, Γ1, h => by
    simp only [evSs, Option.some.injEq, Prod.mk.injEq, true_and] at h
    rw [h]
    rfl
  | s :: a, b, Γ, Γ1, h => by
    simp only [evSs, List.cons_append] at h ⊢
    cases hs : evS F Ld W s Γ with
    | none => rw [hs] at h; cases h
    | some p =>
      obtain ⟨fl, Γ2⟩ := p
      rw [hs] at h
      cases fl <;> simp only [Option.some.injEq, Prod.mk.injEq, reduceCtorEq, false_and] at h ⊢
      exact evSs_app F Ld W a b Γ2 Γ1 h
theorem runF_rt {F : Nat → Fn} {Ld : Nat → Bool} {W : Nat} {f : Fd} {as : List Sl} {Γ0 Γ : Gm} {r : Rs} (hl : as.length = f.np) (h0 : as ++ List.replicate (f.ns - f.np) .no = Γ0) (h : evSs F Ld W f.body Γ0 = some (.rt r, Γ)) : runF F Ld W f as = some (r, ioOut as Γ) := by
  simp only [runF]
  rw [if_pos hl, h0, h]
theorem evSs_cut (F : Nat → Fn) (Ld : Nat → Bool) (W : Nat) (n : Nat) (a : List S) (Γ Γ1 : Gm) (h : evSs F Ld W (a.take n) Γ = some (.nx, Γ1)) : evSs F Ld W a Γ = evSs F Ld W (a.drop n) Γ1 := by
  have := evSs_app F Ld W (a.take n) (a.drop n) Γ Γ1 h
  rwa [List.take_append_drop] at this
/-- a for-loop whose body always goes on -/
theorem forL_inv {g : D → Gm → Option Gm} {b : Gm → Option (Fl × Gm)} {P : Nat → Gm → Prop} : ∀ (ds : List D) (i : Nat) (Γ : Gm),
    (∀ d ∈ ds, ∀ i Γ, P i Γ → ∃ Γ1 Γ2, g d Γ = some Γ1 ∧ b Γ1 = some (.nx, Γ2) ∧ P (i + 1) Γ2) → P i Γ → ∃ Γe, forL g b ds Γ = some (.nx, Γe) ∧ P (i + ds.length) Γe
  | [], i, Γ, _, h => ⟨Γ, rfl, h⟩
  | d :: ds, i, Γ, hs, h => by
    obtain ⟨Γ1, Γ2, e1, e2, h'⟩ := hs d List.mem_cons_self i Γ h
    obtain ⟨Γe, q1, q2⟩ := forL_inv ds (i + 1) Γ2 (fun d hd => hs d (List.mem_cons_of_mem _ hd)) h'
    refine ⟨Γe, ?_, by rw [List.length_cons, show i + (ds.length + 1) = i + 1 + ds.length by omega]; exact q2⟩
    simp only [forL, e1, e2]
    exact q1
theorem forL_invL {g : D → Gm → Option Gm} {b : Gm → Option (Fl × Gm)} {P : Nat → Gm → Prop} {L : Nat} : ∀ (ds : List D) (i : Nat) (Γ : Gm),
    (∀ d ∈ ds, ∀ i Γ, P i Γ → i < L → ∃ Γ1 Γ2, g d Γ = some Γ1 ∧ b Γ1 = some (.nx, Γ2) ∧ P (i + 1) Γ2) → P i Γ → i + ds.length ≤ L → ∃ Γe, forL g b ds Γ = some (.nx, Γe) ∧ P (i + ds.length) Γe
  | [], i, Γ, _, h, _ => ⟨Γ, rfl, h⟩
  | d :: ds, i, Γ, hs, h, hl => by
    rw [List.length_cons] at hl
    obtain ⟨Γ1, Γ2, e1, e2, h'⟩ := hs d List.mem_cons_self i Γ h (by omega)
    obtain ⟨Γe, q1, q2⟩ := forL_invL ds (i + 1) Γ2 (fun d hd => hs d (List.mem_cons_of_mem _ hd)) h' (by omega)
    refine ⟨Γe, ?_, by rw [List.length_cons, show i + (ds.length + 1) = i + 1 + ds.length by omega]; exact q2⟩
    simp only [forL, e1, e2]
    exact q1
theorem nodup_le {α : Type} [DecidableEq α] : ∀ (l m : List α), l.Nodup → (∀ x ∈ l, x ∈ m) → l.length ≤ m.length
  | [], m, _, _ => Nat.zero_le _
  | a :: l, m, hn, h => by
    rw [List.nodup_cons] at hn
    have ha := h a List.mem_cons_self
    have := nodup_le l (m.erase a) hn.2 fun x hx => (List.mem_erase_of_ne (fun e => hn.1 (by rw [← e]; exact hx))).2 (h x (List.mem_cons_of_mem _ hx))
    rw [List.length_erase_of_mem ha] at this
    have : 0 < m.length := List.length_pos_of_mem ha
    simp only [List.length_cons]
    omega
/-! the box and what is taken from it -/
def Bx (c : Int) (b : D) : Prop := ∃ x0 x1 x2, b = .lst [.int x0, .int x1, .int x2] ∧ 0 ≤ x1 ∧ x1 < 2 ^ 40 ∧ 0 ≤ x2 ∧ x2 ≤ c
theorem Bx.mono {c c' : Int} {b : D} (h : Bx c b) (hc : c ≤ c') : Bx c' b := by
  obtain ⟨x0, x1, x2, e, h1, h2, h3, h4⟩ := h
  exact ⟨x0, x1, x2, e, h1, h2, h3, Int.le_trans h4 hc⟩
def irTake : List S := [
    .iff (.val (.cmp .gt (.ix (.var 0) (.cst (.int (0)))) (.cst (.int (0))))) [.set 2 (.bin .mod (.ix (.var 0) (.cst (.int (0)))) (.var 1)), .ixs (.var 0) (.cst (.int (0))) (.bin .fdiv (.ix (.var 0) (.cst (.int (0)))) (.var 1)), .ret (some (.var 2))] [],
    .ixs (.var 0) (.cst (.int (2))) (.bin .add (.ix (.var 0) (.cst (.int (2)))) (.cst (.int (1)))),
    .set 3 (.bin .mod (.bin .pow (.bin .add (.ix (.var 0) (.cst (.int (1)))) (.bin .mul (.cst (.int (39373))) (.ix (.var 0) (.cst (.int (2)))))) (.cst (.int (5)))) (.cst (.int (2147483647)))),
    .ret (some (.bin .mod (.bin .fdiv (.bin .mod (.bin .add (.bin .mul (.var 3) (.bin .add (.bin .mod (.var 3) (.cst (.int (40009)))) (.cst (.int (7))))) (.bin .mul (.ix (.var 0) (.cst (.int (2)))) (.cst (.int (7919))))) (.cst (.int (2147483629)))) (.cst (.int (64)))) (.var 1)))]
def TakeFn (f : Fn) : Prop := ∀ (c k : Int) (b : D), Bx c b → c ≤ 1000000 → 0 < k → k < 1000000000000 → ∃ r b', f [.io b, .sh (.int k)] = some (.val (.int r), some b') ∧ 0 ≤ r ∧ r < k ∧ Bx (c + 1) b'
theorem fitsR {j : Int} (h0 : -1000000000000000000 ≤ j) (h1 : j ≤ 1000000000000000000) : fits64 j = true := by
  simp only [fits64, Bool.and_eq_true, decide_eq_true_eq]
  omega
theorem take_fn (F : Nat → Fn) (Ld : Nat → Bool) (W : Nat) : TakeFn (runF F Ld W ⟨2, 4, irTake⟩) := by
  intro c k b hb hc h0 hk
  obtain ⟨x0, x1, x2, rfl, h1, h2, h3, h4⟩ := hb
  have f1 : fits64 (x1 + 39373 * (x2 + 1)) = true := fitsR (by omega) (by omega)
  have g : ∀ a : Int, 0 ≤ a % k ∧ a % k < k := fun a => ⟨Int.emod_nonneg _ (by omega), Int.emod_lt_of_pos _ h0⟩
  by_cases hx : 0 < x0
  · refine ⟨x0 % k, .lst [.int (x0 / k), .int x1, .int x2], ?_, (g _).1, (g _).2, _, _, _, rfl, h1, h2, h3, by omega⟩
    have hkk : 0 < k ∧ k < 9223372036854775808 := by omega
    simp [runF, irTake, evSs, evS, evE, evEs, evT, readR, takeR, Sv.bound, settleR, bindR, mayBind, slOf, ownAt, setOwn, ixD, atI, ixN, cmpD, binD, hx, h0, hkk, ioOut]
  · have f2 : fits64 ((x1 + 39373 * (x2 + 1)) ^ 5 % 2147483647) = true := by
      have a1 := Int.emod_nonneg ((x1 + 39373 * (x2 + 1)) ^ 5) (show (2147483647 : Int) ≠ 0 by decide)
      have a2 := Int.emod_lt_of_pos ((x1 + 39373 * (x2 + 1)) ^ 5) (show (0 : Int) < 2147483647 by decide)
      exact fitsR (by omega) (by omega)
    have f3 : ∀ j : Int, (fits64 j || fits64 7919) = true := fun j => by rw [show fits64 7919 = true by decide, Bool.or_true]
    have f4 : ∀ j : Int, (fits64 39373 || fits64 j) = true := fun j => by rw [show fits64 39373 = true by decide, Bool.true_or]
    refine ⟨(((x1 + 39373 * (x2 + 1)) ^ 5 % 2147483647 * ((x1 + 39373 * (x2 + 1)) ^ 5 % 2147483647 % 40009 + 7) + (x2 + 1) * 7919) % 2147483629 / 64) % k, .lst [.int x0, .int x1, .int (x2 + 1)], ?_, (g _).1, (g _).2, _, _, _, rfl, h1, h2, by omega, by omega⟩
    simp [runF, irTake, evSs, evS, evE, evEs, evT, readR, takeR, Sv.bound, settleR, bindR, mayBind, slOf, ownAt, setOwn, ixD, atI, ixN, cmpD, binD, hx, h0, f1, f2, f3, f4, ioOut, -Bool.or_eq_true]
def irBox : List S := [
    .set 2 (.cst (.int (0))),
    .iff (.val (.cmp .lt (.var 1) (.bi .len [(.var 0)]))) [.set 2 (.ix (.var 0) (.var 1))] [],
    .ret (some (.lst [(.bin .mul (.bi .abs [(.var 2)]) (.bi .int [(.cmp .ge (.bi .abs [(.var 2)]) (.bin .pow (.cst (.int (10))) (.cst (.int (18)))))])), (.bin .add (.bin .add (.bin .mod (.var 2) (.cst (.int (2147483629)))) (.bin .mul (.cst (.int (7919))) (.var 1))) (.cst (.int (11)))), (.cst (.int (0)))]))]
def BoxFn (f : Fn) : Prop := ∀ (ns : List Int) (k : Int), 0 ≤ k → k ≤ 1000 → ∃ b, f [.sh (.scr ns), .sh (.int k)] = some (.new b, none) ∧ Bx 0 b
theorem box_fn (F : Nat → Fn) (Ld : Nat → Bool) (W : Nat) : BoxFn (runF F Ld W ⟨2, 3, irBox⟩) := by
  intro ns k h0 hk
  have f4 : (fits64 7919 || fits64 k) = true := by rw [show fits64 7919 = true by decide, Bool.true_or]
  have f5 : fits64 10 = true := by decide
  have key : ∀ x : Int, ∃ b, Bx 0 b ∧ evSs F Ld W (irBox.drop 2) [.sh (.scr ns), .sh (.int k), .sh (.int x)] = some (.rt (.new b), [.sh (.scr ns), .sh (.int k), .sh (.int x)]) := by
    intro x
    have a1 := Int.emod_nonneg x (show (2147483629 : Int) ≠ 0 by decide)
    have a2 := Int.emod_lt_of_pos x (show (0 : Int) < 2147483629 by decide)
    have f6 : ∀ (j : Int) (q : Prop) [Decidable q], (fits64 j || fits64 (if q then 1 else 0)) = true := fun j q _ => by
      by_cases h : q <;> simp only [h, if_true, if_false] <;> rw [Bool.or_eq_true] <;> exact .inr (by decide)
    refine ⟨.lst [.int ((if x < 0 then -x else x) * (if decide ((10 : Int) ^ 18 ≤ if x < 0 then -x else x) = true then 1 else 0)), .int (x % 2147483629 + 7919 * k + 11), .int 0], ⟨_, _, _, rfl, by omega, by omega, by omega, by omega⟩, ?_⟩
    simp [irBox, evSs, evS, evE, evEs, evT, readR, readRs, takeR, takeRs, Sv.bound, cmpD, binD, biD, f4, f5, f6, lim, -Bool.or_eq_true]
  have hf : irBox = irBox.take 2 ++ irBox.drop 2 := rfl
  have go : ∀ x : Int, evSs F Ld W (irBox.take 2) [.sh (.scr ns), .sh (.int k), .no] = some (.nx, [.sh (.scr ns), .sh (.int k), .sh (.int x)]) → ∃ b, runF F Ld W ⟨2, 3, irBox⟩ [.sh (.scr ns), .sh (.int k)] = some (.new b, none) ∧ Bx 0 b := by
    intro x hx
    obtain ⟨b, q1, q2⟩ := key x
    refine ⟨b, ?_, q1⟩
    exact runF_rt (f := ⟨2, 3, irBox⟩) (as := [.sh (.scr ns), .sh (.int k)]) rfl rfl ((evSs_cut F Ld W 2 irBox _ _ hx).trans q2)
  by_cases hlt : k < (ns.length : Int)
  · have hi : k.toNat < ns.length := by omega
    refine go ns[k.toNat] ?_
    simp [irBox, evSs, evS, evE, evEs, evT, readR, readRs, takeR, takeRs, Sv.bound, settleR, bindR, mayBind, slOf, cmpD, biD, ixD, atI, ixN, hlt, h0, hi]
  · refine go 0 ?_
    simp [irBox, evSs, evS, evE, evEs, evT, readR, readRs, takeR, takeRs, Sv.bound, settleR, bindR, mayBind, slOf, cmpD, biD, hlt]
end Sv

namespace Sv
open PySem PySem.Spec PyProof.Rows L2
mutual
def pl : D → Bool
  | .non => true
  | .bl _ => true
  | .int _ => true
  | .str _ => true
  | .tup ds => decide (ds.length ≤ 1000000) && pls ds
  | .lst ds => decide (ds.length ≤ 1000000) && pls ds
  | _ => false
def pls : List D → Bool
  | [] => true
  | d :: ds => pl d && pls ds
end
theorem pls_mem : ∀ {ds : List D} {d : D}, pls ds = true → d ∈ ds → pl d = true
  | e :: ds, d, h, hm => by
    simp only [pls, Bool.and_eq_true] at h
    rcases List.mem_cons.1 hm with rfl | hm
    · exact h.1
    · exact pls_mem h.2 hm
theorem depL_mem : ∀ {ds : List D} {d : D}, d ∈ ds → dep d ≤ depL ds
  | e :: ds, d, hm => by
    simp only [depL]
    rcases List.mem_cons.1 hm with rfl | hm
    · omega
    · have := depL_mem hm; omega
theorem ev_comp {F : Nat → Fn} {Ld : Nat → Bool} {e : E} {t : Tg} {it : I} {cs : List T} {vs : List Nat} {Γ Γ1 Γe : Gm} {ds out : List D} (h1 : evI F Ld it Γ = some (ds, Γ1)) (h2 : notIo Γ1 vs = true) (h3 : compL vs (bindT t) (evCs F Ld cs) (fun Γ => match evE F Ld e Γ with
          | none => none
          | some (r, Γ') => takeR r Γ') ds [] (wipeG Γ1 vs) = some (out, Γe)) : evE F Ld (.comp e t it cs vs) Γ = some (.new (.lst out), restore Γ1 Γe vs) := by
  simp only [evE, h1, h2, if_true]
  split
  · next h => cases h3.symm.trans h
  · next h => cases h3.symm.trans h; rfl
theorem ev_for {F : Nat → Fn} {Ld : Nat → Bool} {W : Nat} {t : Tg} {it : I} {b : List S} {Γ Γ1 : Gm} {ds : List D} {q : Option (Fl × Gm)} (h1 : evI F Ld it Γ = some (ds, Γ1)) (h2 : forL (bindT t) (evSs F Ld W b) ds Γ1 = q) : evS F Ld W (.frr t it b) Γ = q := by
  simp only [evS, h1, h2]
def SameAt (f : Fn) (m : Nat) : Prop := ∀ d, pl d = true → dep d < m → f [.sh d, .sh d] = some (.val (.bl true), none)
def irSame (s : Nat) : List S := [
    .iff (.val (.isi (.var 1) [.list, .tuple])) [.iff (.orr (.val (.cmp .ne (.isi (.var 0) [.list]) (.isi (.var 1) [.list]))) (.val (.cmp .ne (.isi (.var 0) [.tuple]) (.isi (.var 1) [.tuple])))) [.ret (some (.cst (.bl false)))] [], .ret (some (.an (.cmp .eq (.bi .len [(.var 0)]) (.bi .len [(.var 1)])) (.bi .all [(.comp (.call s [(.var 2), (.var 3)]) (.tp [(.nm 2), (.nm 3)]) (.zip (.var 0) (.var 1)) [] [2, 3])])))] [],
    .iff (.orr (.val (.cmp .is (.var 1) (.cst .non))) (.val (.isi (.var 1) [.str]))) [.ret (some (.an (.cmp .eq (.var 0) (.var 1)) (.cmp .eq (.isi (.var 0) [.str]) (.isi (.var 1) [.str]))))] [],
    .ret (some (.an (.isi (.var 0) [.int]) (.an (.cmp .eq (.isi (.var 0) [.bool]) (.isi (.var 1) [.bool])) (.cmp .eq (.var 0) (.var 1)))))]
theorem zip_self (ds : List D) : zipD ds ds = ds.map fun d => .tup [d, d] := by
  unfold zipD
  rw [List.zip_eq_zipWith, List.map_zipWith, List.zipWith_self]
theorem bools_true (ds : List D) : boolsOf (ds.map fun _ => D.bl true) = some (ds.map fun _ => true) := by
  induction ds with
  | nil => rfl
  | cons d ds ih => simp [boolsOf, ih]
theorem same_fn (F : Nat → Fn) (Ld : Nat → Bool) (W s m : Nat) (hs : SameAt (F s) m) (hl : Ld s = false) : SameAt (runF F Ld W ⟨2, 4, irSame s⟩) (m + 1) := by
  intro d hp hd
  have seq : ∀ (ds : List D) (x : D), ds.length ≤ 1000000 → pls ds = true → depL ds < m → compL [2, 3] (bindT (.tp [.nm 2, .nm 3])) (evCs F Ld []) (fun Γ => match evE F Ld (.call s [(.var 2), (.var 3)]) Γ with
          | none => none
          | some (r, Γ') => takeR r Γ') (zipD ds ds) [] [.sh x, .sh x, .no, .no] = some (ds.map fun _ => .bl true, [.sh x, .sh x, .no, .no]) := by
    intro ds x h1 h2 h3
    rw [zip_self, compL_map (f := fun _ => .bl true)]
    · simp
    · intro e he
      obtain ⟨d, hm, rfl⟩ := List.mem_map.1 he
      refine ⟨[.sh x, .sh x, .sh d, .sh d], [.sh x, .sh x, .sh d, .sh d], [.sh x, .sh x, .sh d, .sh d], ?_, rfl, ?_, rfl⟩
      · simp [bindT, bindTs, bindR, mayBind, slOf]
      · simp [evE, evEs, Sv.bound, callE, hl, takeRs, takeR, hs d (pls_mem h2 hm) (Nat.lt_of_le_of_lt (depL_mem hm) h3), notSlot]
    · simpa using h1
  have cmp : ∀ (ds : List D) (x : D), bothSeq x x = some (ds, ds) → ds.length ≤ 1000000 → pls ds = true → depL ds < m → evE F Ld (.comp (.call s [(.var 2), (.var 3)]) (.tp [(.nm 2), (.nm 3)]) (.zip (.var 0) (.var 1)) [] [2, 3]) [.sh x, .sh x, .no, .no] = some (.new (.lst (ds.map fun _ => .bl true)), [.sh x, .sh x, .no, .no]) := by
    intro ds x hb h1 h2 h3
    exact ev_comp (ds := zipD ds ds) (Γ1 := [.sh x, .sh x, .no, .no]) (by simp [evI, evE, Sv.bound, takeRs, takeR, hb]) rfl (seq ds x h1 h2 h3)
  cases d with
  | non => simp [runF, irSame, evSs, evS, evE, evEs, evT, readR, takeR, Sv.bound, isiD, isi1, noT, cmpD, isNon, dep, eqD, ioOut]
  | bl b => simp [runF, irSame, evSs, evS, evE, evEs, evT, readR, takeR, Sv.bound, isiD, isi1, noT, cmpD, isNon, dep, eqD, ioOut]
  | int b => simp [runF, irSame, evSs, evS, evE, evEs, evT, readR, takeR, Sv.bound, isiD, isi1, noT, cmpD, isNon, dep, eqD, ioOut]
  | str b => simp [runF, irSame, evSs, evS, evE, evEs, evT, readR, takeR, Sv.bound, isiD, isi1, noT, cmpD, isNon, dep, eqD, ioOut]
  | tup ds =>
    simp only [pl, Bool.and_eq_true, decide_eq_true_eq] at hp
    simp only [dep] at hd
    have h1 := cmp ds (.tup ds) rfl hp.1 hp.2 (by omega)
    have h2 := bools_true ds
    simp [runF, irSame, evSs, evS, evE, evEs, evT, ↓h1, h2, readR, readRs, Sv.bound, isiD, isi1, noT, cmpD, dep, eqD, ioOut, biD]
  | lst ds =>
    simp only [pl, Bool.and_eq_true, decide_eq_true_eq] at hp
    simp only [dep] at hd
    have h1 := cmp ds (.lst ds) rfl hp.1 hp.2 (by omega)
    have h2 := bools_true ds
    simp [runF, irSame, evSs, evS, evE, evEs, evT, ↓h1, h2, readR, readRs, Sv.bound, isiD, isi1, noT, cmpD, dep, eqD, ioOut, biD]
  | _ => cases hp
theorem Prg.ft {p : Prg} {W n i : Nat} {d : DefI} (h : p.defs[i]? = some d) : p.FT W (n + 1) i = runF (p.FT W n) p.ld W ⟨d.ps.length, d.N.length, d.ir⟩ := by
  simp only [Prg.FT]
  rw [h]
end Sv

namespace Sv
open PySem PySem.Spec PyProof.Rows L2
def abc : Str := ("abcdefghijklmnopqrstuvwxyz" : Str)
theorem abc_cps : abc.cps.toList = (List.range 26).map fun (k : Nat) => 97 + k := by decide +kernel
def isL (c : Nat) : Prop := 97 ≤ c ∧ c ≤ 122
def chD (c : Nat) : D := .str ⟨#[c]⟩
theorem abc_at {r : Int} (h0 : 0 ≤ r) (h1 : r < 26) : ∃ c, isL c ∧ ixD (.str abc) (.int r) = some (chD c) := by
  refine ⟨97 + r.toNat, ⟨by omega, by omega⟩, ?_⟩
  have hl : abc.length ≤ lim := by decide +kernel
  have e : atI abc.cps.toList r = some (97 + r.toNat) := by
    rw [abc_cps]
    unfold atI
    have : ixN ((List.range 26).map fun (k : Nat) => 97 + k).length r = some r.toNat := by
      unfold ixN
      simp [h0, h1]
    rw [this]
    have lt : r.toNat < 26 := by omega
    simp [lt]
  simp only [ixD, hl, if_true, e]
  rfl
theorem strs_ch (cs : List Nat) : strsOf (cs.map chD) = some (cs.map fun c => (⟨#[c]⟩ : Str)) := by
  induction cs with
  | nil => rfl
  | cons c cs ih => simp [strsOf, chD, ih]
theorem join_ch : ∀ (cs : List Nat), Str.join Str.empty (cs.map fun c => (⟨#[c]⟩ : Str)) = ⟨cs.toArray⟩
  | [] => rfl
  | [c] => rfl
  | c :: d :: cs => by
    have := join_ch (d :: cs)
    simp only [List.map_cons] at this ⊢
    unfold Str.join
    rw [this]
    show (⟨(#[c] ++ #[]) ++ (d :: cs).toArray⟩ : Str) = _
    simp
theorem joinD_ch (cs : List Nat) (h : cs.length ≤ 1000) : joinD Str.empty (.lst (cs.map chD)) = some ⟨cs.toArray⟩ := by
  simp only [joinD, strs_ch]
  rw [if_pos, join_ch]
  have : ((cs.map fun c => (⟨#[c]⟩ : Str)).map (·.length)).sum = cs.length := by
    clear h
    induction cs with
    | nil => rfl
    | cons c cs ih => simp only [List.map_cons, List.sum_cons, ih, List.length_cons]; show 1 + _ = _; omega
  rw [this]
  show cs.length + _ * 0 ≤ 1000000
  omega
def okS (s : Sl) : Prop := s = .no ∨ ∃ d, s = .sh d
def comp1 (tk : Nat) : E := .comp (.ix (.var 2) (.call tk [(.var 0), (.cst (.int (26)))])) (.nm 6) (.rng [(.ix (.lst [(.cst (.int (1))), (.cst (.int (1))), (.cst (.int (2))), (.cst (.int (6)))]) (.call tk [(.var 0), (.cst (.int (4)))]))]) [] [6]
def comp3 : E := .comp (.bin .add (.sl (.var 5) none (some (.cst (.int (5))))) (.var 8)) (.nm 8) (.seq (.var 2)) [] [8]
def comp2 : E := .comp (.var 7) (.nm 7) (.seq (.bin .add (.lst [(.var 5)]) comp3)) [(.val (.cmp .nin (.var 7) (.var 3)))] [7]
def bodyN (tk : Nat) : List S := [.set 5 (.jn (.cst (.str ("" : Str))) (comp1 tk)), .ex (.app (.var 3) (.ix comp2 (.cst (.int (0)))))]
def irNames (tk : Nat) : List S := [
    .par [2, 3] [(.cst (.str ("abcdefghijklmnopqrstuvwxyz" : Str))), (.lst [])],
    .frr (.nm 4) (.rng [(.var 1)]) (bodyN tk),
    .ret (some (.var 3))]
section
variable {F : Nat → Fn} {Ld : Nat → Bool} {W tk : Nat}
theorem comp1_ok (ht : TakeFn (F tk)) (hl : Ld tk = true) {b : D} {c : Int} {m s3 s4 s5 s7 s8 : Sl} (hb : Bx c b) (hc : c ≤ 900000) :
    ∃ (cs : List Nat) (b' : D), evE F Ld (comp1 tk) [.io b, m, .sh (.str abc), s3, s4, s5, .no, s7, s8] = some (.new (.lst (cs.map chD)), [.io b', m, .sh (.str abc), s3, s4, s5, .no, s7, s8]) ∧ Bx (c + 7) b' ∧ 1 ≤ cs.length ∧ cs.length ≤ 6 ∧ ∀ c ∈ cs, isL c := by
  obtain ⟨r, b1, e1, r0, r1, hb1⟩ := ht c 4 b hb (by omega) (by decide) (by decide)
  have hq : ∃ q : Int, ixD (.lst [.int 1, .int 1, .int 2, .int 6]) (.int r) = some (.int q) ∧ 1 ≤ q ∧ q ≤ 6 := by
    have : r = 0 ∨ r = 1 ∨ r = 2 ∨ r = 3 := by omega
    rcases this with rfl | rfl | rfl | rfl
    · exact ⟨1, rfl, by decide, by decide⟩
    · exact ⟨1, rfl, by decide, by decide⟩
    · exact ⟨2, rfl, by decide, by decide⟩
    · exact ⟨6, rfl, by decide, by decide⟩
  obtain ⟨q, eq, q1, q2⟩ := hq
  have hI : evI F Ld (.rng [(.ix (.lst [(.cst (.int (1))), (.cst (.int (1))), (.cst (.int (2))), (.cst (.int (6)))]) (.call tk [(.var 0), (.cst (.int (4)))]))]) [.io b, m, .sh (.str abc), s3, s4, s5, .no, s7, s8] = some (rangeD 0 q.toNat, [.io b1, m, .sh (.str abc), s3, s4, s5, .no, s7, s8]) := by
    have sm : small62 q = true := by simp only [small62, Bool.and_eq_true, decide_eq_true_eq]; omega
    simp [evI, evEs, evE, takeRs, takeR, lim, callE, Sv.bound, hl, ownAt, e1, notSlot, setOwn, readR, eq, readRs, rngD, sm]
  have step : ∀ d ∈ rangeD 0 q.toNat, ∀ (acc : List D) (Γ : Gm), (∃ (b : D) (cs : List Nat), Γ = [.io b, m, .sh (.str abc), s3, s4, s5, .no, s7, s8] ∧ acc = cs.map chD ∧ Bx (c + 1 + acc.length) b ∧ ∀ c ∈ cs, isL c) → acc.length < q.toNat → ∃ Γ1 Γ2 e Γ3, bindT (.nm 6) d Γ = some Γ1 ∧ evCs F Ld [] Γ1 = some (true, Γ2) ∧ (match evE F Ld (.ix (.var 2) (.call tk [(.var 0), (.cst (.int (26)))])) Γ2 with
          | none => none
          | some (r, Γ') => takeR r Γ') = some (e, Γ3) ∧ ∃ (b : D) (cs : List Nat), wipeG Γ3 [6] = [.io b, m, .sh (.str abc), s3, s4, s5, .no, s7, s8] ∧ acc ++ [e] = cs.map chD ∧ Bx (c + 1 + (acc ++ [e]).length) b ∧ ∀ c ∈ cs, isL c := by
    intro d hd acc Γ ⟨b, cs, eΓ, eo, hB, hC⟩ hlt
    obtain ⟨r', b', e', r0', r1', hB'⟩ := ht _ 26 b hB (by omega) (by decide) (by decide)
    obtain ⟨ch, hL, hch⟩ := abc_at r0' r1'
    refine ⟨_, _, chD ch, [.io b', m, .sh (.str abc), s3, s4, s5, .sh d, s7, s8], by rw [eΓ]; rfl, rfl, ?_, b', cs ++ [ch], rfl, by simp [eo], ?_, ?_⟩
    · simp [evE, evEs, Sv.bound, callE, hl, takeRs, takeR, ownAt, e', notSlot, setOwn, readR, hch]
    · refine hB'.mono ?_
      simp
      omega
    · intro x hx
      rcases List.mem_append.1 hx with hx | hx
      · exact hC x hx
      · rw [List.mem_singleton.1 hx]; exact hL
  obtain ⟨out, Γe, p1, ⟨b2, cs, eΓ, eo, hb2, hcs⟩, p3⟩ := compL_inv (L := q.toNat) (by omega) (rangeD 0 q.toNat) [] [.io b1, m, .sh (.str abc), s3, s4, s5, .no, s7, s8] step ⟨b1, [], rfl, rfl, by simpa using hb1, fun _ h => by cases h⟩ (by simp [rangeD])
  have hn : out.length = q.toNat := by rw [p3]; simp [rangeD]
  refine ⟨cs, b2, ?_, hb2.mono (by omega), ?_, ?_, hcs⟩
  · subst eΓ eo
    exact ev_comp (F := F) (Ld := Ld) hI (vs := [6]) rfl p1
  · rw [eo, List.length_map] at hn
    omega
  · rw [eo, List.length_map] at hn
    omega
end
end Sv

namespace Sv
open PySem PySem.Spec PyProof.Rows L2
def okN (s : Str) : Prop := 1 ≤ s.length ∧ s.length ≤ 6 ∧ ∀ c ∈ s.cps.toList, isL c
def cand (w : Str) (c : Nat) : Str := ⟨(w.cps.toList.take 5).toArray ++ #[c]⟩
def cands (w : Str) : List Str := w :: ((List.range 26).map fun (k : Nat) => 97 + k).map (cand w)
theorem cand_inj {w : Str} {c d : Nat} (h : cand w c = cand w d) : c = d := by
  unfold cand at h
  have := congrArg (fun s : Str => s.cps.toList) h
  simp at this
  exact this
theorem cands_ok {w : Str} (hw : okN w) : ∀ x ∈ cands w, okN x := by
  intro x hx
  rcases List.mem_cons.1 hx with rfl | hx
  · exact hw
  · obtain ⟨c, hc, rfl⟩ := List.mem_map.1 hx
    obtain ⟨k, hk, rfl⟩ := List.mem_map.1 hc
    have hk := List.mem_range.1 hk
    refine ⟨?_, ?_, fun d hd => ?_⟩
    · show 1 ≤ ((w.cps.toList.take 5).toArray ++ #[97 + k]).size
      simp
    · show ((w.cps.toList.take 5).toArray ++ #[97 + k]).size ≤ 6
      simp
      omega
    · have : d ∈ w.cps.toList.take 5 ∨ d = 97 + k := by simpa [cand] using hd
      rcases this with h | h
      · exact hw.2.2 d (List.mem_of_mem_take h)
      · subst h; exact ⟨by omega, by omega⟩
theorem cands_new (w : Str) (ss : List Str) (h : ss.length < 26) : ∃ x ∈ cands w, x ∉ ss := by
  apply Classical.byContradiction
  intro hn
  have hall : ∀ x ∈ cands w, x ∈ ss := fun x hx => Classical.byContradiction fun h => hn ⟨x, hx, h⟩
  have nd : ((List.range 26).map fun (k : Nat) => 97 + k).Nodup := by decide
  have nd2 : (((List.range 26).map fun (k : Nat) => 97 + k).map (cand w)).Nodup := by
    rw [List.nodup_iff_pairwise_ne, List.pairwise_map]
    exact (List.nodup_iff_pairwise_ne.1 nd).imp fun hne e => hne (cand_inj e)
  have := nodup_le _ ss nd2 fun x hx => hall x (List.mem_cons_of_mem _ hx)
  simp at this
  omega
section
variable {F : Nat → Fn} {Ld : Nat → Bool} {W tk : Nat}
theorem comp3_ok {w : Str} (hw : w.length ≤ 1000) {s0 s1 s3 s4 s6 s7 : Sl} : evE F Ld comp3 [s0, s1, .sh (.str abc), s3, s4, .sh (.str w), s6, s7, .no] = some (.new (.lst ((((List.range 26).map fun (k : Nat) => 97 + k).map (cand w)).map .str)), [s0, s1, .sh (.str abc), s3, s4, .sh (.str w), s6, s7, .no]) := by
  have hl : w.length ≤ lim := Nat.le_trans hw (by decide)
  have es : signs abc = ((List.range 26).map fun (k : Nat) => 97 + k).map chD := by
    unfold signs
    rw [abc_cps]
    rfl
  refine ev_comp (ds := signs abc) (Γ1 := [s0, s1, .sh (.str abc), s3, s4, .sh (.str w), s6, s7, .no]) (Γe := [s0, s1, .sh (.str abc), s3, s4, .sh (.str w), s6, s7, .no]) (by simp [evI, evE, Sv.bound, takeR, seqD]) rfl ?_
  have hm := compL_map (vs := [8]) (fg := bindT (.nm 8)) (ft := evCs F Ld []) (fe := fun Γ => match evE F Ld (.bin .add (.sl (.var 5) none (some (.cst (.int (5))))) (.var 8)) Γ with
          | none => none
          | some (r, Γ') => takeR r Γ') (f := fun d => match d with | .str x => .str (⟨(w.cps.toList.take 5).toArray⟩ ++ x) | d => d) (Γ := [s0, s1, .sh (.str abc), s3, s4, .sh (.str w), s6, s7, .no]) (signs abc) ?_ (by rw [es]; simp)
  · refine hm.trans ?_
    rw [es, List.map_map, List.map_map]
    rfl
  · intro d hd
    rw [es] at hd
    obtain ⟨c, hc, rfl⟩ := List.mem_map.1 hd
    refine ⟨[s0, s1, .sh (.str abc), s3, s4, .sh (.str w), s6, s7, .sh (chD c)], [s0, s1, .sh (.str abc), s3, s4, .sh (.str w), s6, s7, .sh (chD c)], [s0, s1, .sh (.str abc), s3, s4, .sh (.str w), s6, s7, .sh (chD c)], rfl, rfl, ?_, rfl⟩
    have hc1 : cutD w.cps.toList none (some 5) = w.cps.toList.take 5 := by
      unfold cutD
      show (w.cps.toList.drop 0).take (min 5 w.cps.toList.length - 0) = _
      rw [List.drop_zero, Nat.sub_zero, List.take_eq_take_min]
      simp
    have h2 : (⟨(w.cps.toList.take 5).toArray⟩ : Str).length + (⟨#[c]⟩ : Str).length ≤ lim := by
      show (w.cps.toList.take 5).toArray.size + 1 ≤ 1000000
      simp
      omega
    simp [evE, evO, Sv.bound, readR, slD, hl, hc1, chD, binD, h2, takeR]
theorem dep_strs (ss : List Str) : dep (.lst (ss.map .str)) ≤ 64 := by
  have : depL (ss.map .str) = 0 := by
    induction ss with
    | nil => rfl
    | cons s ss ih => simp [depL, dep, ih]
  simp [dep, this]
theorem inD_strs (x : Str) (ss : List Str) : inD (.str x) (ss.map .str) = decide (x ∈ ss) := by
  induction ss with
  | nil => rfl
  | cons s ss ih =>
    unfold inD at ih ⊢
    rw [List.map_cons, List.any_cons, ih]
    simp only [eqD, List.mem_cons]
    by_cases h : s = x
    · simp [h]
    · simp [h, Ne.symm h, show ¬ x = s from fun e => h e.symm]
theorem comp2_ok {w : Str} {ss : List Str} (hw : w.length ≤ 1000) {s0 s1 s4 s6 : Sl} : evE F Ld comp2 [s0, s1, .sh (.str abc), .ow (.lst (ss.map .str)), s4, .sh (.str w), s6, .no, .no] = some (.new (.lst (((cands w).filter fun x => decide (x ∉ ss)).map .str)), [s0, s1, .sh (.str abc), .ow (.lst (ss.map .str)), s4, .sh (.str w), s6, .no, .no]) := by
  have h3 := comp3_ok (F := F) (Ld := Ld) hw (s0 := s0) (s1 := s1) (s3 := .ow (.lst (ss.map .str))) (s4 := s4) (s6 := s6) (s7 := .no)
  refine ev_comp (ds := (cands w).map .str) (Γ1 := [s0, s1, .sh (.str abc), .ow (.lst (ss.map .str)), s4, .sh (.str w), s6, .no, .no]) (Γe := [s0, s1, .sh (.str abc), .ow (.lst (ss.map .str)), s4, .sh (.str w), s6, .no, .no]) ?_ rfl ?_
  · simp [evI, evE, evEs, ↓h3, Sv.bound, takeR, takeRs, lim, readR, binD, seqD, cands]
  · have hm := compL_pure (vs := [7]) (fg := bindT (.nm 7)) (ft := evCs F Ld [(.val (.cmp .nin (.var 7) (.var 3)))]) (fe := fun Γ => match evE F Ld (.var 7) Γ with
          | none => none
          | some (r, Γ') => takeR r Γ') (p := fun d => !inD d (ss.map .str)) (f := id) (Γ := [s0, s1, .sh (.str abc), .ow (.lst (ss.map .str)), s4, .sh (.str w), s6, .no, .no]) ((cands w).map .str) [] ?_ (by simp [cands])
    · refine hm.trans ?_
      rw [List.nil_append, List.map_id, List.filter_map]
      congr 5
      funext x
      simp [inD_strs]
    · intro d hd
      obtain ⟨x, hx, rfl⟩ := List.mem_map.1 hd
      have hd := dep_strs ss
      refine ⟨[s0, s1, .sh (.str abc), .ow (.lst (ss.map .str)), s4, .sh (.str w), s6, .sh (.str x), .no], [s0, s1, .sh (.str abc), .ow (.lst (ss.map .str)), s4, .sh (.str w), s6, .sh (.str x), .no], rfl, ?_, fun _ => rfl, fun _ => ⟨[s0, s1, .sh (.str abc), .ow (.lst (ss.map .str)), s4, .sh (.str w), s6, .sh (.str x), .no], ?_, rfl⟩⟩
      · have hx0 : dep (.str x) ≤ 64 := by simp [dep]
        simp [evCs, evT, evE, Sv.bound, readR, cmpD, memD, hx0, hd]
        cases inD (.str x) (ss.map .str) <;> rfl
      · simp [evE, Sv.bound, takeR]
theorem step_ok (ht : TakeFn (F tk)) (hl : Ld tk = true) {b : D} {c : Int} {m s5 : Sl} {d : D} {ss : List Str} (hb : Bx c b) (hc : c ≤ 900000) (h5 : okS s5) (hs : ss.length < 26) :
    ∃ b' w x, evSs F Ld W (bodyN tk) [.io b, m, .sh (.str abc), .ow (.lst (ss.map .str)), .sh d, s5, .no, .no, .no] = some (.nx, [.io b', m, .sh (.str abc), .ow (.lst ((ss ++ [x]).map .str)), .sh d, .sh w, .no, .no, .no]) ∧ Bx (c + 7) b' ∧ x ∉ ss ∧ okN x := by
  obtain ⟨cs, b', e1, hb', l1, l2, hL⟩ := comp1_ok (F := F) (Ld := Ld) ht hl (m := m) (s3 := .ow (.lst (ss.map .str))) (s4 := .sh d) (s5 := s5) (s7 := .no) (s8 := .no) hb hc
  have hw : okN ⟨cs.toArray⟩ := ⟨by show 1 ≤ cs.toArray.size; simpa using l1, by show cs.toArray.size ≤ 6; simpa using l2, by simpa using hL⟩
  have hj := joinD_ch cs (by omega)
  have e2 := comp2_ok (F := F) (Ld := Ld) (w := ⟨cs.toArray⟩) (ss := ss) (by have := hw.2.1; omega) (s0 := .io b') (s1 := m) (s4 := .sh d) (s6 := .no)
  obtain ⟨y, hy, hyn⟩ := cands_new ⟨cs.toArray⟩ ss hs
  have hne : ∃ x r, ((cands ⟨cs.toArray⟩).filter fun x => decide (x ∉ ss)) = x :: r := by
    cases hf : ((cands ⟨cs.toArray⟩).filter fun x => decide (x ∉ ss)) with
    | nil =>
      have : y ∈ ((cands ⟨cs.toArray⟩).filter fun x => decide (x ∉ ss)) := List.mem_filter.2 ⟨hy, by simpa using hyn⟩
      rw [hf] at this
      cases this
    | cons x r => exact ⟨x, r, rfl⟩
  obtain ⟨x, r, hx⟩ := hne
  have hxm : x ∈ ((cands ⟨cs.toArray⟩).filter fun x => decide (x ∉ ss)) := by rw [hx]; exact List.mem_cons_self
  have hxm := List.mem_filter.1 hxm
  refine ⟨b', .str ⟨cs.toArray⟩, x, ?_, hb', by simpa using hxm.2, cands_ok hw x hxm.1⟩
  rw [hx] at e2
  have hb5 : mayBind [.io b', m, .sh (.str abc), .ow (.lst (ss.map .str)), .sh d, s5, .no, .no, .no] 5 = true := by
    rcases h5 with rfl | ⟨d, rfl⟩ <;> rfl
  have hs2 : ss.length < 1000000 := by omega
  have he : ("" : Str) = Str.empty := rfl
  simp [bodyN, evSs, evS, evE, ↓e1, ↓e2, readR, he, hj, settleR, bindR, hb5, slOf, Sv.bound, ownAt, ixD, atI, ixN, takeR, hs2, setOwn]
end
end Sv

namespace Sv
open PySem PySem.Spec PyProof.Rows L2
def NamesFn (f : Fn) : Prop := ∀ (c : Int) (m : Nat) (b : D), Bx c b → c ≤ 800000 → m ≤ 25 → ∃ (ss : List Str) (b' : D), f [.io b, .sh (.int m)] = some (.new (.lst (ss.map .str)), some b') ∧ ss.length = m ∧ ss.Nodup ∧ (∀ s ∈ ss, okN s) ∧ Bx (c + 7 * m) b'
theorem rng_ev {F : Nat → Fn} {Ld : Nat → Bool} {q : Int} {Γ : Gm} {e : E} {r : Rs} {Γ1 : Gm} (h : evE F Ld e Γ = some (r, Γ1)) (hr : readR r Γ1 = some (.int q)) (sm : small62 q = true) : evI F Ld (.rng [e]) Γ = some (rangeD 0 q.toNat, Γ1) := by
  simp only [evI, evEs, h, readRs, hr, rngD, sm, if_true]
theorem names_run {F : Nat → Fn} {Ld : Nat → Bool} {W tk : Nat} {a b c d : Gm} {r : Rs} (ha : ("abcdefghijklmnopqrstuvwxyz" : Str) = abc) (h1 : evS F Ld W (.par [2, 3] [(.cst (.str abc)), (.lst [])]) a = some (.nx, b)) (hf : evS F Ld W (.frr (.nm 4) (.rng [(.var 1)]) (bodyN tk)) b = some (.nx, c)) (h3 : evS F Ld W (.ret (some (.var 3))) c = some (.rt r, d)) : evSs F Ld W (irNames tk) a = some (.rt r, d) := by
  unfold irNames
  rw [ha, evSs, h1]
  simp only
  rw [evSs, hf]
  simp only
  rw [evSs, h3]
theorem names_fn {F : Nat → Fn} {Ld : Nat → Bool} {W tk : Nat} (ht : TakeFn (F tk)) (hl : Ld tk = true) : NamesFn (runF F Ld W ⟨2, 9, irNames tk⟩) := by
  intro c m b hb hc hm
  have step : ∀ d ∈ rangeD 0 m, ∀ (i : Nat) (Γ : Gm), (i ≤ m ∧ ∃ (b : D) (s4 s5 : Sl) (ss : List Str), Γ = [.io b, .sh (.int m), .sh (.str abc), .ow (.lst (ss.map .str)), s4, s5, .no, .no, .no] ∧ okS s4 ∧ okS s5 ∧ ss.length = i ∧ ss.Nodup ∧ (∀ s ∈ ss, okN s) ∧ Bx (c + 7 * i) b) → i < m →
      ∃ Γ1 Γ2, bindT (.nm 4) d Γ = some Γ1 ∧ evSs F Ld W (bodyN tk) Γ1 = some (.nx, Γ2) ∧ (i + 1 ≤ m ∧ ∃ (b : D) (s4 s5 : Sl) (ss : List Str), Γ2 = [.io b, .sh (.int m), .sh (.str abc), .ow (.lst (ss.map .str)), s4, s5, .no, .no, .no] ∧ okS s4 ∧ okS s5 ∧ ss.length = i + 1 ∧ ss.Nodup ∧ (∀ s ∈ ss, okN s) ∧ Bx (c + 7 * ((i + 1 : Nat) : Int)) b) := by
    intro d hd i Γ ⟨hi, b, s4, s5, ss, eΓ, h4, h5, hlen, hnd, hok, hB⟩ hlt
    obtain ⟨b', w, x, e1, hB', hx, hxo⟩ := step_ok (F := F) (Ld := Ld) (W := W) ht hl (m := .sh (.int m)) (d := d) (ss := ss) hB (by omega) h5 (by omega)
    refine ⟨_, _, ?_, e1, by omega, b', .sh d, .sh w, ss ++ [x], rfl, .inr ⟨_, rfl⟩, .inr ⟨_, rfl⟩, by simp [hlen], ?_, ?_, hB'.mono (by omega)⟩
    · rw [eΓ]
      rcases h4 with rfl | ⟨d, rfl⟩ <;> rfl
    · rw [List.nodup_append]
      refine ⟨hnd, by simp, fun a ha b hb e => ?_⟩
      rw [List.mem_singleton] at hb
      subst hb e
      exact hx ha
    · intro s hs
      rcases List.mem_append.1 hs with hs | hs
      · exact hok s hs
      · rw [List.mem_singleton.1 hs]; exact hxo
  obtain ⟨Γe, q1, _, b', s4, s5, ss, eΓ, _, _, hlen, hnd, hok, hB⟩ := forL_invL (L := m) (rangeD 0 m) 0 [.io b, .sh (.int m), .sh (.str abc), .ow (.lst (([] : List Str).map .str)), .no, .no, .no, .no, .no] step ⟨by omega, b, .no, .no, [], rfl, .inl rfl, .inl rfl, rfl, .nil, fun _ h => (by cases h), by simpa using hb⟩ (by simp [rangeD])
  subst eΓ
  rw [List.map_nil] at q1
  have hn : (rangeD 0 m).length = m := by simp [rangeD]
  rw [hn, Nat.zero_add] at hlen hB
  refine ⟨ss, b', ?_, hlen, hnd, hok, hB⟩
  have sm : small62 (m : Int) = true := by simp only [small62, Bool.and_eq_true, decide_eq_true_eq]; omega
  have hf : evS F Ld W (.frr (.nm 4) (.rng [(.var 1)]) (bodyN tk)) [.io b, .sh (.int m), .sh (.str abc), .ow (.lst []), .no, .no, .no, .no, .no] = some (.nx, [.io b', .sh (.int m), .sh (.str abc), .ow (.lst (ss.map .str)), s4, s5, .no, .no, .no]) := by
    refine ev_for (ds := rangeD 0 m) (Γ1 := [.io b, .sh (.int m), .sh (.str abc), .ow (.lst []), .no, .no, .no, .no, .no]) ?_ q1
    have := rng_ev (F := F) (Ld := Ld) (e := .var 1) (q := (m : Int)) (Γ := [.io b, .sh (.int m), .sh (.str abc), .ow (.lst []), .no, .no, .no, .no, .no]) (r := .slot 1) rfl rfl sm
    rw [Int.toNat_natCast] at this
    exact this
  have ha : ("abcdefghijklmnopqrstuvwxyz" : Str) = abc := by rw [abc]
  clear step q1 sm
  have h1 : evS F Ld W (.par [2, 3] [(.cst (.str abc)), (.lst [])]) [.io b, .sh (.int m), .no, .no, .no, .no, .no, .no, .no] = some (.nx, [.io b, .sh (.int m), .sh (.str abc), .ow (.lst []), .no, .no, .no, .no, .no]) := by
    generalize (m : Int) = q
    generalize abc = ab
    have : ([] : List D).length ≤ lim := Nat.zero_le _
    simp only [evS, evE, evEs, takeRs, this, if_true, settleRs, settleR, bindRs, bindR, mayBind, slOf]
    rfl
  have h3 : evS F Ld W (.ret (some (.var 3))) [.io b', .sh (.int m), .sh (.str abc), .ow (.lst (ss.map .str)), s4, s5, .no, .no, .no] = some (.rt (.new (.lst (ss.map .str))), [.io b', .sh (.int m), .sh (.str abc), .no, s4, s5, .no, .no, .no]) := by
    generalize (m : Int) = q
    generalize abc = ab
    rfl
  have h4 : evSs F Ld W (irNames tk) [.io b, .sh (.int m), .no, .no, .no, .no, .no, .no, .no] = some (.rt (.new (.lst (ss.map .str))), [.io b', .sh (.int m), .sh (.str abc), .no, s4, s5, .no, .no, .no]) := by
    exact names_run ha h1 hf h3
  exact runF_rt (f := ⟨2, 9, irNames tk⟩) (as := [.io b, .sh (.int m)]) rfl rfl h4
end Sv

namespace Sv
open PySem PySem.Spec PyProof.Rows L2
/-! found_in and its kin -/
def skp : List D → D → Nat
  | [], _ => 0
  | e :: es, x => if eqD e x then 0 else skp es x + 1
def fnd (es : List D) : List D → Nat → List Nat
  | [], _ => []
  | x :: w, k => if k + skp (es.drop k) x = es.length then [] else (k + skp (es.drop k) x) :: fnd es w (k + skp (es.drop k) x + 1)
def natD (n : Nat) : D := .int (n : Int)
theorem skp_le : ∀ (es : List D) (x : D), skp es x ≤ es.length
  | [], _ => Nat.le_refl _
  | e :: es, x => by
    simp only [skp, List.length_cons]
    split
    · omega
    · have := skp_le es x; omega
def wC : T := .an (.val (.cmp .lt (.var 3) (.bi .len [(.var 1)]))) (.val (.cmp .ne (.ix (.var 1) (.var 3)) (.var 4)))
def wB : List S := [.aug 3 .add (.cst (.int (1)))]
def fB : List S := [.whl wC wB, .iff (.val (.cmp .eq (.var 3) (.bi .len [(.var 1)]))) [.ret (some (.var 2))] [], .ex (.app (.var 2) (.var 3)), .aug 3 .add (.cst (.int (1)))]
def irFound : List S := [
    .par [2, 3] [(.lst []), (.cst (.int (0)))],
    .frr (.nm 4) (.seq (.var 0)) fB,
    .ret (some (.var 2))]
section
variable {F : Nat → Fn} {Ld : Nat → Bool} {W : Nat}
theorem wC_end {s0 s2 : Sl} {es : List D} {x : D} {q : Int} (h : ¬ q < (es.length : Int)) : evT F Ld wC [s0, .sh (.tup es), s2, .sh (.int q), .sh x] = some (false, [s0, .sh (.tup es), s2, .sh (.int q), .sh x]) := by
  simp [wC, evT, evE, evEs, Sv.bound, readR, readRs, biD, cmpD, h]
theorem wC_go {s0 s2 : Sl} {es : List D} {x e : D} {q : Int} (h0 : 0 ≤ q) (h : q < (es.length : Int)) (he : es[q.toNat]? = some e) (d1 : dep e ≤ 64) (d2 : dep x ≤ 64) : evT F Ld wC [s0, .sh (.tup es), s2, .sh (.int q), .sh x] = some (!eqD e x, [s0, .sh (.tup es), s2, .sh (.int q), .sh x]) := by
  have hix : ixD (.tup es) (.int q) = some e := by
    simp only [ixD, atI, ixN, h0, h, if_true]
    exact he
  simp [wC, evT, evE, evEs, Sv.bound, readR, readRs, biD, cmpD, h, hix, d1, d2]
theorem wB_go {s0 s1 s2 : Sl} {x : D} {q : Int} : evSs F Ld W wB [s0, s1, s2, .sh (.int q), .sh x] = some (.nx, [s0, s1, s2, .sh (.int (q + 1)), .sh x]) := by
  simp [wB, evSs, evS, evE, readR, augD, bindR, mayBind, slOf]
theorem whl_ok {s0 s2 : Sl} {es : List D} {x : D} (hd : ∀ e ∈ es, dep e ≤ 64) (hx : dep x ≤ 64) : ∀ (m k n : Nat), k + m = es.length → m < n → whileL (evT F Ld wC) (evSs F Ld W wB) n [s0, .sh (.tup es), s2, .sh (natD k), .sh x] = some (.nx, [s0, .sh (.tup es), s2, .sh (natD (k + skp (es.drop k) x)), .sh x])
  | 0, k, n + 1, hk, hn => by
    have e : es.drop k = [] := List.drop_eq_nil_of_le (by omega)
    rw [e]
    simp only [whileL, natD, wC_end (F := F) (Ld := Ld) (s0 := s0) (s2 := s2) (x := x) (es := es) (q := (k : Int)) (by omega), skp, Nat.add_zero]
  | m + 1, k, n + 1, hk, hn => by
    have lt : k < es.length := by omega
    have e : es.drop k = es[k] :: es.drop (k + 1) := List.drop_eq_getElem_cons lt
    have hc := wC_go (F := F) (Ld := Ld) (s0 := s0) (s2 := s2) (x := x) (es := es) (e := es[k]) (q := (k : Int)) (by omega) (by omega) (by simp [lt]) (hd _ (List.getElem_mem _)) hx
    rw [e, skp]
    cases hq : eqD es[k] x with
    | true =>
      rw [hq] at hc
      simp only [whileL, natD, hc, Bool.not_true, if_true, Nat.add_zero]
    | false =>
      rw [hq] at hc
      have ih := whl_ok (s0 := s0) (s2 := s2) hd hx m (k + 1) n (by omega) (by omega)
      have hb := wB_go (F := F) (Ld := Ld) (W := W) (s0 := s0) (s1 := .sh (.tup es)) (s2 := s2) (x := x) (q := (k : Int))
      simp only [natD] at ih ⊢
      simp only [whileL, hc, Bool.not_false, hb]
      have e1 : ((k : Int) + 1) = ((k + 1 : Nat) : Int) := by omega
      rw [e1, ih]
      have e2 : k + 1 + skp (es.drop (k + 1)) x = k + (skp (es.drop (k + 1)) x + 1) := by omega
      rw [e2]
      simp
theorem len_ev {s0 s2 s4 : Sl} {es : List D} {q : Int} : evT F Ld (.val (.cmp .eq (.var 3) (.bi .len [(.var 1)]))) [s0, .sh (.tup es), s2, .sh (.int q), s4] = some (q == (es.length : Int), [s0, .sh (.tup es), s2, .sh (.int q), s4]) := by
  simp [evT, evE, evEs, Sv.bound, readR, readRs, biD, cmpD, dep, eqD]
theorem app_ev {s0 s1 s4 : Sl} {fs : List D} {q : Int} (h : fs.length < 1000000) : evS F Ld W (.ex (.app (.var 2) (.var 3))) [s0, s1, .ow (.lst fs), .sh (.int q), s4] = some (.nx, [s0, s1, .ow (.lst (fs ++ [.int q])), .sh (.int q), s4]) := by
  simp [evS, evE, Sv.bound, ownAt, takeR, h, setOwn]
theorem aug_ev {s0 s1 s2 s4 : Sl} {q : Int} : evS F Ld W (.aug 3 .add (.cst (.int (1)))) [s0, s1, s2, .sh (.int q), s4] = some (.nx, [s0, s1, s2, .sh (.int (q + 1)), s4]) := by
  simp [evS, evE, readR, augD, bindR, mayBind, slOf]
theorem ret_ev {s0 s1 s3 s4 : Sl} {fs : List D} : evS F Ld W (.ret (some (.var 2))) [s0, s1, .ow (.lst fs), s3, s4] = some (.rt (.new (.lst fs)), [s0, s1, .no, s3, s4]) := by
  simp [evS, evE, Sv.bound]
theorem for_ok {s0 : Sl} {es : List D} (hW : es.length < W) (hd : ∀ e ∈ es, dep e ≤ 64) : ∀ (w fs : List D) (k : Nat) (s4 : Sl), okS s4 → (∀ e ∈ w, dep e ≤ 64) → k ≤ es.length → fs.length + w.length < 1000000 →
    ∃ s3 s4', forL (bindT (.nm 4)) (evSs F Ld W fB) w [s0, .sh (.tup es), .ow (.lst fs), .sh (natD k), s4] = some (.nx, [s0, .sh (.tup es), .ow (.lst (fs ++ (fnd es w k).map natD)), s3, s4']) ∨ forL (bindT (.nm 4)) (evSs F Ld W fB) w [s0, .sh (.tup es), .ow (.lst fs), .sh (natD k), s4] = some (.rt (.new (.lst (fs ++ (fnd es w k).map natD))), [s0, .sh (.tup es), .no, s3, s4'])
  | [], fs, k, s4, h4, _, hk, hl => ⟨_, _, .inl (by simp only [forL, fnd, List.map_nil, List.append_nil]; rfl)⟩
  | x :: w, fs, k, s4, h4, hw, hk, hl => by
    have hb : bindT (.nm 4) x [s0, .sh (.tup es), .ow (.lst fs), .sh (natD k), s4] = some [s0, .sh (.tup es), .ow (.lst fs), .sh (natD k), .sh x] := by
      rcases h4 with rfl | ⟨d, rfl⟩ <;> rfl
    have h1 := whl_ok (F := F) (Ld := Ld) (W := W) (s0 := s0) (s2 := .ow (.lst fs)) hd (hw x List.mem_cons_self) (es.length - k) k W (by omega) (by omega)
    have h1' : evS F Ld W (.whl wC wB) [s0, .sh (.tup es), .ow (.lst fs), .sh (natD k), .sh x] = _ := h1
    have h2 := len_ev (F := F) (Ld := Ld) (s0 := s0) (s2 := .ow (.lst fs)) (s4 := .sh x) (es := es) (q := ((k + skp (es.drop k) x : Nat) : Int))
    have hle := skp_le (es.drop k) x
    rw [List.length_drop] at hle
    simp only [List.length_cons] at hl
    by_cases he : k + skp (es.drop k) x = es.length
    · have hq : (((k + skp (es.drop k) x : Nat) : Int) == (es.length : Int)) = true := by rw [he]; simp
      rw [hq] at h2
      refine ⟨.sh (natD (k + skp (es.drop k) x)), .sh x, .inr ?_⟩
      have h3 := ret_ev (F := F) (Ld := Ld) (W := W) (s0 := s0) (s1 := .sh (.tup es)) (s3 := .sh (natD (k + skp (es.drop k) x))) (s4 := .sh x) (fs := fs)
      have h4 : evS F Ld W (.iff (.val (.cmp .eq (.var 3) (.bi .len [(.var 1)]))) [.ret (some (.var 2))] []) [s0, .sh (.tup es), .ow (.lst fs), .sh (natD (k + skp (es.drop k) x)), .sh x] = some (.rt (.new (.lst fs)), [s0, .sh (.tup es), .no, .sh (natD (k + skp (es.drop k) x)), .sh x]) := by
        rw [evS]
        simp only [natD] at h3 ⊢
        rw [h2]
        simp only [evSs, h3]
      rw [forL, hb]
      simp only [fB, evSs, h1', h4]
      simp only [fnd, he, if_true, List.map_nil, List.append_nil]
    · have hq : (((k + skp (es.drop k) x : Nat) : Int) == (es.length : Int)) = false := by
        rw [beq_eq_false_iff_ne]
        omega
      rw [hq] at h2
      have h4 : evS F Ld W (.iff (.val (.cmp .eq (.var 3) (.bi .len [(.var 1)]))) [.ret (some (.var 2))] []) [s0, .sh (.tup es), .ow (.lst fs), .sh (natD (k + skp (es.drop k) x)), .sh x] = some (.nx, [s0, .sh (.tup es), .ow (.lst fs), .sh (natD (k + skp (es.drop k) x)), .sh x]) := by
        rw [evS]
        simp only [natD]
        rw [h2]
        simp only [evSs]
      have h5 := app_ev (F := F) (Ld := Ld) (W := W) (s0 := s0) (s1 := .sh (.tup es)) (s4 := .sh x) (fs := fs) (q := ((k + skp (es.drop k) x : Nat) : Int)) (by omega)
      have h6 := aug_ev (F := F) (Ld := Ld) (W := W) (s0 := s0) (s1 := .sh (.tup es)) (s2 := .ow (.lst (fs ++ [.int ((k + skp (es.drop k) x : Nat) : Int)]))) (s4 := .sh x) (q := ((k + skp (es.drop k) x : Nat) : Int))
      obtain ⟨s3, s4', ih⟩ := for_ok hW hd w (fs ++ [natD (k + skp (es.drop k) x)]) (k + skp (es.drop k) x + 1) (.sh x) (.inr ⟨_, rfl⟩) (fun e h => hw e (List.mem_cons_of_mem _ h)) (by omega) (by simp; omega)
      have hf : fs ++ [natD (k + skp (es.drop k) x)] ++ (fnd es w (k + skp (es.drop k) x + 1)).map natD = fs ++ (fnd es (x :: w) k).map natD := by
        rw [fnd, if_neg he]
        simp
      rw [hf] at ih
      have go : evSs F Ld W fB [s0, .sh (.tup es), .ow (.lst fs), .sh (natD k), .sh x] = some (.nx, [s0, .sh (.tup es), .ow (.lst (fs ++ [natD (k + skp (es.drop k) x)])), .sh (natD (k + skp (es.drop k) x + 1)), .sh x]) := by
        simp only [fB, evSs, h1', h4]
        simp only [natD] at h5 h6 ⊢
        simp only [h5, h6]
        have e1 : (((k + skp (es.drop k) x : Nat) : Int) + 1) = ((k + skp (es.drop k) x + 1 : Nat) : Int) := by omega
        rw [e1]
      refine ⟨s3, s4', ?_⟩
      rw [forL, hb]
      simp only [go]
      exact ih
theorem found_fn {w es : List D} (hW : es.length < W) (hd : ∀ e ∈ es, dep e ≤ 64) (hw : ∀ e ∈ w, dep e ≤ 64) (hl : w.length < 1000000) : runF F Ld W ⟨2, 5, irFound⟩ [.sh (.tup w), .sh (.tup es)] = some (.new (.lst ((fnd es w 0).map natD)), none) := by
  have h1 : evS F Ld W (.par [2, 3] [(.lst []), (.cst (.int (0)))]) [.sh (.tup w), .sh (.tup es), .no, .no, .no] = some (.nx, [.sh (.tup w), .sh (.tup es), .ow (.lst []), .sh (natD 0), .no]) := by
    have h0 : ([] : List D).length ≤ lim := Nat.zero_le _
    simp [evS, evE, evEs, takeRs, h0, settleRs, settleR, bindRs, bindR, mayBind, slOf, natD]
  obtain ⟨s3, s4, ho⟩ := for_ok (F := F) (Ld := Ld) (W := W) (s0 := .sh (.tup w)) hW hd w [] 0 .no (.inl rfl) hw (by omega) (by simpa using hl)
  have hI : evI F Ld (.seq (.var 0)) [.sh (.tup w), .sh (.tup es), .ow (.lst []), .sh (natD 0), .no] = some (w, [.sh (.tup w), .sh (.tup es), .ow (.lst []), .sh (natD 0), .no]) := by
    simp [evI, evE, Sv.bound, takeR, seqD]
  rw [List.nil_append] at ho
  rcases ho with ho | ho
  · have hf := ev_for (F := F) (Ld := Ld) (W := W) hI ho
    have h3 := ret_ev (F := F) (Ld := Ld) (W := W) (s0 := .sh (.tup w)) (s1 := .sh (.tup es)) (s3 := s3) (s4 := s4) (fs := (fnd es w 0).map natD)
    exact runF_rt (f := ⟨2, 5, irFound⟩) (as := [.sh (.tup w), .sh (.tup es)]) (Γ0 := [.sh (.tup w), .sh (.tup es), .no, .no, .no]) (Γ := [.sh (.tup w), .sh (.tup es), .no, s3, s4]) rfl rfl (by simp only [irFound, evSs, h1, hf, h3])
  · have hf := ev_for (F := F) (Ld := Ld) (W := W) hI ho
    exact runF_rt (f := ⟨2, 5, irFound⟩) (as := [.sh (.tup w), .sh (.tup es)]) (Γ0 := [.sh (.tup w), .sh (.tup es), .no, .no, .no]) (Γ := [.sh (.tup w), .sh (.tup es), .no, s3, s4]) rfl rfl (by simp only [irFound, evSs, h1, hf])
def FoundFn (f : Fn) : Prop := ∀ w es : List D, es.length < 1000 → (∀ e ∈ es, dep e ≤ 64) → (∀ e ∈ w, dep e ≤ 64) → w.length < 1000 → f [.sh (.tup w), .sh (.tup es)] = some (.new (.lst ((fnd es w 0).map natD)), none)
def firD (w es : List D) : D := if (fnd es w 0).length = w.length then .lst ((fnd es w 0).map natD) else .non
def FirstFn (f : Fn) : Prop := ∀ w es : List D, es.length < 1000 → (∀ e ∈ es, dep e ≤ 64) → (∀ e ∈ w, dep e ≤ 64) → w.length < 1000 → f [.sh (.tup w), .sh (.tup es)] = some (if (fnd es w 0).length = w.length then .new (.lst ((fnd es w 0).map natD)) else .val .non, none)
def irFirst (a : Nat) : List S := [
    .set 2 (.call a [(.var 0), (.var 1)]),
    .ret (some (.ite (.val (.cmp .eq (.bi .len [(.var 2)]) (.bi .len [(.var 0)]))) (.var 2) (.cst .non)))]
theorem first_fn {a : Nat} (h : FoundFn (F a)) (hl : Ld a = false) : FirstFn (runF F Ld W ⟨2, 3, irFirst a⟩) := by
  intro w es h1 h2 h3 h4
  have e := h w es h1 h2 h3 h4
  generalize hL : fnd es w 0 = L at e
  by_cases hq : L.length = w.length
  · simp [runF, irFirst, evSs, evS, evE, evEs, evT, Sv.bound, callE, hl, takeRs, takeR, e, notSlot, settleR, bindR, mayBind, slOf, readR, readRs, biD, cmpD, dep, eqD, hq, ioOut]
  · have hq' : ((L.length : Int) == (w.length : Int)) = false := by rw [beq_eq_false_iff_ne]; omega
    simp [runF, irFirst, evSs, evS, evE, evEs, evT, Sv.bound, callE, hl, takeRs, takeR, e, notSlot, settleR, bindR, mayBind, slOf, readR, readRs, biD, cmpD, dep, eqD, hq, hq', ioOut]
def PartFn (f : Fn) : Prop := ∀ w es : List D, es.length < 1000 → (∀ e ∈ es, dep e ≤ 64) → (∀ e ∈ w, dep e ≤ 64) → w.length < 1000 → f [.sh (.tup w), .sh (.tup es)] = some (.val (.bl (decide ((fnd es w 0).length = w.length))), none)
def irPart (a : Nat) : List S := [
    .ret (some (.cmp .isn (.call a [(.var 0), (.var 1)]) (.cst .non)))]
theorem part_fn {a : Nat} (h : FirstFn (F a)) (hl : Ld a = false) : PartFn (runF F Ld W ⟨2, 2, irPart a⟩) := by
  intro w es h1 h2 h3 h4
  have e := h w es h1 h2 h3 h4
  generalize hL : fnd es w 0 = L at e
  by_cases hq : L.length = w.length
  · rw [if_pos hq] at e
    simp [runF, irPart, evSs, evS, evE, evEs, evT, Sv.bound, callE, hl, takeRs, takeR, e, notSlot, readR, cmpD, isNon, hq, ioOut]
  · rw [if_neg hq] at e
    simp [runF, irPart, evSs, evS, evE, evEs, evT, Sv.bound, callE, hl, takeRs, takeR, e, notSlot, readR, cmpD, isNon, hq, ioOut]
def lastL (w es : List D) : List Nat := fnd es.reverse w.reverse 0
def irLast (a : Nat) : List S := [
    .set 2 (.call a [(.rev (.var 0)), (.rev (.var 1))]),
    .ret (some (.ite (.val (.cmp .is (.var 2) (.cst .non))) (.cst .non) (.comp (.bin .sub (.bin .sub (.bi .len [(.var 1)]) (.cst (.int (1)))) (.var 3)) (.nm 3) (.seq (.rev (.var 2))) [] [3])))]
def LastFn (f : Fn) : Prop := ∀ w es : List D, es.length < 1000 → (∀ e ∈ es, dep e ≤ 64) → (∀ e ∈ w, dep e ≤ 64) → w.length < 1000 → f [.sh (.tup w), .sh (.tup es)] = some (if (lastL w es).length = w.length then .new (.lst ((lastL w es).reverse.map fun (j : Nat) => D.int ((es.length : Int) - 1 - (j : Int)))) else .val .non, none)
theorem last_fn {a : Nat} (h : FirstFn (F a)) (hl : Ld a = false) : LastFn (runF F Ld W ⟨2, 4, irLast a⟩) := by
  intro w es h1 h2 h3 h4
  have e := h w.reverse es.reverse (by simpa using h1) (by simpa using h2) (by simpa using h3) (by simpa using h4)
  unfold lastL
  rw [List.length_reverse] at e
  generalize hL : fnd es.reverse w.reverse 0 = L at e
  by_cases hq : L.length = w.length
  · rw [if_pos hq] at e
    have hc : evE F Ld (.comp (.bin .sub (.bin .sub (.bi .len [(.var 1)]) (.cst (.int (1)))) (.var 3)) (.nm 3) (.seq (.rev (.var 2))) [] [3]) [.sh (.tup w), .sh (.tup es), .ow (.lst (L.map natD)), .no] = some (.new (.lst (L.reverse.map fun (j : Nat) => D.int ((es.length : Int) - 1 - (j : Int)))), [.sh (.tup w), .sh (.tup es), .ow (.lst (L.map natD)), .no]) := by
      refine ev_comp (ds := (L.map natD).reverse) (Γ1 := [.sh (.tup w), .sh (.tup es), .ow (.lst (L.map natD)), .no]) (Γe := [.sh (.tup w), .sh (.tup es), .ow (.lst (L.map natD)), .no]) (by simp [evI, evE, Sv.bound, readR, revD, takeR, seqD]) rfl ?_
      have hm := compL_map (vs := [3]) (fg := bindT (.nm 3)) (ft := evCs F Ld []) (fe := fun Γ => match evE F Ld (.bin .sub (.bin .sub (.bi .len [(.var 1)]) (.cst (.int (1)))) (.var 3)) Γ with
          | none => none
          | some (r, Γ') => takeR r Γ') (f := fun d => match d with | .int x => .int ((es.length : Int) - 1 - x) | d => d) (Γ := [.sh (.tup w), .sh (.tup es), .ow (.lst (L.map natD)), .no]) (L.map natD).reverse ?_ (by simp; omega)
      · refine hm.trans ?_
        rw [← List.map_reverse, List.map_map]
        rfl
      · intro d hd
        rw [← List.map_reverse] at hd
        obtain ⟨j, hj, rfl⟩ := List.mem_map.1 hd
        refine ⟨[.sh (.tup w), .sh (.tup es), .ow (.lst (L.map natD)), .sh (natD j)], [.sh (.tup w), .sh (.tup es), .ow (.lst (L.map natD)), .sh (natD j)], [.sh (.tup w), .sh (.tup es), .ow (.lst (L.map natD)), .sh (natD j)], rfl, rfl, ?_, rfl⟩
        simp [evE, evEs, Sv.bound, readR, readRs, biD, binD, natD, takeR]
    simp [runF, irLast, evSs, evS, evE, evEs, evT, ↓hc, Sv.bound, readR, revD, callE, hl, takeRs, takeR, e, notSlot, settleR, bindR, mayBind, slOf, cmpD, isNon, hq, ioOut]
  · rw [if_neg hq] at e
    simp [runF, irLast, evSs, evS, evE, evEs, evT, Sv.bound, readR, revD, callE, hl, takeRs, takeR, e, notSlot, settleR, bindR, mayBind, slOf, cmpD, isNon, hq, ioOut]
end
end Sv

namespace Sv
open PySem PySem.Spec PyProof.Rows L2
/-! comprehensions over coded lists -/
section
variable {α β : Type} {F : Nat → Fn} {Ld : Nat → Bool} {W : Nat}
theorem compL_on {vs : List Nat} {fg : D → Gm → Option Gm} {ft : Gm → Option (Bool × Gm)} {fe : Gm → Option (D × Gm)} {Γ : Gm} (enc : α → D) (p : α → Bool) (f : α → D) : ∀ (l : List α) (acc : List D),
    (∀ a ∈ l, ∃ Γ1 Γ2, fg (enc a) Γ = some Γ1 ∧ ft Γ1 = some (p a, Γ2) ∧ (p a = false → wipeG Γ2 vs = Γ) ∧ (p a = true → ∃ Γ3, fe Γ2 = some (f a, Γ3) ∧ wipeG Γ3 vs = Γ)) → acc.length + l.length ≤ 1000000 →
    compL vs fg ft fe (l.map enc) acc Γ = some (acc ++ (l.filter p).map f, Γ)
  | [], acc, _, _ => by simp [compL]
  | d :: ds, acc, hs, hl => by
    obtain ⟨Γ1, Γ2, e1, e2, e3, e4⟩ := hs d List.mem_cons_self
    simp only [List.length_cons] at hl
    simp only [List.map_cons, compL, e1, e2]
    cases hp : p d with
    | false =>
      simp only [hp, e3 hp]
      rw [compL_on enc p f ds acc (fun d hd => hs d (List.mem_cons_of_mem _ hd)) (by omega)]
      simp [List.filter_cons, hp]
    | true =>
      obtain ⟨Γ3, q1, q2⟩ := e4 hp
      simp only [hp, q1, q2]
      rw [if_pos (by omega), compL_on enc p f ds (acc ++ [f d]) (fun d hd => hs d (List.mem_cons_of_mem _ hd)) (by simp; omega)]
      simp [List.filter_cons, hp]
theorem comp2L_on {vs vs1 : List Nat} {fg fg1 : D → Gm → Option Gm} {ft ft1 : Gm → Option (Bool × Gm)} {fe : Gm → Option (D × Gm)} {fi : Gm → Option (List D × Gm)} {Γ : Gm} (enc : α → D) (g : α → List D) : ∀ (l : List α) (acc : List D),
    (∀ d ∈ l, ∀ acc, acc.length ≤ 900000 → ∃ Γ1 Γ2 ds1 Γ3 Γ4, fg (enc d) Γ = some Γ1 ∧ ft Γ1 = some (true, Γ2) ∧ fi Γ2 = some (ds1, Γ3) ∧ compL vs1 fg1 ft1 fe ds1 acc (wipeG Γ3 vs1) = some (acc ++ g d, Γ4) ∧ wipeG Γ4 vs = Γ) → acc.length + (l.flatMap g).length ≤ 900000 →
    comp2L vs vs1 fg ft fi fg1 ft1 fe (l.map enc) acc Γ = some (acc ++ l.flatMap g, Γ)
  | [], acc, _, _ => by simp [comp2L]
  | d :: ds, acc, hs, hl => by
    rw [List.flatMap_cons, List.length_append] at hl
    obtain ⟨Γ1, Γ2, ds1, Γ3, Γ4, e1, e2, e3, e4, e5⟩ := hs d List.mem_cons_self acc (by omega)
    simp only [List.map_cons, comp2L, e1, e2, e3, e4, e5]
    rw [comp2L_on enc g ds (acc ++ g d) (fun d hd => hs d (List.mem_cons_of_mem _ hd)) (by rw [List.length_append]; omega)]
    simp
/-- [e for t in it if cs] -/
theorem ev_compOn {e : E} {t : Tg} {it : I} {cs : List T} {vs : List Nat} {Γ : Gm} (enc : α → D) (p : α → Bool) (f : α → D) (l : List α) (h1 : evI F Ld it Γ = some (l.map enc, Γ)) (h2 : notIo Γ vs = true) (h3 : wipeG Γ vs = Γ) (h4 : restore Γ Γ vs = Γ) (hl : l.length ≤ 900000)
    (hs : ∀ a ∈ l, ∃ Γ1 Γ2, bindT t (enc a) Γ = some Γ1 ∧ evCs F Ld cs Γ1 = some (p a, Γ2) ∧ (p a = false → wipeG Γ2 vs = Γ) ∧ (p a = true → ∃ r Γ3 Γ4, evE F Ld e Γ2 = some (r, Γ3) ∧ takeR r Γ3 = some (f a, Γ4) ∧ wipeG Γ4 vs = Γ)) :
    evE F Ld (.comp e t it cs vs) Γ = some (.new (.lst ((l.filter p).map f)), Γ) := by
  have := ev_comp (F := F) (Ld := Ld) (e := e) (t := t) (cs := cs) (vs := vs) (Γe := Γ) (out := (l.filter p).map f) h1 h2 (by
    rw [h3]
    have q := compL_on (vs := vs) (fg := bindT t) (ft := evCs F Ld cs) (fe := fun Γ => match evE F Ld e Γ with
          | none => none
          | some (r, Γ') => takeR r Γ') (Γ := Γ) enc p f l [] (fun a ha => by
        obtain ⟨Γ1, Γ2, e1, e2, e3, e4⟩ := hs a ha
        refine ⟨Γ1, Γ2, e1, e2, e3, fun hp => ?_⟩
        obtain ⟨r, Γ3, Γ4, q1, q2, q3⟩ := e4 hp
        exact ⟨Γ4, by simp only [q1, q2], q3⟩) (by simp; omega)
    rw [List.nil_append] at q
    exact q)
  rw [h4] at this
  exact this
/-- [e for t in it for t1 in it1 if cs1] -/
theorem comp2_go {w : Option (D × Gm) → Option (D × Gm)} {e : E} {t t1 : Tg} {it1 : I} {cs1 : List T} {vs vs1 : List Nat} {Γ : Gm} (enc : α → D) (enc1 : α → β → D) (p : α → β → Bool) (f : α → β → D) (l : List α) (m : α → List β) (hl : (l.flatMap fun a => ((m a).filter (p a)).map (f a)).length ≤ 900000)
    (hs : ∀ a ∈ l, ∃ Γ1, bindT t (enc a) Γ = some Γ1 ∧ evI F Ld it1 Γ1 = some ((m a).map (enc1 a), Γ1) ∧ wipeG Γ1 vs1 = Γ1 ∧ wipeG Γ1 vs = Γ ∧ (m a).length ≤ 10000 ∧
      ∀ b ∈ m a, ∃ Γ2 Γ3, bindT t1 (enc1 a b) Γ1 = some Γ2 ∧ evCs F Ld cs1 Γ2 = some (p a b, Γ3) ∧ (p a b = false → wipeG Γ3 vs1 = Γ1) ∧ (p a b = true → ∃ r Γ4 Γ5, evE F Ld e Γ3 = some (r, Γ4) ∧ w (takeR r Γ4) = some (f a b, Γ5) ∧ wipeG Γ5 vs1 = Γ1)) :
    comp2L vs vs1 (bindT t) (evCs F Ld []) (evI F Ld it1) (bindT t1) (evCs F Ld cs1) (fun Γ => match evE F Ld e Γ with
          | none => none
          | some (r, Γ') => w (takeR r Γ')) (l.map enc) [] Γ = some (l.flatMap (fun a => ((m a).filter (p a)).map (f a)), Γ) := by
  have q := comp2L_on (vs := vs) (vs1 := vs1) (fg := bindT t) (fg1 := bindT t1) (ft := evCs F Ld []) (ft1 := evCs F Ld cs1) (fi := evI F Ld it1) (fe := fun Γ => match evE F Ld e Γ with
          | none => none
          | some (r, Γ') => w (takeR r Γ')) (Γ := Γ) enc (fun a => ((m a).filter (p a)).map (f a)) l [] (fun a ha acc hacc => by
      obtain ⟨Γ1, e1, e2, e3, e4, e5, e6⟩ := hs a ha
      refine ⟨Γ1, Γ1, _, Γ1, Γ1, e1, rfl, e2, ?_, e4⟩
      rw [e3]
      exact compL_on (enc1 a) (p a) (f a) (m a) acc (fun b hb => by
        obtain ⟨Γ2, Γ3, g1, g2, g3, g4⟩ := e6 b hb
        refine ⟨Γ2, Γ3, g1, g2, g3, fun hp => ?_⟩
        obtain ⟨r, Γ4, Γ5, q1, q2, q3⟩ := g4 hp
        exact ⟨Γ5, by simp only [q1, q2], q3⟩) (by omega)) (by rw [List.length_nil]; omega)
  rw [List.nil_append] at q
  exact q
theorem ev_comp2On {e : E} {t t1 : Tg} {it it1 : I} {cs1 : List T} {vs vs1 : List Nat} {Γ : Gm} (enc : α → D) (enc1 : α → β → D) (p : α → β → Bool) (f : α → β → D) (l : List α) (m : α → List β) (h1 : evI F Ld it Γ = some (l.map enc, Γ)) (h2 : notIo Γ vs = true) (h3 : wipeG Γ vs = Γ) (h4 : restore Γ Γ vs = Γ) (hl : (l.flatMap fun a => ((m a).filter (p a)).map (f a)).length ≤ 900000)
    (hs : ∀ a ∈ l, ∃ Γ1, bindT t (enc a) Γ = some Γ1 ∧ evI F Ld it1 Γ1 = some ((m a).map (enc1 a), Γ1) ∧ wipeG Γ1 vs1 = Γ1 ∧ wipeG Γ1 vs = Γ ∧ (m a).length ≤ 10000 ∧
      ∀ b ∈ m a, ∃ Γ2 Γ3, bindT t1 (enc1 a b) Γ1 = some Γ2 ∧ evCs F Ld cs1 Γ2 = some (p a b, Γ3) ∧ (p a b = false → wipeG Γ3 vs1 = Γ1) ∧ (p a b = true → ∃ r Γ4 Γ5, evE F Ld e Γ3 = some (r, Γ4) ∧ takeR r Γ4 = some (f a b, Γ5) ∧ wipeG Γ5 vs1 = Γ1)) :
    evE F Ld (.comp2 e t it [] t1 it1 cs1 vs vs1) Γ = some (.new (.lst (l.flatMap fun a => ((m a).filter (p a)).map (f a))), Γ) := by
  have q := comp2_go (w := id) enc enc1 p f l m hl hs
  simp only [evE, h1, h2, if_true, h3]
  split
  · next h => cases q.symm.trans h
  · next h => cases q.symm.trans h; rw [h4]
theorem ev_srt2On {e : E} {t t1 : Tg} {it it1 : I} {cs1 : List T} {vs vs1 : List Nat} {Γ : Gm} {xs : List Str} (enc : α → D) (enc1 : α → β → D) (p : α → β → Bool) (f : α → β → D) (l : List α) (m : α → List β) (h1 : evI F Ld it Γ = some (l.map enc, Γ)) (h2 : notIo Γ vs = true) (h3 : wipeG Γ vs = Γ) (h4 : restore Γ Γ vs = Γ) (hl : (l.flatMap fun a => ((m a).filter (p a)).map (f a)).length ≤ 4000) (hx : strsD (l.flatMap fun a => ((m a).filter (p a)).map (f a)) = some xs)
    (hs : ∀ a ∈ l, ∃ Γ1, bindT t (enc a) Γ = some Γ1 ∧ evI F Ld it1 Γ1 = some ((m a).map (enc1 a), Γ1) ∧ wipeG Γ1 vs1 = Γ1 ∧ wipeG Γ1 vs = Γ ∧ (m a).length ≤ 10000 ∧
      ∀ b ∈ m a, ∃ Γ2 Γ3, bindT t1 (enc1 a b) Γ1 = some Γ2 ∧ evCs F Ld cs1 Γ2 = some (p a b, Γ3) ∧ (p a b = false → wipeG Γ3 vs1 = Γ1) ∧ (p a b = true → ∃ r Γ4 Γ5, evE F Ld e Γ3 = some (r, Γ4) ∧ strTake (takeR r Γ4) = some (f a b, Γ5) ∧ wipeG Γ5 vs1 = Γ1)) :
    evE F Ld (.srt2 e t it [] t1 it1 cs1 vs vs1) Γ = some (.new (.lst ((sortU ltS xs).map .str)), Γ) := by
  have q := comp2_go (w := strTake) enc enc1 p f l m (by omega) hs
  simp only [evE, h1, h2, if_true, h3]
  split
  · next h => cases q.symm.trans h
  · next h =>
    cases q.symm.trans h
    rw [if_pos hl, hx, h4]
end
theorem str_beq (a b : Str) : (a == b) = decide (a = b) := by
  cases h : a == b with
  | true => have : a = b := by simpa using h
            simp [this]
  | false => have : ¬ a = b := by simpa using h
             simp [this]
/-! standings -/
abbrev Run := Str × Int
abbrev Shelf := List Run
abbrev Stand := List Shelf
def runD (r : Run) : D := .tup [.str r.1, .int r.2]
def shD (s : Shelf) : D := .tup (s.map runD)
def stD (st : Stand) : D := .tup (st.map shD)
def woD (w : List Str) : D := .tup (w.map .str)
structure Sm (n : Nat) (st : Stand) : Prop where
  len : st.length ≤ n
  each : ∀ s ∈ st, s.length ≤ 100
theorem flat_len {st : Stand} : ∀ {n : Nat}, Sm n st → st.flatten.length ≤ 100 * n := by
  induction st with
  | nil => intro n h; simp
  | cons s st ih =>
    intro n h
    cases n with
    | zero => have := h.len; simp at this
    | succ n =>
      have h1 := h.each s List.mem_cons_self
      have h2 := ih ⟨by have := h.len; simp at this; omega, fun t ht => h.each t (List.mem_cons_of_mem _ ht)⟩ (n := n)
      rw [List.flatten_cons, List.length_append]
      omega
def wordOf (s : Shelf) : List Str := s.map (·.1)
def kinds (st : Stand) : List Str := sortU ltS (st.flatten.map (·.1))
def many (st : Stand) (k : Str) : Int := ((st.flatten.filter fun r => decide (r.1 = k)).map (·.2)).sum
theorem strsD_map (xs : List Str) : strsD (xs.map D.str) = some xs := by
  induction xs with
  | nil => rfl
  | cons x xs ih => simp [strsD, ih]
theorem intsOf_map (xs : List Int) : intsOf (xs.map D.int) = some xs := by
  induction xs with
  | nil => rfl
  | cons x xs ih => simp [intsOf, ih]
theorem flat_map {α γ : Type} (f : α → γ) (p : α → Bool) (l : List (List α)) : (l.flatMap fun s => (s.filter p).map f) = (l.flatten.filter p).map f := by
  induction l with
  | nil => rfl
  | cons s l ih => simp [List.flatMap_cons, ih]
section
variable {F : Nat → Fn} {Ld : Nat → Bool} {W : Nat}
def irWord : List S := [.ret (some (.bi .tuple [(.comp (.var 1) (.tp [(.nm 1), (.nm 2)]) (.seq (.var 0)) [] [1, 2])]))]
def WordFn (f : Fn) : Prop := ∀ s : Shelf, s.length ≤ 1000 → f [.sh (shD s)] = some (.val (woD (wordOf s)), none)
theorem word_fn : WordFn (runF F Ld W ⟨1, 3, irWord⟩) := by
  intro s hl
  have h1 := ev_compOn (F := F) (Ld := Ld) (e := .var 1) (t := .tp [(.nm 1), (.nm 2)]) (it := .seq (.var 0)) (cs := []) (vs := [1, 2]) (Γ := [.sh (shD s), .no, .no]) runD (fun _ => true) (fun r => .str r.1) s (by simp [evI, evE, Sv.bound, takeR, shD, seqD]) rfl rfl rfl (by omega) (fun r hr =>
    ⟨[.sh (shD s), .sh (.str r.1), .sh (.int r.2)], _, by simp [bindT, bindTs, bindR, mayBind, slOf, runD], rfl, fun h => by (cases h), fun _ => ⟨_, _, _, rfl, rfl, rfl⟩⟩)
  rw [List.filter_eq_self.2 (by simp)] at h1
  simp [runF, irWord, evSs, evS, evE, evEs, ↓h1, readR, readRs, biD, ioOut, woD, wordOf]
def irKinds : List S := [.ret (some (.srt2 (.var 2) (.nm 1) (.seq (.var 0)) [] (.tp [(.nm 2), (.nm 3)]) (.seq (.var 1)) [] [1, 2, 3] [2, 3]))]
def KindsFn (f : Fn) : Prop := ∀ st : Stand, Sm 40 st → f [.sh (stD st)] = some (.new (.lst ((kinds st).map .str)), none)
theorem kinds_fn : KindsFn (runF F Ld W ⟨1, 4, irKinds⟩) := by
  intro st hs
  have fl := flat_len hs
  have e : (st.flatMap fun s => (s.filter fun _ => true).map fun (r : Run) => D.str r.1) = (st.flatten.map (·.1)).map D.str := by
    rw [flat_map (fun (r : Run) => D.str r.1) (fun _ => true), List.filter_eq_self.2 (by simp), List.map_map]
    rfl
  have h1 := ev_srt2On (F := F) (Ld := Ld) (e := .var 2) (t := .nm 1) (it := .seq (.var 0)) (t1 := .tp [(.nm 2), (.nm 3)]) (it1 := .seq (.var 1)) (cs1 := []) (vs := [1, 2, 3]) (vs1 := [2, 3]) (Γ := [.sh (stD st), .no, .no, .no]) shD (fun _ => runD) (fun _ _ => true) (fun _ r => .str r.1) st id (by simp [evI, evE, Sv.bound, takeR, stD, seqD]) rfl rfl rfl (by
      show (st.flatMap fun s => (s.filter fun _ => true).map fun (r : Run) => D.str r.1).length ≤ 4000
      rw [e]; simp only [List.length_map]; omega) (by
      show strsD (st.flatMap fun s => (s.filter fun _ => true).map fun (r : Run) => D.str r.1) = some (st.flatten.map (·.1))
      rw [e]; exact strsD_map _) (fun s hm =>
    ⟨[.sh (stD st), .sh (shD s), .no, .no], by simp [bindT, bindR, mayBind, slOf], by simp [evI, evE, Sv.bound, takeR, shD, seqD], rfl, rfl, by have := hs.each s hm; show s.length ≤ 10000; omega, fun r hr =>
      ⟨[.sh (stD st), .sh (shD s), .sh (.str r.1), .sh (.int r.2)], _, by simp [bindT, bindTs, bindR, mayBind, slOf, runD], rfl, fun h => by (cases h), fun _ => ⟨_, _, _, rfl, rfl, rfl⟩⟩⟩)
  simp [runF, irKinds, evSs, evS, ↓h1, ioOut, kinds]
def irMany : List S := [.ret (some (.bi .sum [(.comp2 (.var 4) (.nm 2) (.seq (.var 0)) [] (.tp [(.nm 3), (.nm 4)]) (.seq (.var 2)) [(.val (.cmp .eq (.var 3) (.var 1)))] [2, 3, 4] [3, 4])]))]
def ManyFn (f : Fn) : Prop := ∀ (st : Stand) (k : Str), Sm 40 st → f [.sh (stD st), .sh (.str k)] = some (.val (.int (many st k)), none)
theorem many_fn : ManyFn (runF F Ld W ⟨2, 5, irMany⟩) := by
  intro st k hs
  have fl := flat_len hs
  have e : (st.flatMap fun s => (s.filter fun (r : Run) => decide (r.1 = k)).map fun (r : Run) => D.int r.2) = ((st.flatten.filter fun r => decide (r.1 = k)).map (·.2)).map D.int := by
    rw [flat_map (fun (r : Run) => D.int r.2) (fun (r : Run) => decide (r.1 = k)), List.map_map]
    rfl
  have h1 := ev_comp2On (F := F) (Ld := Ld) (e := .var 4) (t := .nm 2) (it := .seq (.var 0)) (t1 := .tp [(.nm 3), (.nm 4)]) (it1 := .seq (.var 2)) (cs1 := [(.val (.cmp .eq (.var 3) (.var 1)))]) (vs := [2, 3, 4]) (vs1 := [3, 4]) (Γ := [.sh (stD st), .sh (.str k), .no, .no, .no]) shD (fun _ => runD) (fun _ r => decide (r.1 = k)) (fun _ r => .int r.2) st id (by simp [evI, evE, Sv.bound, takeR, stD, seqD]) rfl rfl rfl (by
      show (st.flatMap fun s => (s.filter fun (r : Run) => decide (r.1 = k)).map fun (r : Run) => D.int r.2).length ≤ 900000
      rw [e]; simp only [List.length_map]
      have := List.length_filter_le (fun (r : Run) => decide (r.1 = k)) st.flatten
      omega) (fun s hm =>
    ⟨[.sh (stD st), .sh (.str k), .sh (shD s), .no, .no], by simp [bindT, bindR, mayBind, slOf], by simp [evI, evE, Sv.bound, takeR, shD, seqD], rfl, rfl, by have := hs.each s hm; show s.length ≤ 10000; omega, fun r hr =>
      ⟨[.sh (stD st), .sh (.str k), .sh (shD s), .sh (.str r.1), .sh (.int r.2)], [.sh (stD st), .sh (.str k), .sh (shD s), .sh (.str r.1), .sh (.int r.2)], by simp [bindT, bindTs, bindR, mayBind, slOf, runD], by
        simp [evCs, evT, evE, Sv.bound, readR, cmpD, dep, eqD, str_beq]
        cases decide (r.1 = k) <;> rfl, fun _ => rfl, fun _ => ⟨_, _, _, rfl, rfl, rfl⟩⟩⟩)
  have h2 : intsOf (st.flatMap fun s => (s.filter fun (r : Run) => decide (r.1 = k)).map fun (r : Run) => D.int r.2) = some ((st.flatten.filter fun r => decide (r.1 = k)).map (·.2)) := by
    rw [e]; exact intsOf_map _
  simp only [id] at h1
  simp [runF, irMany, evSs, evS, evE, evEs, ↓h1, readR, readRs, biD, h2, ioOut, many]
end
end Sv

namespace Sv
open PySem PySem.Spec PyProof.Rows L2
def spotD (p : Nat × Nat) : D := .tup [.int (p.1 : Int), .int (p.2 : Int)]
def allSpots (st : Stand) : List (Nat × Nat) := st.zipIdx.flatMap fun x => (List.range x.1.length).map fun j => (x.2, j)
def kAt (st : Stand) (p : Nat × Nat) : Option Str := (st[p.1]?.bind (·[p.2]?)).map (·.1)
def spots (st : Stand) (k : Str) : List (Nat × Nat) := (allSpots st).filter fun p => decide (kAt st p = some k)
def cnt (st : Stand) (k : Str) : Nat := (st.flatten.filter fun r => decide (r.1 = k)).length
theorem enumD_map {α : Type} (enc : α → D) : ∀ (l : List α) (n : Nat), enumD n (l.map enc) = (l.zipIdx n).map fun x => D.tup [.int (x.2 : Int), enc x.1]
  | [], _ => rfl
  | a :: l, n => by
    rw [List.map_cons, enumD, enumD_map enc l (n + 1)]
    rfl
theorem rangeD_map (n : Nat) : rangeD 0 n = (List.range n).map fun (k : Nat) => D.int (k : Int) := by
  unfold rangeD
  apply List.map_congr_left
  intro k _
  rw [Int.zero_add]
theorem spots_mem {st : Stand} {p : Nat × Nat} (h : p ∈ allSpots st) : ∃ s r, st[p.1]? = some s ∧ s[p.2]? = some r := by
  unfold allSpots at h
  obtain ⟨x, hx, hp⟩ := List.mem_flatMap.1 h
  obtain ⟨j, hj, rfl⟩ := List.mem_map.1 hp
  have := List.mem_zipIdx_iff_getElem?.1 hx
  rw [List.mem_range] at hj
  exact ⟨x.1, x.1[j], this, List.getElem?_eq_getElem hj⟩
theorem kAt_map (pre : Stand) : ∀ (st : Stand), ((st.zipIdx pre.length).flatMap fun x => (List.range x.1.length).map fun j => kAt (pre ++ st) (x.2, j)) = st.flatten.map fun r => some r.1 := by
  intro st
  induction st generalizing pre with
  | nil => rfl
  | cons s st ih =>
    have := ih (pre ++ [s])
    rw [List.length_append, List.length_singleton, List.append_assoc] at this
    rw [List.zipIdx_cons, List.flatMap_cons, List.flatten_cons, List.map_append]
    have e2 : ((st.zipIdx (pre.length + 1)).flatMap fun x => (List.range x.1.length).map fun j => kAt (pre ++ s :: st) (x.2, j)) = st.flatten.map fun r => some r.1 := this
    rw [e2]
    congr 1
    apply List.ext_getElem?
    intro j
    by_cases hj : j < s.length
    · rw [List.getElem?_map, List.getElem?_range hj, List.getElem?_map, List.getElem?_eq_getElem hj]
      simp [kAt, hj]
    · rw [List.getElem?_eq_none (by simp; omega), List.getElem?_eq_none (by simp; omega)]
theorem spots_len (st : Stand) (k : Str) : (spots st k).length = cnt st k := by
  have e := kAt_map [] st
  simp only [List.length_nil, List.nil_append] at e
  have e1 : (allSpots st).map (kAt st) = st.flatten.map fun r => some r.1 := by
    unfold allSpots
    rw [List.map_flatMap, ← e]
    congr 1
    funext x
    rw [List.map_map]
    rfl
  have c := congrArg (List.countP fun o => decide (o = some k)) e1
  rw [List.countP_map, List.countP_map] at c
  unfold spots cnt
  rw [← List.countP_eq_length_filter, ← List.countP_eq_length_filter]
  have f1 : ((fun o => decide (o = some k)) ∘ kAt st) = fun p => decide (kAt st p = some k) := rfl
  have f2 : ((fun o => decide (o = some k)) ∘ fun (r : Run) => some r.1) = fun r => decide (r.1 = k) := by
    funext r; simp
  rw [f1, f2] at c
  exact c
section
variable {F : Nat → Fn} {Ld : Nat → Bool} {W : Nat}
def irAllSpots : List S := [.ret (some (.comp2 (.tup [(.var 1), (.var 3)]) (.tp [(.nm 1), (.nm 2)]) (.enm (.var 0)) [] (.nm 3) (.rng [(.bi .len [(.var 2)])]) [] [1, 2, 3] [3]))]
def AllSpotsFn (f : Fn) : Prop := ∀ st : Stand, Sm 40 st → f [.sh (stD st)] = some (.new (.lst ((allSpots st).map spotD)), none)
theorem allSpots_len (st : Stand) : (allSpots st).length = st.flatten.length := by
  have e := congrArg List.length (kAt_map [] st)
  simp only [List.length_nil, List.nil_append, List.length_map] at e
  rw [← e]
  unfold allSpots
  rw [List.length_flatMap, List.length_flatMap]
  simp
theorem allSpots_fn : AllSpotsFn (runF F Ld W ⟨1, 4, irAllSpots⟩) := by
  intro st hs
  have fl := flat_len hs
  have e : (st.zipIdx.flatMap fun x => ((List.range x.1.length).filter fun _ => true).map fun (j : Nat) => spotD (x.2, j)) = (allSpots st).map spotD := by
    unfold allSpots
    rw [List.map_flatMap]
    congr 1
    funext x
    rw [List.filter_eq_self.2 (by simp), List.map_map]
    rfl
  have h1 := ev_comp2On (F := F) (Ld := Ld) (e := .tup [(.var 1), (.var 3)]) (t := .tp [(.nm 1), (.nm 2)]) (it := .enm (.var 0)) (t1 := .nm 3) (it1 := .rng [(.bi .len [(.var 2)])]) (cs1 := []) (vs := [1, 2, 3]) (vs1 := [3]) (Γ := [.sh (stD st), .no, .no, .no]) (fun x => D.tup [.int (x.2 : Int), shD x.1]) (fun _ (j : Nat) => D.int (j : Int)) (fun _ _ => true) (fun x (j : Nat) => spotD (x.2, j)) st.zipIdx (fun x => List.range x.1.length) (by
      simp only [evI, evE, Sv.bound, takeR, stD, seqT]
      simp only [List.getElem?_cons_zero, if_true, enumD_map]) rfl rfl rfl (by
      rw [e]; simp only [List.length_map]; rw [allSpots_len]; omega) (fun x hx => by
    have hm : x.1 ∈ st := List.mem_of_getElem? (List.mem_zipIdx_iff_getElem?.1 hx)
    have hl := hs.each _ hm
    refine ⟨[.sh (stD st), .sh (.int (x.2 : Int)), .sh (shD x.1), .no], by simp [bindT, bindTs, bindR, mayBind, slOf], ?_, rfl, rfl, by simp; omega, fun j hj => ?_⟩
    · have sm : small62 ((x.1.length : Nat) : Int) = true := by
        unfold small62
        simp only [Bool.and_eq_true, decide_eq_true_eq]
        omega
      have q := rng_ev (F := F) (Ld := Ld) (q := (x.1.length : Int)) (Γ := [.sh (stD st), .sh (.int (x.2 : Int)), .sh (shD x.1), .no]) (e := .bi .len [(.var 2)]) (r := .val (.int x.1.length)) (Γ1 := [.sh (stD st), .sh (.int (x.2 : Int)), .sh (shD x.1), .no]) (by simp [evE, evEs, Sv.bound, readR, readRs, biD, shD]) rfl sm
      rw [q, Int.toNat_natCast, rangeD_map]
    · refine ⟨[.sh (stD st), .sh (.int (x.2 : Int)), .sh (shD x.1), .sh (.int (j : Int))], _, by simp [bindT, bindR, mayBind, slOf], rfl, fun h => by (cases h), fun _ => ⟨.val (spotD (x.2, j)), [.sh (stD st), .sh (.int (x.2 : Int)), .sh (shD x.1), .sh (.int (j : Int))], [.sh (stD st), .sh (.int (x.2 : Int)), .sh (shD x.1), .sh (.int (j : Int))], ?_, rfl, rfl⟩⟩
      simp [evE, evEs, Sv.bound, takeRs, takeR, lim, spotD])
  rw [e] at h1
  simp [runF, irAllSpots, evSs, evS, ↓h1, ioOut]
def irSpots (a : Nat) : List S := [.ret (some (.comp (.tup [(.var 2), (.var 3)]) (.tp [(.nm 2), (.nm 3)]) (.seq (.call a [(.var 0)])) [(.val (.cmp .eq (.ix (.ix (.ix (.var 0) (.var 2)) (.var 3)) (.cst (.int (0)))) (.var 1)))] [2, 3]))]
def SpotsFn (f : Fn) : Prop := ∀ (st : Stand) (k : Str), Sm 40 st → f [.sh (stD st), .sh (.str k)] = some (.new (.lst ((spots st k).map spotD)), none)
theorem atI_nat {α : Type} {l : List α} {i : Nat} {x : α} (h : l[i]? = some x) : atI l (i : Int) = some x := by
  have lt := (List.getElem?_eq_some_iff.1 h).1
  simp only [atI, ixN]
  rw [if_pos (by omega), if_pos (by omega)]
  simpa using h
theorem spots_fn {a : Nat} (ha : AllSpotsFn (F a)) (hl : Ld a = false) : SpotsFn (runF F Ld W ⟨2, 4, irSpots a⟩) := by
  intro st k hs
  have fl := flat_len hs
  have h1 := ev_compOn (F := F) (Ld := Ld) (e := .tup [(.var 2), (.var 3)]) (t := .tp [(.nm 2), (.nm 3)]) (it := .seq (.call a [(.var 0)])) (cs := [(.val (.cmp .eq (.ix (.ix (.ix (.var 0) (.var 2)) (.var 3)) (.cst (.int (0)))) (.var 1)))]) (vs := [2, 3]) (Γ := [.sh (stD st), .sh (.str k), .no, .no]) spotD (fun p => decide (kAt st p = some k)) spotD (allSpots st) (by
      simp [evI, evE, evEs, Sv.bound, callE, hl, takeRs, takeR, ha st hs, notSlot, seqD]) rfl rfl rfl (by rw [allSpots_len]; omega) (fun p hp => by
    obtain ⟨s, r, g1, g2⟩ := spots_mem hp
    refine ⟨[.sh (stD st), .sh (.str k), .sh (.int (p.1 : Int)), .sh (.int (p.2 : Int))], [.sh (stD st), .sh (.str k), .sh (.int (p.1 : Int)), .sh (.int (p.2 : Int))], by simp [bindT, bindTs, bindR, mayBind, slOf, spotD], ?_, fun _ => rfl, fun _ => ⟨.val (spotD p), [.sh (stD st), .sh (.str k), .sh (.int (p.1 : Int)), .sh (.int (p.2 : Int))], [.sh (stD st), .sh (.str k), .sh (.int (p.1 : Int)), .sh (.int (p.2 : Int))], ?_, rfl, rfl⟩⟩
    · have i1 : ixD (stD st) (.int (p.1 : Int)) = some (shD s) := by
        simp only [ixD, stD]
        exact atI_nat (by rw [List.getElem?_map, g1]; rfl)
      have i2 : ixD (shD s) (.int (p.2 : Int)) = some (runD r) := by
        simp only [ixD, shD]
        exact atI_nat (by rw [List.getElem?_map, g2]; rfl)
      have i3 : ixD (runD r) (.int 0) = some (.str r.1) := rfl
      have hk : kAt st p = some r.1 := by simp [kAt, g1, g2]
      rw [hk]
      simp [evCs, evT, evE, Sv.bound, readR, cmpD, dep, eqD, str_beq, i1, i2, i3]
      cases decide (r.1 = k) <;> rfl
    · simp [evE, evEs, Sv.bound, takeRs, takeR, lim, spotD])
  simp [runF, irSpots, evSs, evS, ↓h1, ioOut, spots]
/-! a dict comprehension -/
theorem putD_new {kvs : List (Key × D)} {k : Key} {d : D} (h : k ∉ kvs.map (·.1)) : putD kvs k d = kvs ++ [(k, d)] := by
  unfold putD
  rw [if_neg]
  intro q
  rw [List.any_eq_true] at q
  obtain ⟨x, hx, e⟩ := q
  exact h (List.mem_map.2 ⟨x, hx, by simpa using e⟩)
theorem dcompL_on {α : Type} {vs : List Nat} {fg : D → Gm → Option Gm} {ft : Gm → Option (Bool × Gm)} {fk fe : Gm → Option (D × Gm)} {Γ : Gm} (enc : α → D) (p : α → Bool) (kd : α → D) (kf : α → Key) (f : α → D) : ∀ (l : List α) (acc : List (Key × D)),
    (∀ a ∈ l, ∃ Γ1 Γ2, fg (enc a) Γ = some Γ1 ∧ ft Γ1 = some (p a, Γ2) ∧ (p a = false → wipeG Γ2 vs = Γ) ∧ (p a = true → keyOfD (kd a) = some (kf a) ∧ ∃ Γ3 Γ4, fk Γ2 = some (kd a, Γ3) ∧ fe Γ3 = some (f a, Γ4) ∧ wipeG Γ4 vs = Γ)) → acc.length + l.length ≤ 1000000 → (l.map kf).Nodup → (∀ a ∈ l, kf a ∉ acc.map (·.1)) →
    dcompL vs fg ft fk fe (l.map enc) acc Γ = some (acc ++ (l.filter p).map fun a => (kf a, f a), Γ)
  | [], acc, _, _, _, _ => by simp [dcompL]
  | d :: ds, acc, hs, hl, nd, ac => by
    obtain ⟨Γ1, Γ2, e1, e2, e3, e4⟩ := hs d List.mem_cons_self
    rw [List.map_cons, List.nodup_cons] at nd
    simp only [List.length_cons] at hl
    simp only [List.map_cons, dcompL, e1, e2]
    cases hp : p d with
    | false =>
      simp only [hp, e3 hp]
      rw [dcompL_on enc p kd kf f ds acc (fun d hd => hs d (List.mem_cons_of_mem _ hd)) (by omega) nd.2 fun a ha => ac a (List.mem_cons_of_mem _ ha)]
      simp [List.filter_cons, hp]
    | true =>
      obtain ⟨hk, Γ3, Γ4, q1, q2, q3⟩ := e4 hp
      simp only [hp, q1, q2, hk, q3]
      rw [if_pos (by omega), putD_new (ac d List.mem_cons_self)]
      rw [dcompL_on enc p kd kf f ds (acc ++ [(kf d, f d)]) (fun d hd => hs d (List.mem_cons_of_mem _ hd)) (by simp; omega) nd.2 fun a ha => by
        rw [List.map_append, List.mem_append]
        rintro (h | h)
        · exact ac a (List.mem_cons_of_mem _ ha) h
        · simp only [List.map_cons, List.map_nil, List.mem_singleton] at h
          exact nd.1 (by rw [← h]; exact List.mem_map.2 ⟨a, ha, rfl⟩)]
      simp [List.filter_cons, hp]
def lone (st : Stand) : List (Key × D) := ((kinds st).filter fun k => decide (cnt st k = 1)).map fun k => (.inr k, .int (many st k))
theorem kinds_mem (st : Stand) (k : Str) : k ∈ kinds st ↔ ∃ r ∈ st.flatten, r.1 = k := by
  unfold kinds
  rw [sortU_mem, List.mem_map]
theorem kinds_nodup (st : Stand) : (kinds st).Nodup := srtU_nodup ltS_ord (sortU_srt ltS_ord _)
theorem cnt_mem {st : Stand} {k : Str} (h : 0 < cnt st k) : k ∈ kinds st := by
  rw [kinds_mem]
  unfold cnt at h
  obtain ⟨r, hr⟩ := List.exists_mem_of_length_pos h
  rw [List.mem_filter] at hr
  exact ⟨r, hr.1, by simpa using hr.2⟩
theorem val_map {l : List Str} {g : Str → D} (k : Str) : valD (l.map fun k => (Sum.inr k, g k)) (.inr k) = if k ∈ l then some (g k) else none := by
  induction l with
  | nil => simp [valD]
  | cons x l ih =>
    rw [List.map_cons]
    by_cases h : x = k
    · subst h
      simp [valD]
    · have a : valD ((Sum.inr x, g x) :: l.map fun k => (Sum.inr k, g k)) (.inr k) = valD (l.map fun k => (Sum.inr k, g k)) (.inr k) := by
        simp [valD, List.find?_cons, h]
      rw [a, ih]
      have : k ∈ x :: l ↔ k ∈ l := by
        rw [List.mem_cons]
        exact ⟨fun z => z.elim (fun e => absurd e.symm h) id, .inr⟩
      simp only [this]
theorem lone_val (st : Stand) (k : Str) : valD (lone st) (.inr k) = if cnt st k = 1 then some (.int (many st k)) else none := by
  unfold lone
  rw [val_map (l := (kinds st).filter fun k => decide (cnt st k = 1)) (g := fun k => .int (many st k))]
  by_cases h : cnt st k = 1
  · rw [if_pos h, if_pos]
    rw [List.mem_filter]
    exact ⟨cnt_mem (by omega), by simpa using h⟩
  · rw [if_neg h, if_neg]
    rw [List.mem_filter]
    intro q
    exact h (by simpa using q.2)
theorem kinds_len {st : Stand} {n : Nat} (h : Sm n st) : (kinds st).length ≤ 100 * n := by
  have := nodup_le (kinds st) (st.flatten.map (·.1)) (kinds_nodup st) fun x hx => by
    rw [kinds_mem] at hx
    obtain ⟨r, h1, h2⟩ := hx
    exact List.mem_map.2 ⟨r, h1, h2⟩
  rw [List.length_map] at this
  exact Nat.le_trans this (flat_len h)
def irLone (m k s : Nat) : List S := [.ret (some (.dcomp (.var 1) (.call m [(.var 0), (.var 1)]) (.nm 1) (.seq (.call k [(.var 0)])) [(.val (.cmp .eq (.bi .len [(.call s [(.var 0), (.var 1)])]) (.cst (.int (1)))))] [1]))]
def LoneFn (f : Fn) : Prop := ∀ st : Stand, Sm 40 st → f [.sh (stD st)] = some (.new (.dK (lone st)), none)
theorem lone_fn {m k s : Nat} (hm : ManyFn (F m)) (hk : KindsFn (F k)) (hsp : SpotsFn (F s)) (lm : Ld m = false) (lk : Ld k = false) (ls : Ld s = false) : LoneFn (runF F Ld W ⟨1, 2, irLone m k s⟩) := by
  intro st hs
  have kl := kinds_len hs
  have q := dcompL_on (vs := [1]) (fg := bindT (.nm 1)) (ft := evCs F Ld [(.val (.cmp .eq (.bi .len [(.call s [(.var 0), (.var 1)])]) (.cst (.int (1)))))]) (fk := fun Γ => match evE F Ld (.var 1) Γ with
          | none => none
          | some (r, Γ') => takeR r Γ') (fe := fun Γ => match evE F Ld (.call m [(.var 0), (.var 1)]) Γ with
          | none => none
          | some (r, Γ') => takeR r Γ') (Γ := [.sh (stD st), .no]) D.str (fun x => decide (cnt st x = 1)) D.str Sum.inr (fun x => .int (many st x)) (kinds st) [] (fun x hx => by
      refine ⟨[.sh (stD st), .sh (.str x)], [.sh (stD st), .sh (.str x)], by simp [bindT, bindR, mayBind, slOf], ?_, fun _ => rfl, fun _ => ⟨rfl, [.sh (stD st), .sh (.str x)], [.sh (stD st), .sh (.str x)], ?_, ?_, rfl⟩⟩
      · have c : (spots st x).length = cnt st x := spots_len st x
        have e : (D.int ((cnt st x : Nat) : Int) |> fun d => eqD d (.int 1)) = decide (cnt st x = 1) := by
          simp only [eqD]
          by_cases h : cnt st x = 1
          · simp [h]
          · have : ¬ ((cnt st x : Int) = 1) := by omega
            simp [h, this]
        simp only [eqD] at e
        simp [evCs, evT, evE, evEs, Sv.bound, callE, ls, takeRs, takeR, hsp st x hs, notSlot, readR, readRs, biD, cmpD, dep, eqD, c, e]
        cases decide (cnt st x = 1) <;> rfl
      · simp [evE, Sv.bound, takeR]
      · simp [evE, evEs, Sv.bound, callE, lm, takeRs, takeR, hm st x hs, notSlot]) (by simp; omega) (by
      have := kinds_nodup st
      exact List.Pairwise.map _ (fun a b h e => h (by cases e; rfl)) this) (by simp)
  rw [List.nil_append] at q
  have h1 : evI F Ld (.seq (.call k [(.var 0)])) [.sh (stD st), .no] = some ((kinds st).map .str, [.sh (stD st), .no]) := by
    simp [evI, evE, evEs, Sv.bound, callE, lk, takeRs, takeR, hk st hs, notSlot, seqD]
  have h2 : evE F Ld (.dcomp (.var 1) (.call m [(.var 0), (.var 1)]) (.nm 1) (.seq (.call k [(.var 0)])) [(.val (.cmp .eq (.bi .len [(.call s [(.var 0), (.var 1)])]) (.cst (.int (1)))))] [1]) [.sh (stD st), .no] = some (.new (.dK (lone st)), [.sh (stD st), .no]) := by
    rw [evE, h1]
    simp only [show notIo [.sh (stD st), .no] [1] = true from rfl, if_true]
    split
    · next h => cases q.symm.trans h
    · next h => cases q.symm.trans h; rfl
  simp [runF, irLone, evSs, evS, ↓h2, ioOut]
end
end Sv

namespace Sv
open PySem PySem.Spec PyProof.Rows L2
section
variable {F : Nat → Fn} {Ld : Nat → Bool} {W : Nat}
/-- a loop whose body always goes on, over coded things -/
theorem forL_rel {α : Type} {g : D → Gm → Option Gm} {b : Gm → Option (Fl × Gm)} (enc : α → D) (P : List α → Gm → Prop) (N : Nat) : ∀ (l done : List α) (Γ : Gm),
    (∀ a ∈ l, ∀ done Γ, done.length < N → P done Γ → ∃ Γ1 Γ2, g (enc a) Γ = some Γ1 ∧ b Γ1 = some (.nx, Γ2) ∧ P (done ++ [a]) Γ2) → P done Γ → done.length + l.length ≤ N → ∃ Γ', forL g b (l.map enc) Γ = some (.nx, Γ') ∧ P (done ++ l) Γ'
  | [], done, Γ, _, h, _ => ⟨Γ, rfl, by rw [List.append_nil]; exact h⟩
  | a :: l, done, Γ, hs, h, hl => by
    rw [List.length_cons] at hl
    obtain ⟨Γ1, Γ2, e1, e2, h'⟩ := hs a List.mem_cons_self done Γ (by omega) h
    obtain ⟨Γ', q1, q2⟩ := forL_rel enc P N l (done ++ [a]) Γ2 (fun a ha => hs a (List.mem_cons_of_mem _ ha)) h' (by simp; omega)
    refine ⟨Γ', ?_, by rw [List.append_assoc] at q2; exact q2⟩
    simp only [List.map_cons, forL, e1, e2]
    exact q1
/-! tails -/
def light (st : Stand) (lent : Int) (k : Str) : Bool := decide (cnt st k = 1) && decide (many st k ≤ lent)
def tl (st : Stand) (lent : Int) (s : Shelf) : Nat := (s.reverse.takeWhile fun r => light st lent r.1).length
def tC : T := .an (.val (.cmp .lt (.var 5) (.bi .len [(.var 4)]))) (.val (.cmp .le (.get2 (.var 2) (.ix (.ix (.var 4) (.bin .sub (.neg (.cst (.int (1)))) (.var 5))) (.cst (.int (0)))) (.bin .add (.var 1) (.cst (.int (1))))) (.var 1)))
def tB : List S := [.aug 5 .add (.cst (.int (1)))]
theorem atI_neg {α : Type} {l : List α} {i : Nat} {x : α} (h : l.reverse[i]? = some x) : atI l (-1 - (i : Int)) = some x := by
  have lt := (List.getElem?_eq_some_iff.1 h).1
  rw [List.length_reverse] at lt
  simp only [atI, ixN]
  rw [List.getElem?_reverse lt] at h
  rw [if_neg (by omega), if_pos (by omega)]
  show l[_]? = some x
  rw [← h]
  congr 1
  omega
theorem tC_end {s0 s2 s3 : Sl} {s : Shelf} {lent q : Int} (h : ¬ q < (s.length : Int)) : evT F Ld tC [s0, .sh (.int lent), s2, s3, .sh (shD s), .sh (.int q)] = some (false, [s0, .sh (.int lent), s2, s3, .sh (shD s), .sh (.int q)]) := by
  simp [tC, evT, evE, evEs, Sv.bound, readR, readRs, biD, cmpD, h, shD]
theorem tC_go {s0 s3 : Sl} {st : Stand} {s : Shelf} {r : Run} {lent : Int} {k : Nat} (h : k < s.length) (hr : s.reverse[k]? = some r) : evT F Ld tC [s0, .sh (.int lent), .ow (.dK (lone st)), s3, .sh (shD s), .sh (.int (k : Int))] = some (light st lent r.1, [s0, .sh (.int lent), .ow (.dK (lone st)), s3, .sh (shD s), .sh (.int (k : Int))]) := by
  have i1 : ixD (shD s) (.int (-1 - (k : Int))) = some (runD r) := by
    simp only [ixD, shD]
    exact atI_neg (by rw [← List.map_reverse, List.getElem?_map, hr]; rfl)
  have i2 : ixD (runD r) (.int 0) = some (.str r.1) := rfl
  have g : getD2 (.dK (lone st)) (.str r.1) (.int (lent + 1)) = some (.int (if cnt st r.1 = 1 then many st r.1 else lent + 1)) := by
    simp only [getD2, keyOfD, lone_val]
    by_cases c : cnt st r.1 = 1 <;> simp [c]
  have l1 : (k : Int) < ((s.map runD).length : Int) := by simp; omega
  have e : decide ((if cnt st r.1 = 1 then many st r.1 else lent + 1) ≤ lent) = light st lent r.1 := by
    unfold light
    by_cases c : cnt st r.1 = 1
    · simp [c]
    · simp [c]
      omega
  have lt : ((k : Nat) : Int) < (s.length : Int) := by omega
  simp [tC, evT, evE, evEs, Sv.bound, readR, readRs, biD, cmpD, shD, negD, binD, takeR, isDK, lt]
  have i1' : ixD (.tup (s.map runD)) (.int (-1 - (k : Int))) = some (runD r) := i1
  simp [i1', i2, g, e]
theorem tB_go {s0 s1 s2 s3 s4 : Sl} {q : Int} : evSs F Ld W tB [s0, s1, s2, s3, s4, .sh (.int q)] = some (.nx, [s0, s1, s2, s3, s4, .sh (.int (q + 1))]) := by
  simp [tB, evSs, evS, evE, readR, augD, bindR, mayBind, slOf]
theorem tWhl {s0 s3 : Sl} {st : Stand} {s : Shelf} {lent : Int} : ∀ (m k n : Nat), k + m = s.length → m < n → whileL (evT F Ld tC) (evSs F Ld W tB) n [s0, .sh (.int lent), .ow (.dK (lone st)), s3, .sh (shD s), .sh (.int (k : Int))] =
    some (.nx, [s0, .sh (.int lent), .ow (.dK (lone st)), s3, .sh (shD s), .sh (.int ((k + ((s.reverse.drop k).takeWhile fun r => light st lent r.1).length : Nat) : Int))])
  | 0, k, n + 1, hk, hn => by
    have e : s.reverse.drop k = [] := List.drop_eq_nil_of_le (by simp; omega)
    rw [e]
    simp only [whileL, tC_end (F := F) (Ld := Ld) (s0 := s0) (s3 := s3) (s := s) (q := (k : Int)) (lent := lent) (by omega), List.takeWhile_nil, List.length_nil, Nat.add_zero]
  | m + 1, k, n + 1, hk, hn => by
    have lt : k < s.reverse.length := by simp; omega
    have e : s.reverse.drop k = s.reverse[k] :: s.reverse.drop (k + 1) := List.drop_eq_getElem_cons lt
    have hc := tC_go (F := F) (Ld := Ld) (s0 := s0) (s3 := s3) (st := st) (s := s) (lent := lent) (r := s.reverse[k]) (k := k) (by omega) (List.getElem?_eq_getElem lt)
    rw [e]
    cases hq : light st lent s.reverse[k].1 with
    | false =>
      rw [hq] at hc
      simp only [whileL, hc, List.takeWhile_cons, hq, Bool.false_eq_true, if_false, List.length_nil, Nat.add_zero]
    | true =>
      rw [hq] at hc
      have ih := tWhl (s0 := s0) (s3 := s3) (st := st) (s := s) (lent := lent) m (k + 1) n (by omega) (by omega)
      have hb := tB_go (F := F) (Ld := Ld) (W := W) (s0 := s0) (s1 := .sh (.int lent)) (s2 := .ow (.dK (lone st))) (s3 := s3) (s4 := .sh (shD s)) (q := (k : Int))
      simp only [whileL, hc, hb]
      rw [show ((k : Int) + 1) = ((k + 1 : Nat) : Int) by omega, ih]
      simp only [List.takeWhile_cons, hq, if_true, List.length_cons]
      rw [show k + 1 + (List.takeWhile (fun r => light st lent r.fst) (List.drop (k + 1) s.reverse)).length = k + ((List.takeWhile (fun r => light st lent r.fst) (List.drop (k + 1) s.reverse)).length + 1) by omega]
def irTails (l : Nat) : List S := [
    .par [2, 3] [(.call l [(.var 0)]), (.lst [])],
    .frr (.nm 4) (.seq (.var 0)) [.set 5 (.cst (.int (0))), .whl tC tB, .ex (.app (.var 3) (.var 5))],
    .ret (some (.var 3))]
def TailsFn (f : Fn) : Prop := ∀ (st : Stand) (lent : Int), Sm 40 st → f [.sh (stD st), .sh (.int lent)] = some (.new (.lst ((st.map (tl st lent)).map natD)), none)
theorem tails_fn {l : Nat} (hl : LoneFn (F l)) (ll : Ld l = false) (hW : 200 < W) : TailsFn (runF F Ld W ⟨2, 6, irTails l⟩) := by
  intro st lent hs
  obtain ⟨Γ', g3, g4⟩ := forL_rel (g := bindT (.nm 4)) (b := evSs F Ld W [.set 5 (.cst (.int (0))), .whl tC tB, .ex (.app (.var 3) (.var 5))]) shD
    (fun done Γ => ∃ s4 s5, okS s4 ∧ okS s5 ∧ Γ = [.sh (stD st), .sh (.int lent), .ow (.dK (lone st)), .ow (.lst ((done.map (tl st lent)).map natD)), s4, s5]) 1000 st [] [.sh (stD st), .sh (.int lent), .ow (.dK (lone st)), .ow (.lst []), .no, .no] (fun s hm done Γ hd hp => by
      obtain ⟨s4, s5, h4, h5, rfl⟩ := hp
      generalize hacc : (done.map (tl st lent)).map natD = acc
      have la : acc.length < 1000 := by rw [← hacc]; simpa using hd
      have w := tWhl (F := F) (Ld := Ld) (W := W) (s0 := .sh (stD st)) (s3 := .ow (.lst acc)) (st := st) (s := s) (lent := lent) s.length 0 W (by omega) (by have := hs.each s hm; omega)
      rw [List.drop_zero, Nat.zero_add] at w
      have w' : evS F Ld W (.whl tC tB) [.sh (stD st), .sh (.int lent), .ow (.dK (lone st)), .ow (.lst acc), .sh (shD s), .sh (.int 0)] = some (.nx, [.sh (stD st), .sh (.int lent), .ow (.dK (lone st)), .ow (.lst acc), .sh (shD s), .sh (.int ((tl st lent s : Nat) : Int))]) := by
        rw [evS]; exact w
      have b1 : bindT (.nm 4) (shD s) [.sh (stD st), .sh (.int lent), .ow (.dK (lone st)), .ow (.lst acc), s4, s5] = some [.sh (stD st), .sh (.int lent), .ow (.dK (lone st)), .ow (.lst acc), .sh (shD s), s5] := by
        rcases h4 with rfl | ⟨d, rfl⟩ <;> simp [bindT, bindR, mayBind, slOf]
      have b2 : evS F Ld W (.set 5 (.cst (.int (0)))) [.sh (stD st), .sh (.int lent), .ow (.dK (lone st)), .ow (.lst acc), .sh (shD s), s5] = some (.nx, [.sh (stD st), .sh (.int lent), .ow (.dK (lone st)), .ow (.lst acc), .sh (shD s), .sh (.int 0)]) := by
        rcases h5 with rfl | ⟨d, rfl⟩ <;> simp [evS, evE, settleR, bindR, mayBind, slOf]
      have b3 : evS F Ld W (.ex (.app (.var 3) (.var 5))) [.sh (stD st), .sh (.int lent), .ow (.dK (lone st)), .ow (.lst acc), .sh (shD s), .sh (.int ((tl st lent s : Nat) : Int))] = some (.nx, [.sh (stD st), .sh (.int lent), .ow (.dK (lone st)), .ow (.lst (acc ++ [natD (tl st lent s)])), .sh (shD s), .sh (natD (tl st lent s))]) := by
        have : acc.length < 1000000 := by omega
        simp [evS, evE, Sv.bound, ownAt, takeR, setOwn, this, natD]
      refine ⟨_, _, b1, by simp only [evSs, b2, w', b3]; rfl, .sh (shD s), .sh (natD (tl st lent s)), .inr ⟨_, rfl⟩, .inr ⟨_, rfl⟩, ?_⟩
      rw [← hacc]
      simp) ⟨.no, .no, .inl rfl, .inl rfl, rfl⟩ (by have := hs.len; simp; omega)
  obtain ⟨s4', s5', g1, g2, rfl⟩ := g4
  have f := ev_for (F := F) (Ld := Ld) (W := W) (t := .nm 4) (it := .seq (.var 0)) (b := [.set 5 (.cst (.int (0))), .whl tC tB, .ex (.app (.var 3) (.var 5))]) (Γ := [.sh (stD st), .sh (.int lent), .ow (.dK (lone st)), .ow (.lst []), .no, .no]) (by simp [evI, evE, Sv.bound, takeR, stD, seqD]) g3
  simp only [List.nil_append] at f
  have p1 : evS F Ld W (.par [2, 3] [(.call l [(.var 0)]), (.lst [])]) [.sh (stD st), .sh (.int lent), .no, .no, .no, .no] = some (.nx, [.sh (stD st), .sh (.int lent), .ow (.dK (lone st)), .ow (.lst []), .no, .no]) := by
    simp [evS, evE, evEs, Sv.bound, callE, ll, takeRs, takeR, hl st hs, notSlot, settleRs, settleR, bindRs, bindR, mayBind, slOf]
  refine runF_rt (f := ⟨2, 6, irTails l⟩) (Γ0 := [.sh (stD st), .sh (.int lent), .no, .no, .no, .no]) (Γ := [.sh (stD st), .sh (.int lent), .ow (.dK (lone st)), .no, s4', s5']) rfl rfl ?_
  show evSs F Ld W (irTails l) _ = _
  simp only [irTails, evSs, p1, f]
  simp [evS, evE, Sv.bound]
end
end Sv

namespace Sv
open PySem PySem.Spec PyProof.Rows L2
/-! calls -/
section
variable {F : Nat → Fn} {Ld : Nat → Bool} {W : Nat}
theorem ev_call1 {f : Nat} {e : E} {Γ Γ1 Γ2 : Gm} {r r' : Rs} {d : D} {o : Option D} (h1 : evE F Ld e Γ = some (r, Γ1)) (h2 : takeR r Γ1 = some (d, Γ2)) (hf : F f [.sh d] = some (r', o)) (hn : notSlot r' = true) (hl : Ld f = false) : evE F Ld (.call f [e]) Γ = some (r', Γ2) := by
  simp only [evE, evEs, h1, callE, hl, takeRs, h2, List.map_cons, List.map_nil, hf, hn, if_true]
theorem ev_call2 {f : Nat} {e e' : E} {Γ Γ1 Γ2 Γ3 : Gm} {r r1 r' : Rs} {d d' : D} {o : Option D} (h1 : evE F Ld e Γ = some (r, Γ1)) (h2 : evE F Ld e' Γ1 = some (r1, Γ2)) (h3 : takeRs [r, r1] Γ2 = some ([d, d'], Γ3)) (hf : F f [.sh d, .sh d'] = some (r', o)) (hn : notSlot r' = true) (hl : Ld f = false) : evE F Ld (.call f [e, e']) Γ = some (r', Γ3) := by
  simp only [evE, evEs, h1, h2, callE, hl, h3, List.map_cons, List.map_nil, hf, hn, if_true]
theorem ev_call3 {f : Nat} {e e' e'' : E} {Γ Γ1 Γ2 Γ3 Γ4 : Gm} {r r1 r2 r' : Rs} {d d' d'' : D} {o : Option D} (h1 : evE F Ld e Γ = some (r, Γ1)) (h2 : evE F Ld e' Γ1 = some (r1, Γ2)) (h3 : evE F Ld e'' Γ2 = some (r2, Γ3)) (h4 : takeRs [r, r1, r2] Γ3 = some ([d, d', d''], Γ4)) (hf : F f [.sh d, .sh d', .sh d''] = some (r', o)) (hn : notSlot r' = true) (hl : Ld f = false) : evE F Ld (.call f [e, e', e'']) Γ = some (r', Γ4) := by
  simp only [evE, evEs, h1, h2, h3, callE, hl, h4, List.map_cons, List.map_nil, hf, hn, if_true]
theorem ev_app {i : Nat} {e : E} {Γ Γ1 Γ2 : Gm} {r : Rs} {d : D} {xs0 xs : List D} (hb : Sv.bound Γ i = true) (h0 : ownAt Γ i = some (.lst xs0)) (h1 : evE F Ld e Γ = some (r, Γ1)) (h2 : takeR r Γ1 = some (d, Γ2)) (h3 : ownAt Γ2 i = some (.lst xs)) (hl : xs.length < 1000000) : evS F Ld W (.ex (.app (.var i) e)) Γ = some (.nx, setOwn Γ2 i (.lst (xs ++ [d]))) := by
  simp only [evS, evE, hb, if_true, h0, h1, h2, h3, if_pos hl]
end
/-! words -/
def skS : List Str → Str → Nat
  | [], _ => 0
  | e :: es, x => if e = x then 0 else skS es x + 1
def fdS (es : List Str) : List Str → Nat → List Nat
  | [], _ => []
  | x :: w, k => if k + skS (es.drop k) x = es.length then [] else (k + skS (es.drop k) x) :: fdS es w (k + skS (es.drop k) x + 1)
theorem skp_S (x : Str) : ∀ es : List Str, skp (es.map .str) (.str x) = skS es x
  | [] => rfl
  | e :: es => by
    simp only [List.map_cons, skp, skS, eqD, str_beq, skp_S x es]
    by_cases h : e = x <;> simp [h]
theorem fnd_S (es : List Str) : ∀ (w : List Str) (k : Nat), fnd (es.map .str) (w.map .str) k = fdS es w k
  | [], _ => rfl
  | x :: w, k => by
    simp only [List.map_cons, fnd, fdS, ← List.map_drop, skp_S, List.length_map, fnd_S es w]
def isPart (w es : List Str) : Bool := decide ((fdS es w 0).length = w.length)
theorem str_dep (l : List Str) : ∀ e ∈ l.map D.str, dep e ≤ 64 := by
  intro e he
  obtain ⟨x, _, rfl⟩ := List.mem_map.1 he
  simp [dep]
section
variable {F : Nat → Fn} {Ld : Nat → Bool} {W : Nat}
theorem part_ok {f : Fn} (h : PartFn f) {w es : List Str} (h1 : es.length < 1000) (h2 : w.length < 1000) : f [.sh (woD w), .sh (woD es)] = some (.val (.bl (isPart w es)), none) := by
  have := h (w.map .str) (es.map .str) (by simpa using h1) (str_dep _) (str_dep _) (by simpa using h2)
  rw [fnd_S, List.length_map] at this
  exact this
theorem found_ok {f : Fn} (h : FoundFn f) {w es : List Str} (h1 : es.length < 1000) (h2 : w.length < 1000) : f [.sh (woD w), .sh (woD es)] = some (.new (.lst ((fdS es w 0).map natD)), none) := by
  have := h (w.map .str) (es.map .str) (by simpa using h1) (str_dep _) (str_dep _) (by simpa using h2)
  rw [fnd_S] at this
  exact this
def wish (st : Stand) (lent : Int) (s : Shelf) : List Str := wordOf (s.take (s.length - tl st lent s))
def wished (st : Stand) (lent : Int) : List (List Str) := st.map (wish st lent)
theorem tl_le (st : Stand) (lent : Int) (s : Shelf) : tl st lent s ≤ s.length := by
  unfold tl
  have := (List.takeWhile_prefix (fun r : Run => light st lent r.1) (l := s.reverse)).length_le
  simpa using this
theorem cut_take {α : Type} (xs : List α) (n : Nat) (h : n ≤ xs.length) : cutD xs none (some (n : Int)) = xs.take n := by
  unfold cutD
  show (xs.drop 0).take (HT.sIx xs.length xs.length (some (n : Int)) - 0) = _
  have e : HT.sIx xs.length xs.length (some (n : Int)) = n := by
    show (if (n : Int) < 0 then ((n : Int) + (xs.length : Int)).toNat else min (n : Int).toNat xs.length) = n
    rw [if_neg (by omega), Int.toNat_natCast]
    omega
  rw [e]
  rfl
def irWished (t w : Nat) : List S := [
    .set 2 (.lst []),
    .frr (.tp [(.nm 3), (.nm 4)]) (.zps (.var 0) (.call t [(.var 0), (.var 1)])) [.ex (.app (.var 2) (.call w [(.sl (.var 3) none (some (.bin .sub (.bi .len [(.var 3)]) (.var 4))))]))],
    .ret (some (.var 2))]
def WishedFn (f : Fn) : Prop := ∀ (st : Stand) (lent : Int), Sm 40 st → f [.sh (stD st), .sh (.int lent)] = some (.new (.lst ((wished st lent).map woD)), none)
theorem zipD_mm {α : Type} (f g : α → D) (l : List α) : zipD (l.map f) (l.map g) = l.map fun a => .tup [f a, g a] := by
  unfold zipD
  rw [List.zip_map', List.map_map]
  rfl
theorem wished_fn {t w : Nat} (ht : TailsFn (F t)) (hw : WordFn (F w)) (lt : Ld t = false) (lw : Ld w = false) : WishedFn (runF F Ld W ⟨2, 5, irWished t w⟩) := by
  intro st lent hs
  have z : zipS (stD st) (.lst ((st.map (tl st lent)).map natD)) = some (st.map fun s => .tup [shD s, natD (tl st lent s)]) := by
    simp only [zipS, stD, seqT, List.length_map, if_true, List.map_map, zipD_mm]
    rfl
  obtain ⟨Γ', g3, g4⟩ := forL_rel (g := bindT (.tp [(.nm 3), (.nm 4)])) (b := evSs F Ld W [.ex (.app (.var 2) (.call w [(.sl (.var 3) none (some (.bin .sub (.bi .len [(.var 3)]) (.var 4))))]))]) (fun s => D.tup [shD s, natD (tl st lent s)])
    (fun done Γ => ∃ s3 s4, okS s3 ∧ okS s4 ∧ Γ = [.sh (stD st), .sh (.int lent), .ow (.lst ((done.map (wish st lent)).map woD)), s3, s4]) 1000 st [] [.sh (stD st), .sh (.int lent), .ow (.lst []), .no, .no] (fun s hm done Γ hd hp => by
      obtain ⟨s3, s4, h3, h4, rfl⟩ := hp
      generalize hacc : (done.map (wish st lent)).map woD = acc
      have la : acc.length < 1000000 := by rw [← hacc]; simp; omega
      have b1 : bindT (.tp [(.nm 3), (.nm 4)]) (.tup [shD s, natD (tl st lent s)]) [.sh (stD st), .sh (.int lent), .ow (.lst acc), s3, s4] = some [.sh (stD st), .sh (.int lent), .ow (.lst acc), .sh (shD s), .sh (natD (tl st lent s))] := by
        rcases h3 with rfl | ⟨d, rfl⟩ <;> rcases h4 with rfl | ⟨d, rfl⟩ <;> simp [bindT, bindTs, bindR, mayBind, slOf]
      have tle := tl_le st lent s
      have sl : slD (shD s) none (some ((s.length : Int) - ((tl st lent s : Nat) : Int))) = some (.val (shD (s.take (s.length - tl st lent s)))) := by
        rw [show ((s.length : Int) - ((tl st lent s : Nat) : Int)) = ((s.length - tl st lent s : Nat) : Int) by omega]
        simp only [slD, shD]
        rw [cut_take _ _ (by simp)]
        simp
      have ss := hs.each s hm
      have ww := hw (s.take (s.length - tl st lent s)) (by simp; omega)
      refine ⟨_, [.sh (stD st), .sh (.int lent), .ow (.lst (acc ++ [woD (wish st lent s)])), .sh (shD s), .sh (natD (tl st lent s))], b1, ?_, .sh (shD s), .sh (natD (tl st lent s)), .inr ⟨_, rfl⟩, .inr ⟨_, rfl⟩, ?_⟩
      · have q1 : evE F Ld (.sl (.var 3) none (some (.bin .sub (.bi .len [(.var 3)]) (.var 4)))) [.sh (stD st), .sh (.int lent), .ow (.lst acc), .sh (shD s), .sh (natD (tl st lent s))] = some (.val (shD (s.take (s.length - tl st lent s))), [.sh (stD st), .sh (.int lent), .ow (.lst acc), .sh (shD s), .sh (natD (tl st lent s))]) := by
          have l1 : biD .len [shD s] = some (.val (.int s.length)) := by simp [biD, shD]
          simp [evE, evEs, evO, Sv.bound, readR, readRs, l1, binD, natD, sl]
        have q2 := ev_call1 (f := w) q1 rfl ww rfl lw
        have q3 := ev_app (W := W) (i := 2) (xs0 := acc) (xs := acc) rfl rfl q2 rfl rfl la
        simp only [evSs, q3]
        rfl
      · rw [← hacc]
        simp) ⟨.no, .no, .inl rfl, .inl rfl, rfl⟩ (by have := hs.len; simp; omega)
  obtain ⟨s4', s5', g1, g2, rfl⟩ := g4
  have f := ev_for (F := F) (Ld := Ld) (W := W) (t := .tp [(.nm 3), (.nm 4)]) (it := .zps (.var 0) (.call t [(.var 0), (.var 1)])) (b := [.ex (.app (.var 2) (.call w [(.sl (.var 3) none (some (.bin .sub (.bi .len [(.var 3)]) (.var 4))))]))]) (Γ := [.sh (stD st), .sh (.int lent), .ow (.lst []), .no, .no]) (by
      simp [evI, evE, evEs, Sv.bound, callE, lt, takeRs, takeR, ht st lent hs, notSlot]
      have z' := z
      simp at z'
      simp [z']) g3
  refine runF_rt (f := ⟨2, 5, irWished t w⟩) (Γ0 := [.sh (stD st), .sh (.int lent), .no, .no, .no]) (Γ := [.sh (stD st), .sh (.int lent), .no, s4', s5']) rfl rfl ?_
  show evSs F Ld W (irWished t w) _ = _
  simp only [irWished, evSs]
  rw [show evS F Ld W (.set 2 (.lst [])) [.sh (stD st), .sh (.int lent), .no, .no, .no] = some (.nx, [.sh (stD st), .sh (.int lent), .ow (.lst []), .no, .no]) by simp [evS, evE, evEs, takeRs, settleR, bindR, mayBind, slOf, lim]]
  simp only [f]
  simp [evS, evE, Sv.bound, wished]
end
end Sv

namespace Sv
open PySem PySem.Spec PyProof.Rows L2
def wordAt (one : Stand) (i : Nat) : List Str := wordOf (one.getD i [])
def barD (b : Nat × List Nat) : D := .tup [.int (b.1 : Int), .lst (b.2.map natD)]
def barOf (one : Stand) (l : List (List Str × Nat)) : List (Nat × List Nat) := (l.filter fun x => !isPart x.1 (wordAt one x.2)).map fun x => (x.2, fdS (wordAt one x.2) x.1 0)
def barsL (one other : Stand) (lent : Int) : List (Nat × List Nat) := barOf one (wished other lent).zipIdx
def alike (one other : Stand) : Prop := one.length = other.length ∧ ∀ k ∈ kinds (one ++ other), many one k = many other k
def oBar (l : List (Nat × List Nat)) : D := match l with
  | [] => .non
  | b :: _ => barD b
section
variable {F : Nat → Fn} {Ld : Nat → Bool} {W : Nat}
theorem ev_iff {c : T} {a b : List S} {Γ Γ1 : Gm} {k : Bool} (h : evT F Ld c Γ = some (k, Γ1)) : evS F Ld W (.iff c a b) Γ = evSs F Ld W (if k then a else b) Γ1 := by
  cases k <;> simp only [evS, h] <;> rfl
theorem ev_ntcall {f : Nat} {es : List E} {Γ Γ1 : Gm} {k : Bool} (h : evE F Ld (.call f es) Γ = some (.val (.bl k), Γ1)) : evT F Ld (.nt (.val (.call f es))) Γ = some (!k, Γ1) := by
  simp only [evT, h, readR]
theorem ev_set {i : Nat} {e : E} {Γ Γ1 Γ2 : Gm} {d : D} (h : evE F Ld e Γ = some (.val d, Γ1)) (hb : bindR i (.val d) Γ1 = some Γ2) : evS F Ld W (.set i e) Γ = some (.nx, Γ2) := by
  simp only [evS, h, settleR, hb]
def irBars (wi wd p fo : Nat) : List S := [
    .set 3 (.lst []),
    .frr (.tp [(.nm 4), (.nm 5)]) (.enm (.call wi [(.var 1), (.var 2)])) [.set 6 (.call wd [(.ix (.var 0) (.var 4))]), .iff (.nt (.val (.call p [(.var 5), (.var 6)]))) [.ex (.app (.var 3) (.tup [(.var 4), (.call fo [(.var 5), (.var 6)])]))] []],
    .ret (some (.var 3))]
def BarsFn (f : Fn) : Prop := ∀ (one other : Stand) (lent : Int), Sm 20 one → Sm 20 other → one.length = other.length → f [.sh (stD one), .sh (stD other), .sh (.int lent)] = some (.new (.lst ((barsL one other lent).map barD)), none)
theorem Sm.mono {n m : Nat} {st : Stand} (h : Sm n st) (hm : n ≤ m) : Sm m st := ⟨Nat.le_trans h.len hm, h.each⟩
theorem wish_len {st : Stand} {lent : Int} {s : Shelf} : (wish st lent s).length ≤ s.length := by
  unfold wish wordOf
  simp
theorem bars_fn {wi wd p fo : Nat} (hwi : WishedFn (F wi)) (hwd : WordFn (F wd)) (hp : PartFn (F p)) (hf : FoundFn (F fo)) (l1 : Ld wi = false) (l2 : Ld wd = false) (l3 : Ld p = false) (l4 : Ld fo = false) : BarsFn (runF F Ld W ⟨3, 7, irBars wi wd p fo⟩) := by
  intro one other lent h1 h2 hlen
  obtain ⟨Γ', g3, g4⟩ := forL_rel (g := bindT (.tp [(.nm 4), (.nm 5)])) (b := evSs F Ld W [.set 6 (.call wd [(.ix (.var 0) (.var 4))]), .iff (.nt (.val (.call p [(.var 5), (.var 6)]))) [.ex (.app (.var 3) (.tup [(.var 4), (.call fo [(.var 5), (.var 6)])]))] []]) (fun (x : List Str × Nat) => D.tup [.int (x.2 : Int), woD x.1])
    (fun done Γ => ∃ s4 s5 s6, okS s4 ∧ okS s5 ∧ okS s6 ∧ Γ = [.sh (stD one), .sh (stD other), .sh (.int lent), .ow (.lst ((barOf one done).map barD)), s4, s5, s6]) 1000 (wished other lent).zipIdx [] [.sh (stD one), .sh (stD other), .sh (.int lent), .ow (.lst []), .no, .no, .no] (fun x hx done Γ hd hpp => by
      obtain ⟨s4, s5, s6, q4, q5, q6, rfl⟩ := hpp
      have hx' := List.mem_zipIdx_iff_getElem?.1 hx
      obtain ⟨w, i⟩ := x
      have hi : i < one.length := by
        have := (List.getElem?_eq_some_iff.1 hx').1
        simp [wished] at this
        omega
      obtain ⟨s, hs, hsw⟩ : ∃ s ∈ other, wish other lent s = w := by
        have := List.mem_of_getElem? hx'
        exact List.mem_map.1 this
      have wl : w.length < 1000 := by
        rw [← hsw]
        have a := wish_len (st := other) (lent := lent) (s := s)
        have b := h2.each s hs
        omega
      have ol := h1.each one[i] (List.getElem_mem hi)
      generalize hacc : (barOf one done).map barD = acc
      have la : acc.length < 1000000 := by
        rw [← hacc, List.length_map]
        unfold barOf
        rw [List.length_map]
        have := List.length_filter_le (fun x : List Str × Nat => !isPart x.1 (wordAt one x.2)) done
        omega
      have b1 : bindT (.tp [(.nm 4), (.nm 5)]) (D.tup [.int (i : Int), woD w]) [.sh (stD one), .sh (stD other), .sh (.int lent), .ow (.lst acc), s4, s5, s6] = some [.sh (stD one), .sh (stD other), .sh (.int lent), .ow (.lst acc), .sh (.int (i : Int)), .sh (woD w), s6] := by
        rcases q4 with rfl | ⟨d, rfl⟩ <;> rcases q5 with rfl | ⟨d, rfl⟩ <;> simp [bindT, bindTs, bindR, mayBind, slOf]
      have wA : wordAt one i = wordOf one[i] := by
        unfold wordAt
        rw [List.getD_eq_getElem?_getD, List.getElem?_eq_getElem hi]
        rfl
      have e1 : evE F Ld (.call wd [(.ix (.var 0) (.var 4))]) [.sh (stD one), .sh (stD other), .sh (.int lent), .ow (.lst acc), .sh (.int (i : Int)), .sh (woD w), s6] = some (.val (woD (wordAt one i)), [.sh (stD one), .sh (stD other), .sh (.int lent), .ow (.lst acc), .sh (.int (i : Int)), .sh (woD w), s6]) := by
        have i1 : ixD (stD one) (.int (i : Int)) = some (shD one[i]) := by
          simp only [ixD, stD]
          exact atI_nat (by rw [List.getElem?_map, List.getElem?_eq_getElem hi]; rfl)
        rw [wA]
        exact ev_call1 (r := .val (shD one[i])) (by simp [evE, Sv.bound, readR, i1]) rfl (hwd _ (by omega)) rfl l2
      have e2 : evS F Ld W (.set 6 (.call wd [(.ix (.var 0) (.var 4))])) [.sh (stD one), .sh (stD other), .sh (.int lent), .ow (.lst acc), .sh (.int (i : Int)), .sh (woD w), s6] = some (.nx, [.sh (stD one), .sh (stD other), .sh (.int lent), .ow (.lst acc), .sh (.int (i : Int)), .sh (woD w), .sh (woD (wordAt one i))]) :=
        ev_set e1 (by rcases q6 with rfl | ⟨d, rfl⟩ <;> simp [bindR, mayBind, slOf])
      have wal : (wordAt one i).length < 1000 := by rw [wA]; simp [wordOf]; omega
      have e3 := ev_ntcall (F := F) (Ld := Ld) (f := p) (es := [(.var 5), (.var 6)]) (Γ := [.sh (stD one), .sh (stD other), .sh (.int lent), .ow (.lst acc), .sh (.int (i : Int)), .sh (woD w), .sh (woD (wordAt one i))]) (ev_call2 (r := .slot 5) (r1 := .slot 6) rfl rfl rfl (part_ok hp wal wl) rfl l3)
      have e4 := ev_iff (W := W) (a := [.ex (.app (.var 3) (.tup [(.var 4), (.call fo [(.var 5), (.var 6)])]))]) (b := []) e3
      have bo : barOf one (done ++ [(w, i)]) = barOf one done ++ (if isPart w (wordAt one i) then [] else [(i, fdS (wordAt one i) w 0)]) := by
        unfold barOf
        rw [List.filter_append, List.map_append]
        cases hq : isPart w (wordAt one i) with
        | true => rw [List.filter_cons, if_neg (by simp [hq])]; rfl
        | false => rw [List.filter_cons, if_pos (by simp [hq])]; rfl
      cases hpt : isPart w (wordAt one i) with
      | true =>
        rw [hpt] at e4 bo
        refine ⟨_, [.sh (stD one), .sh (stD other), .sh (.int lent), .ow (.lst acc), .sh (.int (i : Int)), .sh (woD w), .sh (woD (wordAt one i))], b1, ?_, .sh (.int (i : Int)), .sh (woD w), .sh (woD (wordAt one i)), .inr ⟨_, rfl⟩, .inr ⟨_, rfl⟩, .inr ⟨_, rfl⟩, ?_⟩
        · simp only [evSs, e2, e4]
          rfl
        · rw [bo, ← hacc]
          simp
      | false =>
        rw [hpt] at e4 bo
        have e5 : evE F Ld (.tup [(.var 4), (.call fo [(.var 5), (.var 6)])]) [.sh (stD one), .sh (stD other), .sh (.int lent), .ow (.lst acc), .sh (.int (i : Int)), .sh (woD w), .sh (woD (wordAt one i))] = some (.val (barD (i, fdS (wordAt one i) w 0)), [.sh (stD one), .sh (stD other), .sh (.int lent), .ow (.lst acc), .sh (.int (i : Int)), .sh (woD w), .sh (woD (wordAt one i))]) := by
          have c := ev_call2 (F := F) (Ld := Ld) (f := fo) (e := .var 5) (e' := .var 6) (Γ := [.sh (stD one), .sh (stD other), .sh (.int lent), .ow (.lst acc), .sh (.int (i : Int)), .sh (woD w), .sh (woD (wordAt one i))]) (r := .slot 5) (r1 := .slot 6) rfl rfl rfl (found_ok hf wal wl) rfl l4
          have v : evE F Ld (.var 4) [.sh (stD one), .sh (stD other), .sh (.int lent), .ow (.lst acc), .sh (.int (i : Int)), .sh (woD w), .sh (woD (wordAt one i))] = some (.slot 4, [.sh (stD one), .sh (stD other), .sh (.int lent), .ow (.lst acc), .sh (.int (i : Int)), .sh (woD w), .sh (woD (wordAt one i))]) := rfl
          rw [evE]
          simp only [evEs, v, c]
          simp [takeRs, takeR, lim, barD]
        have e6 := ev_app (W := W) (i := 3) (xs0 := acc) (xs := acc) rfl rfl e5 rfl rfl la
        refine ⟨_, [.sh (stD one), .sh (stD other), .sh (.int lent), .ow (.lst (acc ++ [barD (i, fdS (wordAt one i) w 0)])), .sh (.int (i : Int)), .sh (woD w), .sh (woD (wordAt one i))], b1, ?_, .sh (.int (i : Int)), .sh (woD w), .sh (woD (wordAt one i)), .inr ⟨_, rfl⟩, .inr ⟨_, rfl⟩, .inr ⟨_, rfl⟩, ?_⟩
        · simp only [evSs, e2, e4, Bool.not_false, if_true, e6]
          rfl
        · rw [bo, ← hacc]
          simp) ⟨.no, .no, .no, .inl rfl, .inl rfl, .inl rfl, rfl⟩ (by have := h2.len; simp [wished]; omega)
  obtain ⟨s4', s5', s6', g1, g2, g5, rfl⟩ := g4
  have cw := ev_call2 (F := F) (Ld := Ld) (f := wi) (e := .var 1) (e' := .var 2) (Γ := [.sh (stD one), .sh (stD other), .sh (.int lent), .ow (.lst []), .no, .no, .no]) (r := .slot 1) (r1 := .slot 2) rfl rfl rfl (hwi other lent (h2.mono (by omega))) rfl l1
  have f := ev_for (F := F) (Ld := Ld) (W := W) (t := .tp [(.nm 4), (.nm 5)]) (it := .enm (.call wi [(.var 1), (.var 2)])) (b := [.set 6 (.call wd [(.ix (.var 0) (.var 4))]), .iff (.nt (.val (.call p [(.var 5), (.var 6)]))) [.ex (.app (.var 3) (.tup [(.var 4), (.call fo [(.var 5), (.var 6)])]))] []]) (Γ := [.sh (stD one), .sh (stD other), .sh (.int lent), .ow (.lst []), .no, .no, .no]) (by
      simp only [evI, cw, takeR, seqT, enumD_map]) g3
  simp only [List.nil_append] at f
  refine runF_rt (f := ⟨3, 7, irBars wi wd p fo⟩) (Γ0 := [.sh (stD one), .sh (stD other), .sh (.int lent), .no, .no, .no, .no]) (Γ := [.sh (stD one), .sh (stD other), .sh (.int lent), .no, s4', s5', s6']) rfl rfl ?_
  show evSs F Ld W (irBars wi wd p fo) _ = _
  simp only [irBars, evSs]
  rw [show evS F Ld W (.set 3 (.lst [])) [.sh (stD one), .sh (stD other), .sh (.int lent), .no, .no, .no, .no] = some (.nx, [.sh (stD one), .sh (stD other), .sh (.int lent), .ow (.lst []), .no, .no, .no]) by simp [evS, evE, evEs, takeRs, settleR, bindR, mayBind, slOf, lim]]
  simp only [f]
  simp [evS, evE, Sv.bound, barsL]
/-! look_alike -/
def irAlike (k m : Nat) : List S := [
    .iff (.val (.cmp .ne (.bi .len [(.var 0)]) (.bi .len [(.var 1)]))) [.nev] [],
    .frr (.nm 2) (.seq (.call k [(.bin .add (.var 0) (.var 1))])) [.iff (.val (.cmp .ne (.call m [(.var 0), (.var 2)]) (.call m [(.var 1), (.var 2)]))) [.nev] []]]
def AlikeFn (f : Fn) : Prop := ∀ one other : Stand, Sm 20 one → Sm 20 other → alike one other → f [.sh (stD one), .sh (stD other)] = some (.val .non, none)
theorem Sm.app {a b : Stand} (h : Sm 20 a) (h' : Sm 20 b) : Sm 40 (a ++ b) := ⟨by have := h.len; have := h'.len; simp; omega, fun s hs => by
  rcases List.mem_append.1 hs with q | q
  · exact h.each s q
  · exact h'.each s q⟩
theorem alike_fn {k m : Nat} (hk : KindsFn (F k)) (hm : ManyFn (F m)) (lk : Ld k = false) (lm : Ld m = false) : AlikeFn (runF F Ld W ⟨2, 3, irAlike k m⟩) := by
  intro one other h1 h2 ha
  obtain ⟨Γ', g3, s2, q2, rfl⟩ := forL_rel (g := bindT (.nm 2)) (b := evSs F Ld W [.iff (.val (.cmp .ne (.call m [(.var 0), (.var 2)]) (.call m [(.var 1), (.var 2)]))) [.nev] []]) D.str
    (fun done Γ => ∃ s2, okS s2 ∧ Γ = [.sh (stD one), .sh (stD other), s2]) 10000 (kinds (one ++ other)) [] [.sh (stD one), .sh (stD other), .no] (fun x hx done Γ hd hpp => by
      obtain ⟨s2, q2, rfl⟩ := hpp
      have b1 : bindT (.nm 2) (.str x) [.sh (stD one), .sh (stD other), s2] = some [.sh (stD one), .sh (stD other), .sh (.str x)] := by
        rcases q2 with rfl | ⟨d, rfl⟩ <;> simp [bindT, bindR, mayBind, slOf]
      have e := ha.2 x hx
      have c1 := ev_call2 (F := F) (Ld := Ld) (f := m) (e := .var 0) (e' := .var 2) (Γ := [.sh (stD one), .sh (stD other), .sh (.str x)]) (r := .slot 0) (r1 := .slot 2) rfl rfl rfl (hm one x (h1.mono (by omega))) rfl lm
      have c2 := ev_call2 (F := F) (Ld := Ld) (f := m) (e := .var 1) (e' := .var 2) (Γ := [.sh (stD one), .sh (stD other), .sh (.str x)]) (r := .slot 1) (r1 := .slot 2) rfl rfl rfl (hm other x (h2.mono (by omega))) rfl lm
      have t : evT F Ld (.val (.cmp .ne (.call m [(.var 0), (.var 2)]) (.call m [(.var 1), (.var 2)]))) [.sh (stD one), .sh (stD other), .sh (.str x)] = some (false, [.sh (stD one), .sh (stD other), .sh (.str x)]) := by
        simp only [evT]
        rw [evE]
        simp only [c1, c2, readR]
        simp [cmpD, dep, eqD, e]
      refine ⟨_, _, b1, ?_, .sh (.str x), .inr ⟨_, rfl⟩, rfl⟩
      simp only [evSs, ev_iff t]
      rfl) ⟨.no, .inl rfl, rfl⟩ (by have := kinds_len (h1.app h2); simp; omega)
  have ab : evE F Ld (.bin .add (.var 0) (.var 1)) [.sh (stD one), .sh (stD other), .no] = some (.val (stD (one ++ other)), [.sh (stD one), .sh (stD other), .no]) := by
    have a := h1.len
    have b := h2.len
    have : one.length + other.length ≤ 1000000 := by omega
    simp [evE, Sv.bound, readR, binD, stD, lim, this]
  have ck := ev_call1 (F := F) (Ld := Ld) (f := k) ab rfl (hk (one ++ other) (h1.app h2)) rfl lk
  have f := ev_for (F := F) (Ld := Ld) (W := W) (t := .nm 2) (it := .seq (.call k [(.bin .add (.var 0) (.var 1))])) (b := [.iff (.val (.cmp .ne (.call m [(.var 0), (.var 2)]) (.call m [(.var 1), (.var 2)]))) [.nev] []]) (Γ := [.sh (stD one), .sh (stD other), .no]) (by
      simp only [evI, ck, takeR, seqD]) g3
  have t0 : evT F Ld (.val (.cmp .ne (.bi .len [(.var 0)]) (.bi .len [(.var 1)]))) [.sh (stD one), .sh (stD other), .no] = some (false, [.sh (stD one), .sh (stD other), .no]) := by
    have := ha.1
    simp [evT, evE, evEs, Sv.bound, readR, readRs, biD, stD, cmpD, dep, eqD, this]
  simp only [runF, irAlike, List.length_cons, List.length_nil, if_true]
  show (match evSs F Ld W (irAlike k m) [.sh (stD one), .sh (stD other), .no] with
    | some (.nx, Γ) => some (Rs.val .non, ioOut [.sh (stD one), .sh (stD other)] Γ)
    | some (.rt r, Γ) => some (r, ioOut [.sh (stD one), .sh (stD other)] Γ)
    | _ => none) = _
  have run : evSs F Ld W (irAlike k m) [.sh (stD one), .sh (stD other), .no] = some (.nx, [.sh (stD one), .sh (stD other), s2]) := by
    simp only [irAlike, evSs, ev_iff t0, Bool.false_eq_true, if_false, f]
  rw [run]
  rfl
def irBar (a b : Nat) : List S := [
    .ex (.call a [(.var 0), (.var 1)]),
    .set 3 (.call b [(.var 0), (.var 1), (.var 2)]),
    .ret (some (.ite (.val (.cmp .gt (.bi .len [(.var 3)]) (.cst (.int (0))))) (.ix (.var 3) (.cst (.int (0)))) (.cst .non)))]
def BarFn (f : Fn) : Prop := ∀ (one other : Stand) (lent : Int), Sm 20 one → Sm 20 other → alike one other → f [.sh (stD one), .sh (stD other), .sh (.int lent)] = some (.val (oBar (barsL one other lent)), none)
theorem bar_fn {a b : Nat} (ha : AlikeFn (F a)) (hb : BarsFn (F b)) (la : Ld a = false) (lb : Ld b = false) : BarFn (runF F Ld W ⟨3, 4, irBar a b⟩) := by
  intro one other lent h1 h2 al
  have c1 := ev_call2 (F := F) (Ld := Ld) (f := a) (e := .var 0) (e' := .var 1) (Γ := [.sh (stD one), .sh (stD other), .sh (.int lent), .no]) (r := .slot 0) (r1 := .slot 1) rfl rfl rfl (ha one other h1 h2 al) rfl la
  have c2 := ev_call3 (F := F) (Ld := Ld) (f := b) (e := .var 0) (e' := .var 1) (e'' := .var 2) (Γ := [.sh (stD one), .sh (stD other), .sh (.int lent), .no]) (r := .slot 0) (r1 := .slot 1) (r2 := .slot 2) rfl rfl rfl rfl (hb one other lent h1 h2 al.1) rfl lb
  refine runF_rt (f := ⟨3, 4, irBar a b⟩) (Γ0 := [.sh (stD one), .sh (stD other), .sh (.int lent), .no]) (Γ := [.sh (stD one), .sh (stD other), .sh (.int lent), .ow (.lst ((barsL one other lent).map barD))]) rfl rfl ?_
  show evSs F Ld W (irBar a b) _ = _
  have s1 : evS F Ld W (.ex (.call a [(.var 0), (.var 1)])) [.sh (stD one), .sh (stD other), .sh (.int lent), .no] = some (.nx, [.sh (stD one), .sh (stD other), .sh (.int lent), .no]) := by simp only [evS, c1]
  have s2 : evS F Ld W (.set 3 (.call b [(.var 0), (.var 1), (.var 2)])) [.sh (stD one), .sh (stD other), .sh (.int lent), .no] = some (.nx, [.sh (stD one), .sh (stD other), .sh (.int lent), .ow (.lst ((barsL one other lent).map barD))]) := by
    simp only [evS, c2, settleR]
    rfl
  simp only [irBar, evSs, s1, s2]
  cases hb' : barsL one other lent with
  | nil => simp [evS, evE, evT, evEs, Sv.bound, readR, readRs, biD, cmpD, oBar]
  | cons x l => simp [evS, evE, evT, evEs, Sv.bound, readR, readRs, biD, cmpD, oBar, ixD, atI, ixN]
def irComes (b : Nat) : List S := [.ret (some (.cmp .is (.call b [(.var 0), (.var 1), (.var 2)]) (.cst .non)))]
def comes (one other : Stand) (lent : Int) : Bool := (barsL one other lent).isEmpty
def ComesFn (f : Fn) : Prop := ∀ (one other : Stand) (lent : Int), Sm 20 one → Sm 20 other → alike one other → f [.sh (stD one), .sh (stD other), .sh (.int lent)] = some (.val (.bl (comes one other lent)), none)
theorem comes_fn {b : Nat} (hb : BarFn (F b)) (lb : Ld b = false) : ComesFn (runF F Ld W ⟨3, 3, irComes b⟩) := by
  intro one other lent h1 h2 al
  have c2 := ev_call3 (F := F) (Ld := Ld) (f := b) (e := .var 0) (e' := .var 1) (e'' := .var 2) (Γ := [.sh (stD one), .sh (stD other), .sh (.int lent)]) (r := .slot 0) (r1 := .slot 1) (r2 := .slot 2) rfl rfl rfl rfl (hb one other lent h1 h2 al) rfl lb
  refine runF_rt (f := ⟨3, 3, irComes b⟩) (Γ0 := [.sh (stD one), .sh (stD other), .sh (.int lent)]) (Γ := [.sh (stD one), .sh (stD other), .sh (.int lent)]) rfl rfl ?_
  show evSs F Ld W (irComes b) _ = _
  have k : evE F Ld (.cst .non) [.sh (stD one), .sh (stD other), .sh (.int lent)] = some (.val .non, [.sh (stD one), .sh (stD other), .sh (.int lent)]) := rfl
  have e : evE F Ld (.cmp .is (.call b [(.var 0), (.var 1), (.var 2)]) (.cst .non)) [.sh (stD one), .sh (stD other), .sh (.int lent)] = some (.val (.bl (comes one other lent)), [.sh (stD one), .sh (stD other), .sh (.int lent)]) := by
    rw [evE]
    simp only [c2, k, readR]
    unfold comes
    cases barsL one other lent <;> simp [cmpD, oBar, isNon, barD]
  simp only [irComes, evSs, evS, e]
theorem alike_symm {one other : Stand} (h : alike one other) : alike other one := by
  refine ⟨h.1.symm, fun k hk => (h.2 k ?_).symm⟩
  rw [kinds_mem] at hk ⊢
  obtain ⟨r, h1, h2⟩ := hk
  refine ⟨r, ?_, h2⟩
  rw [List.flatten_append, List.mem_append] at h1 ⊢
  exact h1.symm
def irBoth (c : Nat) : List S := [.ret (some (.an (.call c [(.var 0), (.var 1), (.var 2)]) (.call c [(.var 1), (.var 0), (.var 2)])))]
def BothFn (f : Fn) : Prop := ∀ (one other : Stand) (lent : Int), Sm 20 one → Sm 20 other → alike one other → f [.sh (stD one), .sh (stD other), .sh (.int lent)] = some (.val (.bl (comes one other lent && comes other one lent)), none)
theorem both_fn {c : Nat} (hc : ComesFn (F c)) (lc : Ld c = false) : BothFn (runF F Ld W ⟨3, 3, irBoth c⟩) := by
  intro one other lent h1 h2 al
  have c1 := ev_call3 (F := F) (Ld := Ld) (f := c) (e := .var 0) (e' := .var 1) (e'' := .var 2) (Γ := [.sh (stD one), .sh (stD other), .sh (.int lent)]) (r := .slot 0) (r1 := .slot 1) (r2 := .slot 2) rfl rfl rfl rfl (hc one other lent h1 h2 al) rfl lc
  have c2 := ev_call3 (F := F) (Ld := Ld) (f := c) (e := .var 1) (e' := .var 0) (e'' := .var 2) (Γ := [.sh (stD one), .sh (stD other), .sh (.int lent)]) (r := .slot 1) (r1 := .slot 0) (r2 := .slot 2) rfl rfl rfl rfl (hc other one lent h2 h1 (alike_symm al)) rfl lc
  refine runF_rt (f := ⟨3, 3, irBoth c⟩) (Γ0 := [.sh (stD one), .sh (stD other), .sh (.int lent)]) (Γ := [.sh (stD one), .sh (stD other), .sh (.int lent)]) rfl rfl ?_
  show evSs F Ld W (irBoth c) _ = _
  have e : evE F Ld (.an (.call c [(.var 0), (.var 1), (.var 2)]) (.call c [(.var 1), (.var 0), (.var 2)])) [.sh (stD one), .sh (stD other), .sh (.int lent)] = some (.val (.bl (comes one other lent && comes other one lent)), [.sh (stD one), .sh (stD other), .sh (.int lent)]) := by
    rw [evE]
    simp only [c1, readR]
    cases comes one other lent
    · rfl
    · simp only [c2, Bool.true_and]
  simp only [irBoth, evSs, evS, e]
end
end Sv

namespace Sv
open PySem PySem.Spec PyProof.Rows L2
def mx (a b : Int) : Int := if b > a then b else a
def lk (st : Stand) (k : Str) : Option Int := if cnt st k = 1 then some (many st k) else none
def lfR (lk : Str → Option Int) (there : List Str) : List Str → Int → Option Int
  | [], lent => some lent
  | x :: ws, lent => if isPart (x :: ws).reverse there then some lent else match lk x with
    | none => none
    | some m => lfR lk there ws (mx lent m)
def leastFor (lk : Str → Option Int) (there w : List Str) : Option Int := lfR lk there w.reverse 1
def oI : Option Int → D
  | none => .non
  | some i => .int i
theorem isPart_nil (es : List Str) : isPart [] es = true := by simp [isPart, fdS]
section
variable {F : Nat → Fn} {Ld : Nat → Bool} {W : Nat}
def fC (p : Nat) : T := .nt (.val (.call p [(.var 4), (.var 1)]))
def fBo : List S := [.iff (.orr (.val (.cmp .eq (.bi .len [(.var 4)]) (.cst (.int (0))))) (.val (.cmp .nin (.ix (.var 4) (.neg (.cst (.int (1))))) (.var 2)))) [.ret (some (.cst .non))] [], .set 3 (.bi .max [(.var 3), (.ix (.var 2) (.ix (.var 4) (.neg (.cst (.int (1))))))]), .set 4 (.sl (.var 4) none (some (.neg (.cst (.int (1))))))]
def irLeastFor (wd p : Nat) : List S := [
    .par [3, 4] [(.cst (.int (1))), (.call wd [(.var 0)])],
    .whl (fC p) fBo,
    .ret (some (.var 3))]
theorem cut_last {α : Type} (xs : List α) (x : α) : cutD (xs ++ [x]) none (some (-1)) = xs := by
  unfold cutD
  show ((xs ++ [x]).drop 0).take (HT.sIx (xs ++ [x]).length (xs ++ [x]).length (some (-1)) - 0) = xs
  have e : HT.sIx (xs ++ [x]).length (xs ++ [x]).length (some (-1)) = xs.length := by
    show (if (-1 : Int) < 0 then ((-1 : Int) + ((xs ++ [x]).length : Int)).toNat else min (-1 : Int).toNat (xs ++ [x]).length) = xs.length
    rw [if_pos (by omega), List.length_append, List.length_singleton]
    omega
  rw [e]
  simp
theorem lf_whl {p : Nat} (hp : PartFn (F p)) (lp : Ld p = false) {s0 : Sl} {there : List Str} (ht : there.length < 1000) {st : Stand} : ∀ (ws : List Str) (lent : Int) (n : Nat), ws.length < n → ws.length < 1000 →
    ∃ Γ', (whileL (evT F Ld (fC p)) (evSs F Ld W fBo) n [s0, .sh (woD there), .sh (.dK (lone st)), .sh (.int lent), .sh (woD ws.reverse)] =
      match lfR (lk st) there ws lent with
      | some v => some (.nx, [s0, .sh (woD there), .sh (.dK (lone st)), .sh (.int v), Γ'])
      | none => some (.rt (.val .non), [s0, .sh (woD there), .sh (.dK (lone st)), .sh (.int lent), Γ'])) ∨ ∃ l', whileL (evT F Ld (fC p)) (evSs F Ld W fBo) n [s0, .sh (woD there), .sh (.dK (lone st)), .sh (.int lent), .sh (woD ws.reverse)] = some (.rt (.val .non), [s0, .sh (woD there), .sh (.dK (lone st)), .sh (.int l'), Γ']) ∧ lfR (lk st) there ws lent = none
  | [], lent, n + 1, _, _ => by
    have c := ev_ntcall (F := F) (Ld := Ld) (f := p) (es := [(.var 4), (.var 1)]) (Γ := [s0, .sh (woD there), .sh (.dK (lone st)), .sh (.int lent), .sh (woD [])]) (ev_call2 (r := .slot 4) (r1 := .slot 1) rfl rfl rfl (part_ok hp ht (by simp)) rfl lp)
    rw [isPart_nil] at c
    refine ⟨.sh (woD []), .inl ?_⟩
    show whileL (evT F Ld (fC p)) (evSs F Ld W fBo) (n + 1) [s0, .sh (woD there), .sh (.dK (lone st)), .sh (.int lent), .sh (woD [])] = _
    simp only [whileL, fC, c, lfR, Bool.not_true]
  | x :: ws, lent, n + 1, hn, hw => by
    rw [List.length_cons] at hn hw
    have c := ev_ntcall (F := F) (Ld := Ld) (f := p) (es := [(.var 4), (.var 1)]) (Γ := [s0, .sh (woD there), .sh (.dK (lone st)), .sh (.int lent), .sh (woD (x :: ws).reverse)]) (ev_call2 (r := .slot 4) (r1 := .slot 1) rfl rfl rfl (part_ok hp ht (by simp; omega)) rfl lp)
    cases hq : isPart (x :: ws).reverse there with
    | true =>
      rw [hq] at c
      refine ⟨.sh (woD (x :: ws).reverse), .inl ?_⟩
      simp only [whileL, fC, c, lfR, hq, Bool.not_true, if_true]
    | false =>
      rw [hq] at c
      have er : (x :: ws).reverse = ws.reverse ++ [x] := List.reverse_cons
      have ix : ixD (woD (x :: ws).reverse) (.int (-1)) = some (.str x) := by
        simp only [ixD, woD]
        exact atI_neg (i := 0) (by rw [← List.map_reverse, List.reverse_reverse]; rfl)
      have ln : biD .len [woD (x :: ws).reverse] = some (.val (.int ((ws.length + 1 : Nat) : Int))) := by simp [biD, woD]
      have nz : ((((ws.length + 1 : Nat) : Int)) == 0) = false := by
        rw [beq_eq_false_iff_ne]; omega
      have mem : memD (.str x) (.dK (lone st)) = some (lk st x).isSome := by
        simp only [memD, keyOfD, lone_val, lk]
        by_cases h : cnt st x = 1 <;> simp [h]
      have t : evT F Ld (.orr (.val (.cmp .eq (.bi .len [(.var 4)]) (.cst (.int (0))))) (.val (.cmp .nin (.ix (.var 4) (.neg (.cst (.int (1))))) (.var 2)))) [s0, .sh (woD there), .sh (.dK (lone st)), .sh (.int lent), .sh (woD (x :: ws).reverse)] = some (!(lk st x).isSome, [s0, .sh (woD there), .sh (.dK (lone st)), .sh (.int lent), .sh (woD (x :: ws).reverse)]) := by
        generalize woD (x :: ws).reverse = dw at ix ln
        simp [evT, evE, evEs, Sv.bound, readR, readRs, ln, cmpD, dep, eqD, negD, ix, mem]
        rw [show (((ws.length : Int) + 1) == 0) = false by rw [beq_eq_false_iff_ne]; omega]
        simp [ix, mem]
      have i1 := ev_iff (W := W) (a := [.ret (some (.cst .non))]) (b := []) t
      cases hk : lk st x with
      | none =>
        rw [hk] at i1
        refine ⟨.sh (woD (x :: ws).reverse), .inl ?_⟩
        simp only [whileL, fC, c, lfR, hq, hk, Bool.not_false, fBo, evSs, i1, Option.isSome_none, if_true]
        simp [evSs, evS, evE]
      | some m =>
        rw [hk] at i1
        have vx : ixD (.dK (lone st)) (.str x) = some (.int m) := by
          simp only [ixD, keyOfD, lone_val]
          simp only [lk] at hk
          by_cases h : cnt st x = 1
          · simp only [h, if_true] at hk ⊢
            cases hk
            rfl
          · simp [h] at hk
        have s3 : evS F Ld W (.set 3 (.bi .max [(.var 3), (.ix (.var 2) (.ix (.var 4) (.neg (.cst (.int (1))))))])) [s0, .sh (woD there), .sh (.dK (lone st)), .sh (.int lent), .sh (woD (x :: ws).reverse)] = some (.nx, [s0, .sh (woD there), .sh (.dK (lone st)), .sh (.int (mx lent m)), .sh (woD (x :: ws).reverse)]) := by
          generalize woD (x :: ws).reverse = dw at ix
          simp [evS, evE, evEs, Sv.bound, readR, readRs, negD, ix, vx, biD, settleR, bindR, mayBind, slOf, mx]
        have s4 : evS F Ld W (.set 4 (.sl (.var 4) none (some (.neg (.cst (.int (1))))))) [s0, .sh (woD there), .sh (.dK (lone st)), .sh (.int (mx lent m)), .sh (woD (x :: ws).reverse)] = some (.nx, [s0, .sh (woD there), .sh (.dK (lone st)), .sh (.int (mx lent m)), .sh (woD ws.reverse)]) := by
          have sl : slD (woD (x :: ws).reverse) none (some (-1)) = some (.val (woD ws.reverse)) := by
            simp only [slD, woD]
            rw [er, List.map_append, List.map_cons, List.map_nil, cut_last]
          generalize woD (x :: ws).reverse = dw at sl
          simp [evS, evE, evO, Sv.bound, readR, negD, sl, settleR, bindR, mayBind, slOf]
        obtain ⟨Γ', h | h⟩ := lf_whl hp lp (s0 := s0) ht (st := st) ws (mx lent m) n (by omega) (by omega)
        · cases hr : lfR (lk st) there ws (mx lent m) with
          | none =>
            rw [hr] at h
            refine ⟨Γ', .inr ⟨mx lent m, ?_, ?_⟩⟩
            · simp only [whileL, fC, c, Bool.not_false, fBo, evSs, i1, Option.isSome_some, Bool.not_true, Bool.false_eq_true, if_false, s3, s4]
              exact h
            · simp only [lfR, hq, hk, hr]
              rfl
          | some v =>
            rw [hr] at h
            refine ⟨Γ', .inl ?_⟩
            simp only [whileL, fC, c, lfR, hq, hk, hr, Bool.not_false, fBo, evSs, i1, Option.isSome_some, Bool.not_true, Bool.false_eq_true, if_false, s3, s4]
            exact h
        · obtain ⟨l', h, hr⟩ := h
          refine ⟨Γ', .inr ⟨l', ?_, ?_⟩⟩
          · simp only [whileL, fC, c, Bool.not_false, fBo, evSs, i1, Option.isSome_some, Bool.not_true, Bool.false_eq_true, if_false, s3, s4]
            exact h
          · simp only [lfR, hq, hk, hr]
            rfl
def LeastForFn (f : Fn) : Prop := ∀ (s : Shelf) (there : List Str) (st : Stand), s.length ≤ 900 → there.length < 1000 → f [.sh (shD s), .sh (woD there), .sh (.dK (lone st))] = some (.val (oI (leastFor (lk st) there (wordOf s))), none)
theorem leastFor_fn {wd p : Nat} (hw : WordFn (F wd)) (hp : PartFn (F p)) (lw : Ld wd = false) (lp : Ld p = false) (hW : 1000 < W) : LeastForFn (runF F Ld W ⟨3, 5, irLeastFor wd p⟩) := by
  intro s there st hs ht
  have c := ev_call1 (F := F) (Ld := Ld) (f := wd) (e := .var 0) (Γ := [.sh (shD s), .sh (woD there), .sh (.dK (lone st)), .no, .no]) (r := .slot 0) rfl rfl (hw s (by omega)) rfl lw
  have p1 : evS F Ld W (.par [3, 4] [(.cst (.int (1))), (.call wd [(.var 0)])]) [.sh (shD s), .sh (woD there), .sh (.dK (lone st)), .no, .no] = some (.nx, [.sh (shD s), .sh (woD there), .sh (.dK (lone st)), .sh (.int 1), .sh (woD (wordOf s))]) := by
    have k : evE F Ld (.cst (.int 1)) [.sh (shD s), .sh (woD there), .sh (.dK (lone st)), .no, .no] = some (.val (.int 1), [.sh (shD s), .sh (woD there), .sh (.dK (lone st)), .no, .no]) := rfl
    simp only [evS, evEs, k, c, settleRs, settleR, bindRs]
    rfl
  have wl : (wordOf s).reverse.length ≤ 900 := by simp [wordOf]; omega
  obtain ⟨Γ', h⟩ := lf_whl (F := F) (Ld := Ld) (W := W) hp lp (s0 := .sh (shD s)) ht (st := st) (wordOf s).reverse 1 W (by omega) (by omega)
  rw [List.reverse_reverse] at h
  unfold leastFor
  have fin : ∀ {r : Rs} {Γ : Gm}, evSs F Ld W (irLeastFor wd p) [.sh (shD s), .sh (woD there), .sh (.dK (lone st)), .no, .no] = some (.rt r, Γ) → runF F Ld W ⟨3, 5, irLeastFor wd p⟩ [.sh (shD s), .sh (woD there), .sh (.dK (lone st))] = some (r, none) := fun {r Γ} hh => runF_rt (f := ⟨3, 5, irLeastFor wd p⟩) rfl rfl hh
  rcases h with h | ⟨l', h, hr⟩
  · cases hr : lfR (lk st) there (wordOf s).reverse 1 with
    | none =>
      rw [hr] at h
      refine fin (Γ := [.sh (shD s), .sh (woD there), .sh (.dK (lone st)), .sh (.int 1), Γ']) ?_
      have h' : evS F Ld W (.whl (fC p) fBo) [.sh (shD s), .sh (woD there), .sh (.dK (lone st)), .sh (.int 1), .sh (woD (wordOf s))] = some (.rt (.val .non), [.sh (shD s), .sh (woD there), .sh (.dK (lone st)), .sh (.int 1), Γ']) := by rw [evS]; exact h
      simp only [irLeastFor, evSs, p1, h']
      rfl
    | some v =>
      rw [hr] at h
      refine fin (Γ := [.sh (shD s), .sh (woD there), .sh (.dK (lone st)), .sh (.int v), Γ']) ?_
      have h' : evS F Ld W (.whl (fC p) fBo) [.sh (shD s), .sh (woD there), .sh (.dK (lone st)), .sh (.int 1), .sh (woD (wordOf s))] = some (.nx, [.sh (shD s), .sh (woD there), .sh (.dK (lone st)), .sh (.int v), Γ']) := by rw [evS]; exact h
      simp only [irLeastFor, evSs, p1, h']
      simp [evS, evE, Sv.bound, oI]
  · rw [hr]
    refine fin (Γ := [.sh (shD s), .sh (woD there), .sh (.dK (lone st)), .sh (.int l'), Γ']) ?_
    have h' : evS F Ld W (.whl (fC p) fBo) [.sh (shD s), .sh (woD there), .sh (.dK (lone st)), .sh (.int 1), .sh (woD (wordOf s))] = some (.rt (.val .non), [.sh (shD s), .sh (woD there), .sh (.dK (lone st)), .sh (.int l'), Γ']) := by rw [evS]; exact h
    simp only [irLeastFor, evSs, p1, h']
    rfl
def ll (lk : Str → Option Int) : List (Shelf × Shelf) → Int → Option Int
  | [], f => some f
  | x :: r, f => match leastFor lk (wordOf x.2) (wordOf x.1) with
    | none => none
    | some m => ll lk r (mx f m)
def leastLent (one other : Stand) : Option Int := ll (lk other) (other.zip one) 1
def llB (lf wd : Nat) : List S := [.set 6 (.call lf [(.var 4), (.call wd [(.var 5)]), (.var 2)]), .iff (.val (.cmp .is (.var 6) (.cst .non))) [.ret (some (.cst .non))] [], .set 3 (.bi .max [(.var 3), (.var 6)])]
def irLeastLent (al lo lf wd : Nat) : List S := [
    .ex (.call al [(.var 0), (.var 1)]),
    .par [2, 3] [(.call lo [(.var 1)]), (.cst (.int (1)))],
    .frr (.tp [(.nm 4), (.nm 5)]) (.zps (.var 1) (.var 0)) (llB lf wd),
    .ret (some (.var 3))]
def LeastLentFn (f : Fn) : Prop := ∀ one other : Stand, Sm 20 one → Sm 20 other → alike one other → f [.sh (stD one), .sh (stD other)] = some (.val (oI (leastLent one other)), none)
theorem ll_for {lf wd : Nat} (hf : LeastForFn (F lf)) (hw : WordFn (F wd)) (l1 : Ld lf = false) (l2 : Ld wd = false) {s0 s1 : Sl} {st : Stand} : ∀ (l : List (Shelf × Shelf)) (f : Int) (s2 s4 s5 s6 : Sl), (∀ x ∈ l, x.1.length ≤ 100 ∧ x.2.length ≤ 100) → (s2 = .ow (.dK (lone st)) ∨ s2 = .sh (.dK (lone st))) → okS s4 → okS s5 → okS s6 →
    ∃ Γ', forL (bindT (.tp [(.nm 4), (.nm 5)])) (evSs F Ld W (llB lf wd)) (l.map fun x => D.tup [shD x.1, shD x.2]) [s0, s1, s2, .sh (.int f), s4, s5, s6] = (match ll (lk st) l f with
      | some v => some (.nx, Γ')
      | none => some (.rt (.val .non), Γ')) ∧ ∀ v, ll (lk st) l f = some v → ∃ t2 t4 t5 t6, Γ' = [s0, s1, t2, .sh (.int v), t4, t5, t6]
  | [], f, s2, s4, s5, s6, _, _, _, _, _ => ⟨[s0, s1, s2, .sh (.int f), s4, s5, s6], by simp [forL, ll], fun v hv => by simp only [ll, Option.some.injEq] at hv; subst hv; exact ⟨_, _, _, _, rfl⟩⟩
  | (s, t) :: l, f, s2, s4, s5, s6, hl, h2, h4, h5, h6 => by
    obtain ⟨ls, lt⟩ := hl (s, t) List.mem_cons_self
    have b1 : bindT (.tp [(.nm 4), (.nm 5)]) (D.tup [shD s, shD t]) [s0, s1, s2, .sh (.int f), s4, s5, s6] = some [s0, s1, s2, .sh (.int f), .sh (shD s), .sh (shD t), s6] := by
      rcases h4 with rfl | ⟨d, rfl⟩ <;> rcases h5 with rfl | ⟨d, rfl⟩ <;> simp [bindT, bindTs, bindR, mayBind, slOf]
    have c1 : evE F Ld (.call lf [(.var 4), (.call wd [(.var 5)]), (.var 2)]) [s0, s1, s2, .sh (.int f), .sh (shD s), .sh (shD t), s6] = some (.val (oI (leastFor (lk st) (wordOf t) (wordOf s))), [s0, s1, .sh (.dK (lone st)), .sh (.int f), .sh (shD s), .sh (shD t), s6]) := by
      have c0 := ev_call1 (F := F) (Ld := Ld) (f := wd) (e := .var 5) (Γ := [s0, s1, s2, .sh (.int f), .sh (shD s), .sh (shD t), s6]) (r := .slot 5) rfl rfl (hw t (by show t.length ≤ 1000; have : t.length ≤ 100 := lt; omega)) rfl l2
      have r2 : (wordOf t).length < 1000 := by simp [wordOf]; have : t.length ≤ 100 := lt; omega
      refine ev_call3 (F := F) (Ld := Ld) (f := lf) (e := .var 4) (r := .slot 4) (r2 := .slot 2) (Γ1 := [s0, s1, s2, .sh (.int f), .sh (shD s), .sh (shD t), s6]) (Γ3 := [s0, s1, s2, .sh (.int f), .sh (shD s), .sh (shD t), s6]) rfl c0 ?_ ?_ (hf s (wordOf t) st (by have : s.length ≤ 100 := ls; omega) r2) rfl l1
      · rcases h2 with rfl | rfl <;> rfl
      · rcases h2 with rfl | rfl <;> rfl
    have e1 : evS F Ld W (.set 6 (.call lf [(.var 4), (.call wd [(.var 5)]), (.var 2)])) [s0, s1, s2, .sh (.int f), .sh (shD s), .sh (shD t), s6] = some (.nx, [s0, s1, .sh (.dK (lone st)), .sh (.int f), .sh (shD s), .sh (shD t), .sh (oI (leastFor (lk st) (wordOf t) (wordOf s)))]) :=
      ev_set c1 (by rcases h6 with rfl | ⟨d, rfl⟩ <;> simp [bindR, mayBind, slOf])
    cases hr : leastFor (lk st) (wordOf t) (wordOf s) with
    | none =>
      rw [hr] at e1
      refine ⟨[s0, s1, .sh (.dK (lone st)), .sh (.int f), .sh (shD s), .sh (shD t), .sh .non], ?_, fun v hv => ?_⟩
      · have t0 : evT F Ld (.val (.cmp .is (.var 6) (.cst .non))) [s0, s1, .sh (.dK (lone st)), .sh (.int f), .sh (shD s), .sh (shD t), .sh .non] = some (true, [s0, s1, .sh (.dK (lone st)), .sh (.int f), .sh (shD s), .sh (shD t), .sh .non]) := by
          simp [evT, evE, Sv.bound, readR, cmpD, isNon]
        simp only [oI] at e1
        simp only [List.map_cons, forL, b1, llB, evSs, e1, ev_iff t0, if_true, ll, hr]
        simp [evSs, evS, evE]
      · simp only [ll, hr] at hv
        cases hv
    | some m =>
      rw [hr] at e1
      simp only [oI] at e1
      have t0 : evT F Ld (.val (.cmp .is (.var 6) (.cst .non))) [s0, s1, .sh (.dK (lone st)), .sh (.int f), .sh (shD s), .sh (shD t), .sh (.int m)] = some (false, [s0, s1, .sh (.dK (lone st)), .sh (.int f), .sh (shD s), .sh (shD t), .sh (.int m)]) := by
        simp [evT, evE, Sv.bound, readR, cmpD, isNon]
      have e2 : evS F Ld W (.set 3 (.bi .max [(.var 3), (.var 6)])) [s0, s1, .sh (.dK (lone st)), .sh (.int f), .sh (shD s), .sh (shD t), .sh (.int m)] = some (.nx, [s0, s1, .sh (.dK (lone st)), .sh (.int (mx f m)), .sh (shD s), .sh (shD t), .sh (.int m)]) := by
        simp [evS, evE, evEs, Sv.bound, readR, readRs, biD, settleR, bindR, mayBind, slOf, mx]
      obtain ⟨Γ', q1, q2⟩ := ll_for hf hw l1 l2 (s0 := s0) (s1 := s1) (st := st) l (mx f m) (.sh (.dK (lone st))) (.sh (shD s)) (.sh (shD t)) (.sh (.int m)) (fun x hx => hl x (List.mem_cons_of_mem _ hx)) (.inr rfl) (.inr ⟨_, rfl⟩) (.inr ⟨_, rfl⟩) (.inr ⟨_, rfl⟩)
      refine ⟨Γ', ?_, fun v hv => q2 v (by simp only [ll, hr] at hv; exact hv)⟩
      have body : evSs F Ld W (llB lf wd) [s0, s1, s2, .sh (.int f), .sh (shD s), .sh (shD t), s6] = some (.nx, [s0, s1, .sh (.dK (lone st)), .sh (.int (mx f m)), .sh (shD s), .sh (shD t), .sh (.int m)]) := by
        simp only [llB, evSs, e1, ev_iff t0, Bool.false_eq_true, if_false, e2]
      simp only [List.map_cons, forL, b1, body, ll, hr]
      exact q1
theorem leastLent_fn {al lo lf wd : Nat} (ha : AlikeFn (F al)) (ho : LoneFn (F lo)) (hf : LeastForFn (F lf)) (hw : WordFn (F wd)) (l1 : Ld al = false) (l2 : Ld lo = false) (l3 : Ld lf = false) (l4 : Ld wd = false) : LeastLentFn (runF F Ld W ⟨2, 7, irLeastLent al lo lf wd⟩) := by
  intro one other h1 h2 aa
  have c1 := ev_call2 (F := F) (Ld := Ld) (f := al) (e := .var 0) (e' := .var 1) (Γ := [.sh (stD one), .sh (stD other), .no, .no, .no, .no, .no]) (r := .slot 0) (r1 := .slot 1) rfl rfl rfl (ha one other h1 h2 aa) rfl l1
  have c2 := ev_call1 (F := F) (Ld := Ld) (f := lo) (e := .var 1) (Γ := [.sh (stD one), .sh (stD other), .no, .no, .no, .no, .no]) (r := .slot 1) rfl rfl (ho other (h2.mono (by omega))) rfl l2
  have s1 : evS F Ld W (.ex (.call al [(.var 0), (.var 1)])) [.sh (stD one), .sh (stD other), .no, .no, .no, .no, .no] = some (.nx, [.sh (stD one), .sh (stD other), .no, .no, .no, .no, .no]) := by simp only [evS, c1]
  have s2 : evS F Ld W (.par [2, 3] [(.call lo [(.var 1)]), (.cst (.int (1)))]) [.sh (stD one), .sh (stD other), .no, .no, .no, .no, .no] = some (.nx, [.sh (stD one), .sh (stD other), .ow (.dK (lone other)), .sh (.int 1), .no, .no, .no]) := by
    have k : evE F Ld (.cst (.int 1)) [.sh (stD one), .sh (stD other), .no, .no, .no, .no, .no] = some (.val (.int 1), [.sh (stD one), .sh (stD other), .no, .no, .no, .no, .no]) := rfl
    simp only [evS, evEs, c2, k, settleRs, settleR, bindRs]
    rfl
  have z : zipS (stD other) (stD one) = some ((other.zip one).map fun x => D.tup [shD x.1, shD x.2]) := by
    have e := aa.1
    simp only [zipS, stD, seqT, List.length_map, e, if_true, zipD, List.zip_map, List.map_map]
    rfl
  obtain ⟨Γ', q1, q2⟩ := ll_for (F := F) (Ld := Ld) (W := W) hf hw l3 l4 (s0 := .sh (stD one)) (s1 := .sh (stD other)) (st := other) (other.zip one) 1 (.ow (.dK (lone other))) .no .no .no (fun x hx => ⟨h2.each _ (List.of_mem_zip hx).1, h1.each _ (List.of_mem_zip hx).2⟩) (.inl rfl) (.inl rfl) (.inl rfl) (.inl rfl)
  have f := ev_for (F := F) (Ld := Ld) (W := W) (t := .tp [(.nm 4), (.nm 5)]) (it := .zps (.var 1) (.var 0)) (b := llB lf wd) (Γ := [.sh (stD one), .sh (stD other), .ow (.dK (lone other)), .sh (.int 1), .no, .no, .no]) (by
      simp only [evI, evE, Sv.bound, takeRs, takeR]
      simp [z]) q1
  have fin : ∀ {r : Rs} {Γ : Gm}, evSs F Ld W (irLeastLent al lo lf wd) [.sh (stD one), .sh (stD other), .no, .no, .no, .no, .no] = some (.rt r, Γ) → runF F Ld W ⟨2, 7, irLeastLent al lo lf wd⟩ [.sh (stD one), .sh (stD other)] = some (r, none) := fun {r Γ} hh => runF_rt (f := ⟨2, 7, irLeastLent al lo lf wd⟩) rfl rfl hh
  unfold leastLent
  cases hr : ll (lk other) (other.zip one) 1 with
  | none =>
    rw [hr] at f
    refine fin (Γ := Γ') ?_
    simp only [irLeastLent, evSs, s1, s2, f]
    rfl
  | some v =>
    rw [hr] at f
    obtain ⟨t2, t4, t5, t6, rfl⟩ := q2 v hr
    refine fin (Γ := [.sh (stD one), .sh (stD other), t2, .sh (.int v), t4, t5, t6]) ?_
    simp only [irLeastLent, evSs, s1, s2, f]
    simp [evS, evE, Sv.bound, oI]
end
end Sv

namespace Sv
open PySem PySem.Spec PyProof.Rows L2
/-! the law's own loop -/
def RightFn (f : Fn) : Prop := ∀ b : D, Bx 0 b → ∃ b', f [.io b] = some (.val (.bl true), some b')
def cmpLw (s : Nat) : E := .comp (.call s [(.var 2)]) (.nm 3) (.rng [(.cst (.int (1)))]) [] [3]
def bodyLw (bx s : Nat) : List S := [.set 2 (.call bx [(.var 0), (.var 1)]), .iff (.nt (.val (.bi .all [(cmpLw s)]))) [.ret (some (.cst (.bl false)))] []]
def irLaw (m : Int) (bx s : Nat) : List S := [
    .frr (.nm 1) (.rng [(.bin .add (.cst (.int (1))) (.bi .min [(.cst (.int m)), (.bi .len [(.var 0)])]))]) (bodyLw bx s),
    .ret (some (.cst (.bl true)))]
def okM (s : Sl) : Prop := s = .no ∨ ∃ d, s = .ow d
theorem law_fn {F : Nat → Fn} {Ld : Nat → Bool} {W bx s : Nat} {m : Int} (m0 : 0 ≤ m) (m1 : m ≤ 50) (hB : BoxFn (F bx)) (hR : RightFn (F s)) (lb : Ld bx = false) (ls : Ld s = true) (ns : List Int) (hn : ns.length ≤ 63) : runF F Ld W ⟨1, 4, irLaw m bx s⟩ [.sh (.scr ns)] = some (.val (.bl true), none) := by
  have step : ∀ (k : Int) (b : D) (s1 s2 : Sl), 0 ≤ k → k ≤ 1000 → okM s2 → ∃ b', evSs F Ld W (bodyLw bx s) [.sh (.scr ns), .sh (.int k), s2, .no] = some (.nx, [.sh (.scr ns), .sh (.int k), .ow b', .no]) := by
    intro k b s1 s2 k0 k1 h2
    obtain ⟨bb, e1, hb⟩ := hB ns k k0 k1
    obtain ⟨b', e2⟩ := hR bb hb
    refine ⟨b', ?_⟩
    have hc : evE F Ld (cmpLw s) [.sh (.scr ns), .sh (.int k), .ow bb, .no] = some (.new (.lst [.bl true]), [.sh (.scr ns), .sh (.int k), .ow b', .no]) := by
      have r1 : rangeD 0 1 = [.int 0] := rfl
      simp [cmpLw, evE, evEs, evI, evCs, readRs, readR, rngD, small62, r1, notIo, compL, bindT, bindR, mayBind, slOf, Sv.bound, callE, ls, takeRs, takeR, ownAt, e2, notSlot, setOwn, wipeG, restore]
    have hm : mayBind [.sh (.scr ns), .sh (.int k), s2, .no] 2 = true := by
      rcases h2 with rfl | ⟨d, rfl⟩ <;> rfl
    simp [bodyLw, evSs, evS, evE, evEs, evT, ↓hc, Sv.bound, callE, lb, takeRs, takeR, e1, notSlot, settleR, bindR, hm, slOf, readR, readRs, biD, boolsOf]
  have hq : ∃ q : Int, evI F Ld (.rng [(.bin .add (.cst (.int (1))) (.bi .min [(.cst (.int m)), (.bi .len [(.var 0)])]))]) [.sh (.scr ns), .no, .no, .no] = some (rangeD 0 q.toNat, [.sh (.scr ns), .no, .no, .no]) ∧ 0 ≤ q ∧ q ≤ 100 := by
    refine ⟨1 + (if ((ns.length : Nat) : Int) < m then ((ns.length : Nat) : Int) else m), ?_, by split <;> omega, by split <;> omega⟩
    refine rng_ev (r := .val (.int _)) ?_ rfl (by simp only [small62, Bool.and_eq_true, decide_eq_true_eq]; split <;> omega)
    simp [evE, evEs, Sv.bound, readR, readRs, biD, binD]
  obtain ⟨q, hI, q0, q1⟩ := hq
  have loop := forL_inv (g := bindT (.nm 1)) (b := evSs F Ld W (bodyLw bx s)) (P := fun _ Γ => ∃ s1 s2, Γ = [.sh (.scr ns), s1, s2, .no] ∧ okS s1 ∧ okM s2) (rangeD 0 q.toNat) 0 [.sh (.scr ns), .no, .no, .no] (fun d hd i Γ h => by
    obtain ⟨s1, s2, rfl, h1, h2⟩ := h
    obtain ⟨j, hj, rfl⟩ := List.mem_map.1 hd
    have hj := List.mem_range.1 hj
    obtain ⟨b', e⟩ := step (0 + (j : Int)) .non s1 s2 (by omega) (by omega) h2
    refine ⟨_, _, ?_, e, _, _, rfl, .inr ⟨_, rfl⟩, .inr ⟨_, rfl⟩⟩
    rcases h1 with rfl | ⟨d, rfl⟩ <;> rfl) ⟨.no, .no, rfl, .inl rfl, .inl rfl⟩
  obtain ⟨Γe, hl, s1, s2, rfl, _, _⟩ := loop
  have hf := ev_for (F := F) (Ld := Ld) (W := W) hI hl
  exact runF_rt (f := ⟨1, 4, irLaw m bx s⟩) (as := [.sh (.scr ns)]) (Γ0 := [.sh (.scr ns), .no, .no, .no]) (Γ := [.sh (.scr ns), s1, s2, .no]) rfl rfl (by simp only [irLaw, evSs, evS, evE, hI, hl])
end Sv

namespace Sv
open PySem PySem.Spec PyProof.Rows L2
/-! tables: how many books may stay -/
theorem ev_calln {F : Nat → Fn} {Ld : Nat → Bool} {f : Nat} {es : List E} {rs : List Rs} {ds : List D} {Γ Γ1 Γ2 : Gm} {r' : Rs} {o : Option D} (h1 : evEs F Ld es Γ = some (rs, Γ1)) (h2 : takeRs rs Γ1 = some (ds, Γ2)) (hf : F f (ds.map .sh) = some (r', o)) (hn : notSlot r' = true) (hl : Ld f = false) : evE F Ld (.call f es) Γ = some (r', Γ2) := by
  simp only [evE, h1, callE, hl, h2, hf, hn, if_true]
def books (st : Stand) : Int := (st.flatten.map (·.2)).sum
abbrev Row := List (Option Int)
def rowD (r : Row) : D := .lst (r.map oI)
def choD (c : Int × Nat) : D := .tup [.int c.1, .int (c.2 : Int)]
def nr (there : Shelf) (k : Str) (i : Nat) : Int := match there[i]? with
  | some r => if r.1 = k then r.2 else 0
  | none => 0
/-- from the last place on down -/
def chL (there : Shelf) (k : Str) (m w : Int) (ahead : Row) : Nat → Int → List (Int × Nat)
  | 0, _ => []
  | n + 1, near => match decide (0 < near + nr there k n), ahead.getD n none with
    | true, some a => (a + w * (if near + nr there k n < m then near + nr there k n else m), n) :: chL there k m w ahead n (near + nr there k n)
    | _, _ => chL there k m w ahead n (near + nr there k n)
def choic (there : Shelf) (k : Str) (m w : Int) (ahead : Row) (last : Nat) : List (Int × Nat) := (chL there k m w ahead last 0).reverse
theorem chL_len (there : Shelf) (k : Str) (m w : Int) (ahead : Row) : ∀ (n : Nat) (near : Int), (chL there k m w ahead n near).length ≤ n
  | 0, _ => by simp [chL]
  | n + 1, near => by
    have := chL_len there k m w ahead n (near + nr there k n)
    simp only [chL]
    split
    · rw [List.length_cons]; omega
    · omega
section
variable {F : Nat → Fn} {Ld : Nat → Bool} {W : Nat}
def irBooks : List S := [.ret (some (.bi .sum [(.comp2 (.var 3) (.nm 1) (.seq (.var 0)) [] (.tp [(.nm 2), (.nm 3)]) (.seq (.var 1)) [] [1, 2, 3] [2, 3])]))]
def BooksFn (f : Fn) : Prop := ∀ st : Stand, Sm 40 st → f [.sh (stD st)] = some (.val (.int (books st)), none)
theorem books_fn : BooksFn (runF F Ld W ⟨1, 4, irBooks⟩) := by
  intro st hs
  have fl := flat_len hs
  have e : (st.flatMap fun s => (s.filter fun _ => true).map fun (r : Run) => D.int r.2) = (st.flatten.map (·.2)).map D.int := by
    rw [flat_map (fun (r : Run) => D.int r.2) (fun _ => true), List.filter_eq_self.2 (by simp), List.map_map]
    rfl
  have h1 := ev_comp2On (F := F) (Ld := Ld) (e := .var 3) (t := .nm 1) (it := .seq (.var 0)) (t1 := .tp [(.nm 2), (.nm 3)]) (it1 := .seq (.var 1)) (cs1 := []) (vs := [1, 2, 3]) (vs1 := [2, 3]) (Γ := [.sh (stD st), .no, .no, .no]) shD (fun _ => runD) (fun _ _ => true) (fun _ r => .int r.2) st id (by simp [evI, evE, Sv.bound, takeR, stD, seqD]) rfl rfl rfl (by
      show (st.flatMap fun s => (s.filter fun _ => true).map fun (r : Run) => D.int r.2).length ≤ 900000
      rw [e]; simp only [List.length_map]; omega) (fun s hm =>
    ⟨[.sh (stD st), .sh (shD s), .no, .no], by simp [bindT, bindR, mayBind, slOf], by simp [evI, evE, Sv.bound, takeR, shD, seqD], rfl, rfl, by have := hs.each s hm; show s.length ≤ 10000; omega, fun r hr =>
      ⟨[.sh (stD st), .sh (shD s), .sh (.str r.1), .sh (.int r.2)], _, by simp [bindT, bindTs, bindR, mayBind, slOf, runD], rfl, fun h => by (cases h), fun _ => ⟨_, _, _, rfl, rfl, rfl⟩⟩⟩)
  have h2 : intsOf (st.flatMap fun s => (s.filter fun _ => true).map fun (r : Run) => D.int r.2) = some (st.flatten.map (·.2)) := by
    rw [e]; exact intsOf_map _
  simp only [id] at h1
  rw [e] at h1
  unfold books
  generalize hg : st.flatten.map (fun (x : Run) => x.2) = q at h1
  simp [runF, irBooks, evSs, evS, evE, evEs, ↓h1, readR, readRs, biD, ioOut, intsOf_map]
def chB : List S := [.aug 8 .add (.ite (.val (.cmp .eq (.ix (.ix (.var 0) (.var 9)) (.cst (.int (0)))) (.var 5))) (.ix (.ix (.var 0) (.var 9)) (.cst (.int (1)))) (.cst (.int (0)))), .iff (.an (.val (.cmp .gt (.var 8) (.cst (.int (0))))) (.val (.cmp .isn (.ix (.var 2) (.var 9)) (.cst .non)))) [.ex (.app (.var 7) (.tup [(.bin .add (.ix (.var 2) (.var 9)) (.bin .mul (.var 4) (.bi .min [(.var 6), (.var 8)]))), (.var 9)]))] []]
def irChoices : List S := [
    .asg (.tp [(.nm 5), (.nm 6)]) (.var 1),
    .par [7, 8] [(.lst []), (.cst (.int (0)))],
    .frr (.nm 9) (.rng [(.bin .sub (.var 3) (.cst (.int (1)))), (.neg (.cst (.int (1)))), (.neg (.cst (.int (1))))]) chB,
    .ret (some (.rev (.var 7)))]
theorem isNon_oI (a : Int) : isNon (oI (some a)) = false := rfl
theorem ch_step {there : Shelf} {k : Str} {m w near : Int} {ahead : Row} {s1 s3 : Sl} {acc : List D} {n : Nat} (hw : fits64 w = true) (ht : n < there.length) (ha : n < ahead.length) (la : acc.length < 1000000) :
    evSs F Ld W chB [.sh (shD there), s1, .sh (rowD ahead), s3, .sh (.int w), .sh (.str k), .sh (.int m), .ow (.lst acc), .sh (.int near), .sh (.int (n : Int))] =
    some (.nx, [.sh (shD there), s1, .sh (rowD ahead), s3, .sh (.int w), .sh (.str k), .sh (.int m), .ow (.lst (match decide (0 < near + nr there k n), ahead.getD n none with
      | true, some a => acc ++ [choD (a + w * (if near + nr there k n < m then near + nr there k n else m), n)]
      | _, _ => acc)), .sh (.int (near + nr there k n)), .sh (.int (n : Int))]) := by
  have i0 : ixD (shD there) (.int (n : Int)) = some (runD there[n]) := by
    simp only [ixD, shD]
    exact atI_nat (by rw [List.getElem?_map, List.getElem?_eq_getElem ht]; rfl)
  have i1 : ixD (runD there[n]) (.int 0) = some (.str there[n].1) := rfl
  have i2 : ixD (runD there[n]) (.int 1) = some (.int there[n].2) := rfl
  have i3 : ixD (rowD ahead) (.int (n : Int)) = some (oI (ahead.getD n none)) := by
    simp only [ixD, rowD]
    refine atI_nat ?_
    rw [List.getElem?_map, List.getElem?_eq_getElem ha, List.getD_eq_getElem?_getD, List.getElem?_eq_getElem ha]
    rfl
  have hn : nr there k n = if there[n].1 = k then there[n].2 else 0 := by
    unfold nr
    rw [List.getElem?_eq_getElem ht]
  have a1 : evS F Ld W (.aug 8 .add (.ite (.val (.cmp .eq (.ix (.ix (.var 0) (.var 9)) (.cst (.int (0)))) (.var 5))) (.ix (.ix (.var 0) (.var 9)) (.cst (.int (1)))) (.cst (.int (0))))) [.sh (shD there), s1, .sh (rowD ahead), s3, .sh (.int w), .sh (.str k), .sh (.int m), .ow (.lst acc), .sh (.int near), .sh (.int (n : Int))] =
      some (.nx, [.sh (shD there), s1, .sh (rowD ahead), s3, .sh (.int w), .sh (.str k), .sh (.int m), .ow (.lst acc), .sh (.int (near + nr there k n)), .sh (.int (n : Int))]) := by
    rw [hn]
    by_cases h : there[n].1 = k <;> simp [evS, evE, evT, Sv.bound, readR, i0, i1, i2, cmpD, dep, eqD, str_beq, h, augD, bindR, mayBind, slOf]
  generalize hq : near + nr there k n = q at *
  simp only [chB, evSs, a1]
  by_cases h0 : 0 < q
  · cases hh : ahead.getD n none with
    | none =>
      rw [hh] at i3
      have t0 : evT F Ld (.an (.val (.cmp .gt (.var 8) (.cst (.int (0))))) (.val (.cmp .isn (.ix (.var 2) (.var 9)) (.cst .non)))) [.sh (shD there), s1, .sh (rowD ahead), s3, .sh (.int w), .sh (.str k), .sh (.int m), .ow (.lst acc), .sh (.int q), .sh (.int (n : Int))] = some (false, [.sh (shD there), s1, .sh (rowD ahead), s3, .sh (.int w), .sh (.str k), .sh (.int m), .ow (.lst acc), .sh (.int q), .sh (.int (n : Int))]) := by
        simp [evE, evT, Sv.bound, readR, i3, cmpD, h0, oI, isNon]
      simp only [ev_iff t0]
      simp [evSs, h0]
    | some a =>
      rw [hh] at i3
      have t0 : evT F Ld (.an (.val (.cmp .gt (.var 8) (.cst (.int (0))))) (.val (.cmp .isn (.ix (.var 2) (.var 9)) (.cst .non)))) [.sh (shD there), s1, .sh (rowD ahead), s3, .sh (.int w), .sh (.str k), .sh (.int m), .ow (.lst acc), .sh (.int q), .sh (.int (n : Int))] = some (true, [.sh (shD there), s1, .sh (rowD ahead), s3, .sh (.int w), .sh (.str k), .sh (.int m), .ow (.lst acc), .sh (.int q), .sh (.int (n : Int))]) := by
        simp [evE, evT, Sv.bound, readR, i3, cmpD, h0, oI, isNon]
      have e0 : evE F Ld (.tup [(.bin .add (.ix (.var 2) (.var 9)) (.bin .mul (.var 4) (.bi .min [(.var 6), (.var 8)]))), (.var 9)]) [.sh (shD there), s1, .sh (rowD ahead), s3, .sh (.int w), .sh (.str k), .sh (.int m), .ow (.lst acc), .sh (.int q), .sh (.int (n : Int))] = some (.val (choD (a + w * (if q < m then q else m), n)), [.sh (shD there), s1, .sh (rowD ahead), s3, .sh (.int w), .sh (.str k), .sh (.int m), .ow (.lst acc), .sh (.int q), .sh (.int (n : Int))]) := by
        simp [evE, evEs, Sv.bound, readR, readRs, i3, oI, biD, binD, hw, takeRs, takeR, lim, choD]
      have e1 := ev_app (W := W) (i := 7) (xs0 := acc) (xs := acc) rfl rfl e0 rfl rfl la
      simp only [ev_iff t0]
      simp [evSs, e1, h0, setOwn]
  · have t0 : evT F Ld (.an (.val (.cmp .gt (.var 8) (.cst (.int (0))))) (.val (.cmp .isn (.ix (.var 2) (.var 9)) (.cst .non)))) [.sh (shD there), s1, .sh (rowD ahead), s3, .sh (.int w), .sh (.str k), .sh (.int m), .ow (.lst acc), .sh (.int q), .sh (.int (n : Int))] = some (false, [.sh (shD there), s1, .sh (rowD ahead), s3, .sh (.int w), .sh (.str k), .sh (.int m), .ow (.lst acc), .sh (.int q), .sh (.int (n : Int))]) := by
      simp [evE, evT, Sv.bound, readR, cmpD, h0]
    simp only [ev_iff t0]
    simp [evSs, h0]
theorem ch_for {there : Shelf} {k : Str} {m w : Int} {ahead : Row} {s1 s3 : Sl} (hw : fits64 w = true) : ∀ (n : Nat) (near : Int) (acc : List D) (s9 : Sl), okS s9 → n ≤ there.length → n ≤ ahead.length → acc.length + n ≤ 1000000 →
    ∃ near' s9', forL (bindT (.nm 9)) (evSs F Ld W chB) ((List.range n).reverse.map natD) [.sh (shD there), s1, .sh (rowD ahead), s3, .sh (.int w), .sh (.str k), .sh (.int m), .ow (.lst acc), .sh (.int near), s9] =
    some (.nx, [.sh (shD there), s1, .sh (rowD ahead), s3, .sh (.int w), .sh (.str k), .sh (.int m), .ow (.lst (acc ++ (chL there k m w ahead n near).map choD)), .sh (.int near'), s9'])
  | 0, near, acc, s9, _, _, _, _ => ⟨near, s9, by simp [forL, chL]⟩
  | n + 1, near, acc, s9, h9, ht, ha, la => by
    have b1 : bindT (.nm 9) (natD n) [.sh (shD there), s1, .sh (rowD ahead), s3, .sh (.int w), .sh (.str k), .sh (.int m), .ow (.lst acc), .sh (.int near), s9] = some [.sh (shD there), s1, .sh (rowD ahead), s3, .sh (.int w), .sh (.str k), .sh (.int m), .ow (.lst acc), .sh (.int near), .sh (.int (n : Int))] := by
      rcases h9 with rfl | ⟨d, rfl⟩ <;> simp [bindT, bindR, mayBind, slOf, natD]
    have st := ch_step (F := F) (Ld := Ld) (W := W) (there := there) (k := k) (m := m) (w := w) (near := near) (ahead := ahead) (s1 := s1) (s3 := s3) (acc := acc) (n := n) hw (by omega) (by omega) (by omega)
    rw [List.range_succ, List.reverse_append, List.reverse_singleton, List.singleton_append, List.map_cons]
    simp only [forL, b1, st]
    obtain ⟨near', s9', ih⟩ := ch_for (there := there) (k := k) (m := m) (w := w) (ahead := ahead) (s1 := s1) (s3 := s3) hw n (near + nr there k n) (match decide (0 < near + nr there k n), ahead.getD n none with
      | true, some a => acc ++ [choD (a + w * (if near + nr there k n < m then near + nr there k n else m), n)]
      | _, _ => acc) (.sh (.int (n : Int))) (.inr ⟨_, rfl⟩) (by omega) (by omega) (by
        split
        · rw [List.length_append, List.length_singleton]; omega
        · omega)
    refine ⟨near', s9', ih.trans ?_⟩
    simp only [chL]
    split <;> simp
theorem down_rev (n : Nat) : downD ((n : Int) - 1) n = (List.range n).reverse.map natD := by
  apply List.ext_getElem?
  intro i
  unfold downD
  by_cases h : i < n
  · rw [List.getElem?_map, List.getElem?_map, List.getElem?_range h, List.getElem?_reverse (by simpa using h), List.length_range, List.getElem?_range (by omega)]
    simp only [Option.map_some, natD]
    congr 2
    omega
  · rw [List.getElem?_eq_none (by simp; omega), List.getElem?_eq_none (by simp; omega)]
def ChoicesFn (f : Fn) : Prop := ∀ (there : Shelf) (k : Str) (m w : Int) (ahead : Row) (last : Nat), fits64 w = true → last ≤ there.length → last ≤ ahead.length → last ≤ 1000 →
  f [.sh (shD there), .sh (runD (k, m)), .sh (rowD ahead), .sh (.int (last : Int)), .sh (.int w)] = some (.new (.lst ((choic there k m w ahead last).map choD)), none)
theorem choices_fn : ChoicesFn (runF F Ld W ⟨5, 10, irChoices⟩) := by
  intro there k m w ahead last hw ht ha hl
  have s1 : evS F Ld W (.asg (.tp [(.nm 5), (.nm 6)]) (.var 1)) [.sh (shD there), .sh (runD (k, m)), .sh (rowD ahead), .sh (.int (last : Int)), .sh (.int w), .no, .no, .no, .no, .no] = some (.nx, [.sh (shD there), .sh (runD (k, m)), .sh (rowD ahead), .sh (.int (last : Int)), .sh (.int w), .sh (.str k), .sh (.int m), .no, .no, .no]) := by
    simp [evS, evE, Sv.bound, takeR, runD, bindT, bindTs, bindR, mayBind, slOf]
  have s2 : evS F Ld W (.par [7, 8] [(.lst []), (.cst (.int (0)))]) [.sh (shD there), .sh (runD (k, m)), .sh (rowD ahead), .sh (.int (last : Int)), .sh (.int w), .sh (.str k), .sh (.int m), .no, .no, .no] = some (.nx, [.sh (shD there), .sh (runD (k, m)), .sh (rowD ahead), .sh (.int (last : Int)), .sh (.int w), .sh (.str k), .sh (.int m), .ow (.lst []), .sh (.int 0), .no]) := by
    simp [evS, evE, evEs, takeRs, lim, settleRs, settleR, bindRs, bindR, mayBind, slOf]
  obtain ⟨near', s9', lp⟩ := ch_for (F := F) (Ld := Ld) (W := W) (there := there) (k := k) (m := m) (w := w) (ahead := ahead) (s1 := .sh (runD (k, m))) (s3 := .sh (.int (last : Int))) hw last 0 [] .no (.inl rfl) ht ha (by simp; omega)
  have hI : evI F Ld (.rng [(.bin .sub (.var 3) (.cst (.int (1)))), (.neg (.cst (.int (1)))), (.neg (.cst (.int (1))))]) [.sh (shD there), .sh (runD (k, m)), .sh (rowD ahead), .sh (.int (last : Int)), .sh (.int w), .sh (.str k), .sh (.int m), .ow (.lst []), .sh (.int 0), .no] = some ((List.range last).reverse.map natD, [.sh (shD there), .sh (runD (k, m)), .sh (rowD ahead), .sh (.int (last : Int)), .sh (.int w), .sh (.str k), .sh (.int m), .ow (.lst []), .sh (.int 0), .no]) := by
    have q1 : small62 ((last : Int) - 1) = true := by simp only [small62, Bool.and_eq_true, decide_eq_true_eq]; omega
    have q2 : ((last : Int) - 1 - -1).toNat = last := by omega
    have q3 : small62 (-1) = true := rfl
    simp only [evI, evEs, evE, Sv.bound]
    simp [readR, readRs, binD, negD, rngD, q1, q3]
    rw [down_rev, List.map_reverse]
  have f := ev_for (F := F) (Ld := Ld) (W := W) hI lp
  refine runF_rt (f := ⟨5, 10, irChoices⟩) (Γ0 := [.sh (shD there), .sh (runD (k, m)), .sh (rowD ahead), .sh (.int (last : Int)), .sh (.int w), .no, .no, .no, .no, .no]) rfl rfl (Γ := [.sh (shD there), .sh (runD (k, m)), .sh (rowD ahead), .sh (.int (last : Int)), .sh (.int w), .sh (.str k), .sh (.int m), .ow (.lst ([] ++ (chL there k m w ahead last 0).map choD)), .sh (.int near'), s9']) ?_
  show evSs F Ld W irChoices _ = _
  simp only [irChoices, evSs, s1, s2, f]
  simp [evS, evE, Sv.bound, readR, revD, choic]
end
end Sv

namespace Sv
open PySem PySem.Spec PyProof.Rows L2
def okB (s : Sl) : Prop := s = .no ∨ (∃ d, s = .sh d) ∨ ∃ d, s = .ow d
def mxO : List Int → Option Int
  | [] => none
  | n :: ns => some (maxI (n :: ns))
def ent (there : Shelf) (k : Str) (m w : Int) (ahead : Row) (last : Nat) : Option Int := mxO ((choic there k m w ahead last).map (·.1))
def rowN (wo : Str → Int) (there : Shelf) (r : Run) (ahead : Row) : Row := (List.range (there.length + 1)).map (ent there r.1 r.2 (wo r.1) ahead)
def zeros (there : Shelf) : Row := List.replicate (there.length + 1) (some 0)
def rowsA (wo : Str → Int) (there shelf : Shelf) : List Row := shelf.foldl (fun acc r => acc ++ [rowN wo there r (acc.getLastD [])]) [zeros there]
theorem rowsA_snoc (wo : Str → Int) (there shelf : Shelf) (r : Run) : rowsA wo there (shelf ++ [r]) = rowsA wo there shelf ++ [rowN wo there r ((rowsA wo there shelf).getLastD [])] := by
  unfold rowsA
  rw [List.foldl_append]
  rfl
theorem foldl_lens (wo : Str → Int) (there : Shelf) : ∀ (shelf : Shelf) (acc : List Row), (∀ row ∈ acc, row.length = there.length + 1) → (∀ row ∈ shelf.foldl (fun acc r => acc ++ [rowN wo there r (acc.getLastD [])]) acc, row.length = there.length + 1) ∧ (shelf.foldl (fun acc r => acc ++ [rowN wo there r (acc.getLastD [])]) acc).length = acc.length + shelf.length
  | [], acc, h => ⟨h, by simp⟩
  | r :: shelf, acc, h => by
    have := foldl_lens wo there shelf (acc ++ [rowN wo there r (acc.getLastD [])]) (fun row hr => by
      rcases List.mem_append.1 hr with q | q
      · exact h row q
      · rw [List.mem_singleton] at q
        subst q
        simp [rowN])
    refine ⟨this.1, this.2.trans ?_⟩
    simp
    omega
theorem rowsA_each (wo : Str → Int) (there shelf : Shelf) : ∀ row ∈ rowsA wo there shelf, row.length = there.length + 1 := (foldl_lens wo there shelf [zeros there] (by simp [zeros])).1
theorem rowsA_len (wo : Str → Int) (there shelf : Shelf) : (rowsA wo there shelf).length = shelf.length + 1 := by
  have := (foldl_lens wo there shelf [zeros there] (by simp [zeros])).2
  unfold rowsA
  rw [this]
  simp
  omega
theorem maxDf_mxO (ns : List Int) : maxDf ns .non = oI (mxO ns) := by cases ns <;> rfl
section
variable {F : Nat → Fn} {Ld : Nat → Bool} {W : Nat}
def rC1 (c : Nat) : E := .call c [(.var 0), (.var 4), (.ix (.var 3) (.neg (.cst (.int (1))))), (.var 6), (.get2 (.var 2) (.ix (.var 4) (.cst (.int (0)))) (.cst (.int (1))))]
def rC2 : E := .comp (.var 8) (.tp [(.nm 8), (.nm 9)]) (.seq (.var 7)) [] [8, 9]
def rB (c : Nat) : List S := [.set 7 (rC1 c), .ex (.app (.var 5) (.maxd rC2 (.cst .non)))]
def rO (c : Nat) : List S := [.set 5 (.lst []), .frr (.nm 6) (.rng [(.bin .add (.bi .len [(.var 0)]) (.cst (.int (1))))]) (rB c), .ex (.app (.var 3) (.var 5))]
def irRows (c : Nat) : List S := [
    .set 3 (.lst [(.bin .mul (.lst [(.cst (.int (0)))]) (.bin .add (.bi .len [(.var 0)]) (.cst (.int (1)))))]),
    .frr (.nm 4) (.seq (.var 1)) (rO c),
    .ret (some (.var 3))]
theorem atI_last {α : Type} {l : List α} {x : α} (h : l.getLast? = some x) : atI l (-1) = some x := by
  have := atI_neg (l := l) (i := 0) (x := x) (by
    rw [← List.head?_eq_getElem?, List.head?_reverse]
    exact h)
  simpa using this
theorem last_row {l : List Row} (h : l ≠ []) : ixD (.lst (l.map rowD)) (.int (-1)) = some (rowD (l.getLastD [])) := by
  simp only [ixD]
  refine atI_last ?_
  rw [List.getLast?_map, List.getLast?_eq_some_getLast h, List.getLastD_eq_getLast?, List.getLast?_eq_some_getLast h]
  rfl
theorem row_step {c : Nat} (hc : ChoicesFn (F c)) (lc : Ld c = false) {there : Shelf} {s1 s7 : Sl} {kv : List (Key × D)} {k : Str} {m w : Int} {rows : List Row} {acc : List D} {last : Nat} (hr : rows ≠ []) (hg : getD2 (.dK kv) (.str k) (.int 1) = some (.int w)) (hw : fits64 w = true) (h1 : last ≤ there.length) (h2 : last ≤ (rows.getLastD []).length) (h3 : last ≤ 1000) (h7 : okB s7) (la : acc.length < 1000000) :
    ∃ s7', okB s7' ∧ evSs F Ld W (rB c) [.sh (shD there), s1, .sh (.dK kv), .ow (.lst (rows.map rowD)), .sh (runD (k, m)), .ow (.lst acc), .sh (.int (last : Int)), s7, .no, .no] =
    some (.nx, [.sh (shD there), s1, .sh (.dK kv), .ow (.lst (rows.map rowD)), .sh (runD (k, m)), .ow (.lst (acc ++ [oI (ent there k m w (rows.getLastD []) last)])), .sh (.int (last : Int)), s7', .no, .no]) := by
  have e1 : evEs F Ld [(.var 0), (.var 4), (.ix (.var 3) (.neg (.cst (.int (1))))), (.var 6), (.get2 (.var 2) (.ix (.var 4) (.cst (.int (0)))) (.cst (.int (1))))] [.sh (shD there), s1, .sh (.dK kv), .ow (.lst (rows.map rowD)), .sh (runD (k, m)), .ow (.lst acc), .sh (.int (last : Int)), s7, .no, .no] =
      some ([.slot 0, .slot 4, .val (rowD (rows.getLastD [])), .slot 6, .val (.int w)], [.sh (shD there), s1, .sh (.dK kv), .ow (.lst (rows.map rowD)), .sh (runD (k, m)), .ow (.lst acc), .sh (.int (last : Int)), s7, .no, .no]) := by
    have i1 : ixD (runD (k, m)) (.int 0) = some (.str k) := rfl
    have i2 := last_row hr
    simp only [evEs, evE, Sv.bound]
    simp [readR, negD, i1, i2, takeR, isDK, hg]
  have c1 := ev_calln (f := c) e1 (ds := [shD there, runD (k, m), rowD (rows.getLastD []), .int (last : Int), .int w]) (Γ2 := [.sh (shD there), s1, .sh (.dK kv), .ow (.lst (rows.map rowD)), .sh (runD (k, m)), .ow (.lst acc), .sh (.int (last : Int)), s7, .no, .no]) rfl (hc there k m w (rows.getLastD []) last hw h1 h2 h3) rfl lc
  generalize hch : choic there k m w (rows.getLastD []) last = ch at c1
  have cl : ch.length ≤ 1000 := by
    rw [← hch]
    unfold choic
    rw [List.length_reverse]
    exact Nat.le_trans (chL_len _ _ _ _ _ _ _) h3
  have st1 : evS F Ld W (.set 7 (rC1 c)) [.sh (shD there), s1, .sh (.dK kv), .ow (.lst (rows.map rowD)), .sh (runD (k, m)), .ow (.lst acc), .sh (.int (last : Int)), s7, .no, .no] = some (.nx, [.sh (shD there), s1, .sh (.dK kv), .ow (.lst (rows.map rowD)), .sh (runD (k, m)), .ow (.lst acc), .sh (.int (last : Int)), .ow (.lst (ch.map choD)), .no, .no]) := by
    rw [rC1]
    simp only [evS, c1, settleR]
    rcases h7 with rfl | ⟨d, rfl⟩ | ⟨d, rfl⟩ <;> rfl
  have fz : takeR (.slot 7) [.sh (shD there), s1, .sh (.dK kv), .ow (.lst (rows.map rowD)), .sh (runD (k, m)), .ow (.lst acc), .sh (.int (last : Int)), .ow (.lst (ch.map choD)), .no, .no] = some (.lst (ch.map choD), [.sh (shD there), s1, .sh (.dK kv), .ow (.lst (rows.map rowD)), .sh (runD (k, m)), .ow (.lst acc), .sh (.int (last : Int)), .sh (.lst (ch.map choD)), .no, .no]) := rfl
  have cI : evI F Ld (.seq (.var 7)) [.sh (shD there), s1, .sh (.dK kv), .ow (.lst (rows.map rowD)), .sh (runD (k, m)), .ow (.lst acc), .sh (.int (last : Int)), .ow (.lst (ch.map choD)), .no, .no] = some (ch.map choD, [.sh (shD there), s1, .sh (.dK kv), .ow (.lst (rows.map rowD)), .sh (runD (k, m)), .ow (.lst acc), .sh (.int (last : Int)), .sh (.lst (ch.map choD)), .no, .no]) := by
    have v : evE F Ld (.var 7) [.sh (shD there), s1, .sh (.dK kv), .ow (.lst (rows.map rowD)), .sh (runD (k, m)), .ow (.lst acc), .sh (.int (last : Int)), .ow (.lst (ch.map choD)), .no, .no] = some (.slot 7, [.sh (shD there), s1, .sh (.dK kv), .ow (.lst (rows.map rowD)), .sh (runD (k, m)), .ow (.lst acc), .sh (.int (last : Int)), .ow (.lst (ch.map choD)), .no, .no]) := rfl
    simp only [evI, v, fz, seqD]
  have cC : evE F Ld rC2 [.sh (shD there), s1, .sh (.dK kv), .ow (.lst (rows.map rowD)), .sh (runD (k, m)), .ow (.lst acc), .sh (.int (last : Int)), .ow (.lst (ch.map choD)), .no, .no] = some (.new (.lst ((ch.map (·.1)).map .int)), [.sh (shD there), s1, .sh (.dK kv), .ow (.lst (rows.map rowD)), .sh (runD (k, m)), .ow (.lst acc), .sh (.int (last : Int)), .sh (.lst (ch.map choD)), .no, .no]) := by
    have q := compL_on (vs := [8, 9]) (fg := bindT (.tp [(.nm 8), (.nm 9)])) (ft := evCs F Ld []) (fe := fun Γ => match evE F Ld (.var 8) Γ with
          | none => none
          | some (r, Γ') => takeR r Γ') (Γ := [.sh (shD there), s1, .sh (.dK kv), .ow (.lst (rows.map rowD)), .sh (runD (k, m)), .ow (.lst acc), .sh (.int (last : Int)), .sh (.lst (ch.map choD)), .no, .no]) choD (fun _ => true) (fun x => .int x.1) ch [] (fun a ha =>
        ⟨[.sh (shD there), s1, .sh (.dK kv), .ow (.lst (rows.map rowD)), .sh (runD (k, m)), .ow (.lst acc), .sh (.int (last : Int)), .sh (.lst (ch.map choD)), .sh (.int a.1), .sh (.int (a.2 : Int))], _, by simp [bindT, bindTs, bindR, mayBind, slOf, choD], rfl, fun h => by (cases h), fun _ => ⟨_, rfl, rfl⟩⟩) (by simp; omega)
    have := ev_comp (F := F) (Ld := Ld) (e := .var 8) (t := .tp [(.nm 8), (.nm 9)]) (cs := []) (vs := [8, 9]) (out := (ch.map (·.1)).map .int) cI rfl (by
      rw [List.nil_append, List.filter_eq_self.2 (by simp)] at q
      rw [List.map_map]
      exact q)
    exact this
  have cM : evE F Ld (.maxd rC2 (.cst .non)) [.sh (shD there), s1, .sh (.dK kv), .ow (.lst (rows.map rowD)), .sh (runD (k, m)), .ow (.lst acc), .sh (.int (last : Int)), .ow (.lst (ch.map choD)), .no, .no] = some (.val (oI (mxO (ch.map (·.1)))), [.sh (shD there), s1, .sh (.dK kv), .ow (.lst (rows.map rowD)), .sh (runD (k, m)), .ow (.lst acc), .sh (.int (last : Int)), .sh (.lst (ch.map choD)), .no, .no]) := by
    have k0 : evE F Ld (.cst .non) [.sh (shD there), s1, .sh (.dK kv), .ow (.lst (rows.map rowD)), .sh (runD (k, m)), .ow (.lst acc), .sh (.int (last : Int)), .sh (.lst (ch.map choD)), .no, .no] = some (.val .non, [.sh (shD there), s1, .sh (.dK kv), .ow (.lst (rows.map rowD)), .sh (runD (k, m)), .ow (.lst acc), .sh (.int (last : Int)), .sh (.lst (ch.map choD)), .no, .no]) := rfl
    rw [evE]
    simp only [cC, k0, takeR, readR, intsOf_map, maxDf_mxO]
  have cA := ev_app (W := W) (i := 5) (xs0 := acc) (xs := acc) rfl rfl cM rfl rfl la
  refine ⟨.sh (.lst (ch.map choD)), .inr (.inl ⟨_, rfl⟩), ?_⟩
  simp only [rB, evSs, st1, cA]
  unfold ent
  rw [hch]
  rfl
end
end Sv

namespace Sv
open PySem PySem.Spec PyProof.Rows L2
section
variable {F : Nat → Fn} {Ld : Nat → Bool} {W : Nat}
def RowsFn (f : Fn) : Prop := ∀ (there shelf : Shelf) (kv : List (Key × D)) (wo : Str → Int), (∀ k, getD2 (.dK kv) (.str k) (.int 1) = some (.int (wo k)) ∧ fits64 (wo k) = true) → there.length ≤ 100 → shelf.length ≤ 100 →
  f [.sh (shD there), .sh (shD shelf), .sh (.dK kv)] = some (.new (.lst ((rowsA wo there shelf).map rowD)), none)
theorem rangeD_nat (n : Nat) : rangeD 0 n = (List.range n).map natD := by
  unfold rangeD natD
  apply List.map_congr_left
  intro k _
  simp
theorem getLastD_mem {l : List Row} (h : l ≠ []) : l.getLastD [] ∈ l := by
  rw [List.getLastD_eq_getLast?, List.getLast?_eq_some_getLast h]
  exact List.getLast_mem h
theorem evSs_nx {s : S} {ss : List S} {Γ Γ1 : Gm} (h : evS F Ld W s Γ = some (.nx, Γ1)) : evSs F Ld W (s :: ss) Γ = evSs F Ld W ss Γ1 := by
  rw [evSs, h]
theorem len1_ev (there : Shelf) (Γ : Gm) : evE F Ld (.bin .add (.bi .len [(.var 0)]) (.cst (.int (1)))) (.sh (shD there) :: Γ) = some (.val (.int ((there.length : Int) + 1)), .sh (shD there) :: Γ) := by
  have l : biD .len [shD there] = some (.val (.int (there.length : Int))) := by simp [biD, shD]
  generalize (there.length : Int) = L at *
  generalize shD there = d at *
  have v : evE F Ld (.var 0) (.sh d :: Γ) = some (.slot 0, .sh d :: Γ) := rfl
  have r : readRs [.slot 0] (.sh d :: Γ) = some [d] := rfl
  simp [evE, evEs, Sv.bound, r, l, readR, binD]
theorem row_loop {c : Nat} (hc : ChoicesFn (F c)) (lc : Ld c = false) {there : Shelf} {s1 s5 s6 s7 : Sl} {kv : List (Key × D)} {k : Str} {m w : Int} {rows : List Row} (hr : rows ≠ []) (hrl : ∀ row ∈ rows, row.length = there.length + 1) (hg : getD2 (.dK kv) (.str k) (.int 1) = some (.int w)) (hw : fits64 w = true) (ht : there.length ≤ 100) (h5 : okB s5) (h6 : okS s6) (h7 : okB s7) (rl : rows.length < 1000) :
    ∃ s5' s6' s7', okB s5' ∧ okS s6' ∧ okB s7' ∧ evSs F Ld W (rO c) [.sh (shD there), s1, .sh (.dK kv), .ow (.lst (rows.map rowD)), .sh (runD (k, m)), s5, s6, s7, .no, .no] =
    some (.nx, [.sh (shD there), s1, .sh (.dK kv), .ow (.lst ((rows ++ [(List.range (there.length + 1)).map (ent there k m w (rows.getLastD []))]).map rowD)), .sh (runD (k, m)), s5', s6', s7', .no, .no]) := by
  have ll := hrl _ (getLastD_mem hr)
  obtain ⟨Γ', g3, g4⟩ := forL_rel (g := bindT (.nm 6)) (b := evSs F Ld W (rB c)) natD
    (fun done Γ => ∃ s6 s7, okS s6 ∧ okB s7 ∧ Γ = [.sh (shD there), s1, .sh (.dK kv), .ow (.lst (rows.map rowD)), .sh (runD (k, m)), .ow (.lst ((done.map (ent there k m w (rows.getLastD []))).map oI)), s6, s7, .no, .no]) 1000 (List.range (there.length + 1)) []
    [.sh (shD there), s1, .sh (.dK kv), .ow (.lst (rows.map rowD)), .sh (runD (k, m)), .ow (.lst []), s6, s7, .no, .no] (fun last hl done Γ hd hp => by
      obtain ⟨s6, s7, h6, h7, rfl⟩ := hp
      have hl := List.mem_range.1 hl
      generalize hacc : (done.map (ent there k m w (rows.getLastD []))).map oI = acc
      have la : acc.length < 1000000 := by rw [← hacc]; simp; omega
      obtain ⟨s7', q7, st⟩ := row_step (F := F) (Ld := Ld) (W := W) hc lc (there := there) (s1 := s1) (s7 := s7) (kv := kv) (k := k) (m := m) (w := w) (rows := rows) (acc := acc) (last := last) hr hg hw (by omega) (by omega) (by omega) h7 la
      refine ⟨_, _, ?_, st, .sh (.int (last : Int)), s7', .inr ⟨_, rfl⟩, q7, ?_⟩
      · rcases h6 with rfl | ⟨d, rfl⟩ <;> simp [bindT, bindR, mayBind, slOf, natD]
      · rw [← hacc]; simp) ⟨s6, s7, h6, h7, rfl⟩ (by simp; omega)
  obtain ⟨s6', s7', q6, q7, rfl⟩ := g4
  rw [List.nil_append] at g3
  have hI : evI F Ld (.rng [(.bin .add (.bi .len [(.var 0)]) (.cst (.int (1))))]) [.sh (shD there), s1, .sh (.dK kv), .ow (.lst (rows.map rowD)), .sh (runD (k, m)), .ow (.lst []), s6, s7, .no, .no] = some ((List.range (there.length + 1)).map natD, [.sh (shD there), s1, .sh (.dK kv), .ow (.lst (rows.map rowD)), .sh (runD (k, m)), .ow (.lst []), s6, s7, .no, .no]) := by
    have q := rng_ev (F := F) (Ld := Ld) (e := .bin .add (.bi .len [(.var 0)]) (.cst (.int (1)))) (r := .val (.int ((there.length : Int) + 1))) (Γ := [.sh (shD there), s1, .sh (.dK kv), .ow (.lst (rows.map rowD)), .sh (runD (k, m)), .ow (.lst []), s6, s7, .no, .no]) (Γ1 := [.sh (shD there), s1, .sh (.dK kv), .ow (.lst (rows.map rowD)), .sh (runD (k, m)), .ow (.lst []), s6, s7, .no, .no]) (len1_ev there _) rfl (by simp only [small62, Bool.and_eq_true, decide_eq_true_eq]; omega)
    rw [q, show ((there.length : Int) + 1).toNat = there.length + 1 by omega, rangeD_nat]
  have f := ev_for (F := F) (Ld := Ld) (W := W) hI g3
  have st0 : evS F Ld W (.set 5 (.lst [])) [.sh (shD there), s1, .sh (.dK kv), .ow (.lst (rows.map rowD)), .sh (runD (k, m)), s5, s6, s7, .no, .no] = some (.nx, [.sh (shD there), s1, .sh (.dK kv), .ow (.lst (rows.map rowD)), .sh (runD (k, m)), .ow (.lst []), s6, s7, .no, .no]) := by
    rcases h5 with rfl | ⟨d, rfl⟩ | ⟨d, rfl⟩ <;> simp [evS, evE, evEs, takeRs, lim, settleR, bindR, mayBind, slOf]
  have av := ev_app (F := F) (Ld := Ld) (W := W) (i := 3) (e := .var 5) (r := .slot 5) (Γ := [.sh (shD there), s1, .sh (.dK kv), .ow (.lst (rows.map rowD)), .sh (runD (k, m)), .ow (.lst (((List.range (there.length + 1)).map (ent there k m w (rows.getLastD []))).map oI)), s6', s7', .no, .no]) (xs0 := rows.map rowD) (xs := rows.map rowD) rfl rfl rfl rfl rfl (by simp; omega)
  refine ⟨.sh (rowD ((List.range (there.length + 1)).map (ent there k m w (rows.getLastD [])))), s6', s7', .inr (.inl ⟨_, rfl⟩), q6, q7, ?_⟩
  refine (evSs_nx st0).trans ((evSs_nx f).trans ((evSs_nx av).trans ?_))
  rw [evSs, List.map_append]
  rfl
theorem zeros_ev {there : Shelf} (ht : there.length ≤ 100) : binD .mul (.lst [.int 0]) (.int ((there.length : Int) + 1)) = some (.new (rowD (zeros there))) := by
  have s6 : small62 ((there.length : Int) + 1) = true := by simp only [small62, Bool.and_eq_true, decide_eq_true_eq]; omega
  have tn : ((there.length : Int) + 1).toNat = there.length + 1 := by omega
  have l1 : 1 * (there.length + 1) ≤ lim := by unfold lim; omega
  have fl : ∀ n : Nat, (List.replicate n [D.int 0]).flatten = (List.replicate n (some (0 : Int))).map oI := by
    intro n
    induction n with
    | zero => rfl
    | succ n ih => rw [List.replicate_succ, List.replicate_succ, List.flatten_cons, List.map_cons, ih]; rfl
  simp only [binD, tn, List.length_singleton, s6, l1, decide_true, Bool.and_self, if_true, fl, rowD, zeros]
theorem lst_mul_st {Γ : Gm} {e : E} {L : Int} {z : D} (h2 : evE F Ld e Γ = some (.val (.int L), Γ)) (h1 : binD .mul (.lst [.int 0]) (.int L) = some (.new z)) (hm : mayBind Γ 3 = true) : evS F Ld W (.set 3 (.lst [(.bin .mul (.lst [(.cst (.int 0))]) e)])) Γ = some (.nx, Γ.set 3 (.ow (.lst [z]))) := by
  have e3 : evE F Ld (.lst [(.cst (.int (0)))]) Γ = some (.new (.lst [.int 0]), Γ) := by
    simp [evE, evEs, takeRs, takeR, lim]
  have e4 : evE F Ld (.bin .mul (.lst [(.cst (.int (0)))]) e) Γ = some (.new z, Γ) := by
    rw [evE]
    simp only [e3, h2, readR, h1]
  have e5 : evE F Ld (.lst [(.bin .mul (.lst [(.cst (.int (0)))]) e)]) Γ = some (.new (.lst [z]), Γ) := by
    rw [evE]
    simp only [evEs, e4]
    simp [takeRs, takeR, lim]
  simp only [evS, e5, settleR, bindR, hm, if_true, slOf, Option.map_some]
theorem rows_fn {c : Nat} (hc : ChoicesFn (F c)) (lc : Ld c = false) : RowsFn (runF F Ld W ⟨3, 10, irRows c⟩) := by
  intro there shelf kv wo hwo ht hsl
  obtain ⟨Γ', g3, g4⟩ := forL_rel (g := bindT (.nm 4)) (b := evSs F Ld W (rO c)) runD
    (fun done Γ => ∃ s4 s5 s6 s7, okS s4 ∧ okB s5 ∧ okS s6 ∧ okB s7 ∧ Γ = [.sh (shD there), .sh (shD shelf), .sh (.dK kv), .ow (.lst ((rowsA wo there done).map rowD)), s4, s5, s6, s7, .no, .no]) 101 shelf []
    [.sh (shD there), .sh (shD shelf), .sh (.dK kv), .ow (.lst [rowD (zeros there)]), .no, .no, .no, .no, .no, .no] (fun r hr done Γ hd hp => by
      obtain ⟨s4, s5, s6, s7, h4, h5, h6, h7, rfl⟩ := hp
      obtain ⟨k, m⟩ := r
      have rl := rowsA_len wo there done
      obtain ⟨s5', s6', s7', q5, q6, q7, st⟩ := row_loop (F := F) (Ld := Ld) (W := W) hc lc (there := there) (s1 := .sh (shD shelf)) (s5 := s5) (s6 := s6) (s7 := s7) (kv := kv) (k := k) (m := m) (w := wo k) (rows := rowsA wo there done) (by intro z; rw [z] at rl; simp at rl) (rowsA_each wo there done) (hwo k).1 (hwo k).2 ht h5 h6 h7 (by omega)
      refine ⟨_, _, ?_, st, .sh (runD (k, m)), s5', s6', s7', .inr ⟨_, rfl⟩, q5, q6, q7, ?_⟩
      · rcases h4 with rfl | ⟨d, rfl⟩ <;> simp [bindT, bindR, mayBind, slOf]
      · rw [rowsA_snoc]; rfl) ⟨.no, .no, .no, .no, .inl rfl, .inl rfl, .inl rfl, .inl rfl, rfl⟩ (by simp; omega)
  obtain ⟨s4', s5', s6', s7', q4, q5, q6, q7, rfl⟩ := g4
  rw [List.nil_append] at g3
  have hI : evI F Ld (.seq (.var 1)) [.sh (shD there), .sh (shD shelf), .sh (.dK kv), .ow (.lst [rowD (zeros there)]), .no, .no, .no, .no, .no, .no] = some (shelf.map runD, [.sh (shD there), .sh (shD shelf), .sh (.dK kv), .ow (.lst [rowD (zeros there)]), .no, .no, .no, .no, .no, .no]) := by
    simp [evI, evE, Sv.bound, takeR, shD, seqD]
  have f := ev_for (F := F) (Ld := Ld) (W := W) hI g3
  have st0 := lst_mul_st (F := F) (Ld := Ld) (W := W) (len1_ev there [.sh (shD shelf), .sh (.dK kv), .no, .no, .no, .no, .no, .no, .no]) (zeros_ev ht) rfl
  refine runF_rt (f := ⟨3, 10, irRows c⟩) (Γ0 := [.sh (shD there), .sh (shD shelf), .sh (.dK kv), .no, .no, .no, .no, .no, .no, .no]) (Γ := [.sh (shD there), .sh (shD shelf), .sh (.dK kv), .no, s4', s5', s6', s7', .no, .no]) rfl rfl ?_
  show evSs F Ld W (irRows c) _ = _
  refine (evSs_nx st0).trans ((evSs_nx f).trans ?_)
  generalize (rowsA wo there shelf).map rowD = q
  generalize shD there = a1
  generalize shD shelf = a2
  simp [evSs, evS, evE, Sv.bound]
end
end Sv

namespace Sv
open PySem PySem.Spec PyProof.Rows L2
def tab (one other : Stand) (i : Nat) : List Row := rowsA (fun _ => 1) (one.getD i []) (other.getD i [])
def lastOf (rows : List Row) (m : Nat) : Option Int := (rows.getD (rows.length - 1 - m) []).getLastD none
def lasts (rows : List Row) (tail : Nat) : List (Option Int × Nat) := ((List.range (tail + 1)).map fun m => (lastOf rows m, m)).filter fun x => x.1.isSome
def lstD (x : Option Int × Nat) : D := .tup [oI x.1, natD x.2]
def stays (rows : List Row) (tail : Nat) : List Int := (List.range (tail + 1)).filterMap (lastOf rows)
def lt1 (one other : Stand) : List (Nat × Nat) → Int → Option Int
  | [], f => some f
  | x :: l, f => match stays (tab one other x.2) x.1 with
    | [] => none
    | n :: ns => lt1 one other l (f - maxI (n :: ns))
def leastTk (one other : Stand) (lent : Int) : Option Int := lt1 one other (other.map (tl other lent)).zipIdx (books one)
section
variable {F : Nat → Fn} {Ld : Nat → Bool} {W : Nat}
def irTable (al ro : Nat) : List S := [
    .ex (.call al [(.var 0), (.var 1)]),
    .ret (some (.call ro [(.ix (.var 0) (.var 2)), (.ix (.var 1) (.var 2)), .dnew]))]
def TableFn (f : Fn) : Prop := ∀ (one other : Stand) (i : Nat), Sm 20 one → Sm 20 other → alike one other → i < one.length → f [.sh (stD one), .sh (stD other), .sh (.int (i : Int))] = some (.new (.lst ((tab one other i).map rowD)), none)
theorem ix_st {st : Stand} {i : Nat} (h : i < st.length) : ixD (stD st) (.int (i : Int)) = some (shD (st.getD i [])) := by
  simp only [ixD, stD]
  refine atI_nat ?_
  rw [List.getElem?_map, List.getElem?_eq_getElem h, List.getD_eq_getElem?_getD, List.getElem?_eq_getElem h]
  rfl
theorem getD_each {st : Stand} {n i : Nat} (h : Sm n st) (hi : i < st.length) : (st.getD i []).length ≤ 100 := by
  rw [List.getD_eq_getElem?_getD, List.getElem?_eq_getElem hi]
  exact h.each _ (List.getElem_mem hi)
theorem ev_set_new {i : Nat} {e : E} {Γ Γ1 : Gm} {d : D} (h : evE F Ld e Γ = some (.new d, Γ1)) (hm : mayBind Γ1 i = true) : evS F Ld W (.set i e) Γ = some (.nx, Γ1.set i (.ow d)) := by
  simp only [evS, h, settleR, bindR, hm, if_true, slOf, Option.map_some]
theorem ev_ret_new {e : E} {Γ Γ1 : Gm} {d : D} (h : evE F Ld e Γ = some (.new d, Γ1)) : evSs F Ld W [.ret (some e)] Γ = some (.rt (.new d), Γ1) := by
  simp only [evSs, evS, h]
theorem ev_ret_val {e : E} {Γ Γ1 : Gm} {d : D} (h : evE F Ld e Γ = some (.val d, Γ1)) : evSs F Ld W [.ret (some e)] Γ = some (.rt (.val d), Γ1) := by
  simp only [evSs, evS, h]
theorem ev_exN {e : E} {Γ Γ1 : Gm} {r : Rs} (h : evE F Ld e Γ = some (r, Γ1)) : evS F Ld W (.ex e) Γ = some (.nx, Γ1) := by
  simp only [evS, h]
theorem table_fn {al ro : Nat} (ha : AlikeFn (F al)) (hr : RowsFn (F ro)) (l1 : Ld al = false) (l2 : Ld ro = false) : TableFn (runF F Ld W ⟨3, 3, irTable al ro⟩) := by
  intro one other i h1 h2 aa hi
  have hi2 : i < other.length := by rw [← aa.1]; exact hi
  have c1 := ev_call2 (F := F) (Ld := Ld) (f := al) (e := .var 0) (e' := .var 1) (Γ := [.sh (stD one), .sh (stD other), .sh (.int (i : Int))]) (r := .slot 0) (r1 := .slot 1) rfl rfl rfl (ha one other h1 h2 aa) rfl l1
  have e1 : evEs F Ld [(.ix (.var 0) (.var 2)), (.ix (.var 1) (.var 2)), .dnew] [.sh (stD one), .sh (stD other), .sh (.int (i : Int))] = some ([.val (shD (one.getD i [])), .val (shD (other.getD i [])), .new (.dK [])], [.sh (stD one), .sh (stD other), .sh (.int (i : Int))]) := by
    have i1 := ix_st hi
    have i2 := ix_st hi2
    generalize stD one = a1 at *
    generalize stD other = a2 at *
    generalize (i : Int) = q at *
    simp only [evEs, evE, Sv.bound]
    simp [readR, i1, i2]
  have c2 := ev_calln (f := ro) e1 (ds := [shD (one.getD i []), shD (other.getD i []), .dK []]) (Γ2 := [.sh (stD one), .sh (stD other), .sh (.int (i : Int))]) rfl (hr _ _ [] (fun _ => 1) (fun k => ⟨rfl, rfl⟩) (getD_each h1 hi) (getD_each h2 hi2)) rfl l2
  refine runF_rt (f := ⟨3, 3, irTable al ro⟩) (Γ0 := [.sh (stD one), .sh (stD other), .sh (.int (i : Int))]) rfl rfl (Γ := [.sh (stD one), .sh (stD other), .sh (.int (i : Int))]) ?_
  show evSs F Ld W (irTable al ro) _ = _
  exact (evSs_nx (ev_exN c1)).trans (ev_ret_new c2)
def lC1 : E := .comp (.tup [(.ix (.ix (.var 0) (.bin .sub (.bin .sub (.bi .len [(.var 0)]) (.cst (.int (1)))) (.var 3))) (.neg (.cst (.int (1))))), (.var 3)]) (.nm 3) (.rng [(.bin .add (.var 1) (.cst (.int (1))))]) [] [3]
def lC2 : E := .comp (.tup [(.var 4), (.var 3)]) (.tp [(.nm 4), (.nm 3)]) (.seq (.var 2)) [(.val (.cmp .isn (.var 4) (.cst .non)))] [4, 3]
def irLastN : List S := [.set 2 lC1, .ret (some lC2)]
def LastNFn (f : Fn) : Prop := ∀ (rows : List Row) (tail : Nat), rows.length ≤ 1000 → tail < rows.length → (∀ row ∈ rows, row ≠ []) → f [.sh (.lst (rows.map rowD)), .sh (natD tail)] = some (.new (.lst ((lasts rows tail).map lstD)), none)
theorem lastN_fn {F : Nat → Fn} {Ld : Nat → Bool} {W : Nat} : LastNFn (runF F Ld W ⟨2, 5, irLastN⟩) := by
  intro rows tail hl ht hne
  have hI : evI F Ld (.rng [(.bin .add (.var 1) (.cst (.int (1))))]) [.sh (.lst (rows.map rowD)), .sh (natD tail), .no, .no, .no] = some ((List.range (tail + 1)).map natD, [.sh (.lst (rows.map rowD)), .sh (natD tail), .no, .no, .no]) := by
    have q := rng_ev (F := F) (Ld := Ld) (e := .bin .add (.var 1) (.cst (.int (1)))) (r := .val (.int ((tail : Int) + 1))) (Γ := [.sh (.lst (rows.map rowD)), .sh (natD tail), .no, .no, .no]) (Γ1 := [.sh (.lst (rows.map rowD)), .sh (natD tail), .no, .no, .no]) (by
      unfold natD
      generalize (tail : Int) = t
      simp [evE, Sv.bound, readR, binD]) rfl (by simp only [small62, Bool.and_eq_true, decide_eq_true_eq]; omega)
    rw [q, show ((tail : Int) + 1).toNat = tail + 1 by omega, rangeD_nat]
  have c1 : evE F Ld lC1 [.sh (.lst (rows.map rowD)), .sh (natD tail), .no, .no, .no] = some (.new (.lst (((List.range (tail + 1)).map fun m => (lastOf rows m, m)).map lstD)), [.sh (.lst (rows.map rowD)), .sh (natD tail), .no, .no, .no]) := by
    have q := ev_compOn (F := F) (Ld := Ld) (e := .tup [(.ix (.ix (.var 0) (.bin .sub (.bin .sub (.bi .len [(.var 0)]) (.cst (.int (1)))) (.var 3))) (.neg (.cst (.int (1))))), (.var 3)]) (t := .nm 3) (cs := []) (vs := [3]) (Γ := [.sh (.lst (rows.map rowD)), .sh (natD tail), .no, .no, .no]) natD (fun _ => true) (fun m => lstD (lastOf rows m, m)) (List.range (tail + 1)) hI rfl rfl rfl (by simp; omega) (fun m hm => by
      have hm := List.mem_range.1 hm
      have i1 : ixD (.lst (rows.map rowD)) (.int ((rows.length : Int) - 1 - (m : Int))) = some (rowD (rows.getD (rows.length - 1 - m) [])) := by
        rw [show ((rows.length : Int) - 1 - (m : Int)) = ((rows.length - 1 - m : Nat) : Int) by omega]
        simp only [ixD]
        refine atI_nat ?_
        rw [List.getElem?_map, List.getD_eq_getElem?_getD, List.getElem?_eq_getElem (by omega)]
        rfl
      have i2 : ixD (rowD (rows.getD (rows.length - 1 - m) [])) (.int (-1)) = some (oI (lastOf rows m)) := by
        have ne : rows.getD (rows.length - 1 - m) [] ≠ [] := by
          rw [List.getD_eq_getElem?_getD, List.getElem?_eq_getElem (by omega)]
          exact hne _ (List.getElem_mem _)
        unfold lastOf
        generalize rows.getD (rows.length - 1 - m) [] = row at *
        simp only [ixD, rowD]
        refine atI_last ?_
        rw [List.getLast?_map, List.getLast?_eq_some_getLast ne, List.getLastD_eq_getLast?, List.getLast?_eq_some_getLast ne]
        rfl
      have l0 : biD .len [.lst (rows.map rowD)] = some (.val (.int (rows.length : Int))) := by simp [biD]
      refine ⟨[.sh (.lst (rows.map rowD)), .sh (natD tail), .no, .sh (natD m), .no], [.sh (.lst (rows.map rowD)), .sh (natD tail), .no, .sh (natD m), .no], by simp [bindT, bindR, mayBind, slOf], rfl, fun h => by (cases h), fun _ => ⟨.val (lstD (lastOf rows m, m)), [.sh (.lst (rows.map rowD)), .sh (natD tail), .no, .sh (natD m), .no], [.sh (.lst (rows.map rowD)), .sh (natD tail), .no, .sh (natD m), .no], ?_, rfl, rfl⟩⟩
      unfold lstD natD
      generalize oI (lastOf rows m) = o at *
      generalize rowD (rows.getD (rows.length - 1 - m) []) = rr at *
      generalize (rows.length : Int) = L at *
      generalize D.lst (rows.map rowD) = a1 at *
      generalize (m : Int) = mm at *
      generalize (tail : Int) = tt at *
      simp [evE, evEs, Sv.bound, readR, readRs, l0, binD, negD, i1, i2, takeRs, takeR, lim])
    rw [List.filter_eq_self.2 (by simp)] at q
    rw [List.map_map]
    exact q
  have ll : ((List.range (tail + 1)).map fun m => (lastOf rows m, m)).length ≤ 1000 := by rw [List.length_map, List.length_range]; omega
  unfold lasts
  generalize ((List.range (tail + 1)).map fun m => (lastOf rows m, m)) = fd at c1 ll ⊢
  clear hI ht hl hne
  generalize natD tail = tD at c1 ⊢
  generalize D.lst (rows.map rowD) = rD at c1 ⊢
  have s1 : evS F Ld W (.set 2 lC1) [.sh rD, .sh tD, .no, .no, .no] = some (.nx, [.sh rD, .sh tD, .ow (.lst (fd.map lstD)), .no, .no]) := by
    exact ev_set_new c1 rfl
  have hI2 : evI F Ld (.seq (.var 2)) [.sh rD, .sh tD, .ow (.lst (fd.map lstD)), .no, .no] = some (fd.map lstD, [.sh rD, .sh tD, .sh (.lst (fd.map lstD)), .no, .no]) := by
    have v : evE F Ld (.var 2) [.sh rD, .sh tD, .ow (.lst (fd.map lstD)), .no, .no] = some (.slot 2, [.sh rD, .sh tD, .ow (.lst (fd.map lstD)), .no, .no]) := rfl
    have t : takeR (.slot 2) [.sh rD, .sh tD, .ow (.lst (fd.map lstD)), .no, .no] = some (.lst (fd.map lstD), [.sh rD, .sh tD, .sh (.lst (fd.map lstD)), .no, .no]) := rfl
    simp only [evI, v, t, seqD]
  have c2 : evE F Ld lC2 [.sh rD, .sh tD, .ow (.lst (fd.map lstD)), .no, .no] = some (.new (.lst ((fd.filter fun x => x.1.isSome).map lstD)), [.sh rD, .sh tD, .sh (.lst (fd.map lstD)), .no, .no]) := by
    have q := compL_on (vs := [4, 3]) (fg := bindT (.tp [(.nm 4), (.nm 3)])) (ft := evCs F Ld [(.val (.cmp .isn (.var 4) (.cst .non)))]) (fe := fun Γ => match evE F Ld (.tup [(.var 4), (.var 3)]) Γ with
          | none => none
          | some (r, Γ') => takeR r Γ') (Γ := [.sh rD, .sh tD, .sh (.lst (fd.map lstD)), .no, .no]) lstD (fun x => x.1.isSome) lstD fd [] (fun a ha => by
        refine ⟨[.sh rD, .sh tD, .sh (.lst (fd.map lstD)), .sh (natD a.2), .sh (oI a.1)], [.sh rD, .sh tD, .sh (.lst (fd.map lstD)), .sh (natD a.2), .sh (oI a.1)], by simp [bindT, bindTs, bindR, mayBind, slOf, lstD], ?_, fun h => rfl, fun _ => ⟨[.sh rD, .sh tD, .sh (.lst (fd.map lstD)), .sh (natD a.2), .sh (oI a.1)], ?_, rfl⟩⟩
        · obtain ⟨o, n⟩ := a
          cases o <;> simp [evCs, evT, evE, Sv.bound, readR, cmpD, oI, isNon]
        · simp [evE, evEs, Sv.bound, takeRs, takeR, lim, lstD]) (by simp; omega)
    rw [List.nil_append] at q
    exact ev_comp (F := F) (Ld := Ld) (e := .tup [(.var 4), (.var 3)]) (t := .tp [(.nm 4), (.nm 3)]) (cs := [(.val (.cmp .isn (.var 4) (.cst .non)))]) (vs := [4, 3]) hI2 rfl q
  refine runF_rt (f := ⟨2, 5, irLastN⟩) (Γ0 := [.sh rD, .sh tD, .no, .no, .no]) rfl rfl (Γ := [.sh rD, .sh tD, .sh (.lst (fd.map lstD)), .no, .no]) ?_
  show evSs F Ld W irLastN _ = _
  exact (evSs_nx s1).trans (ev_ret_new c2)
end
end Sv

namespace Sv
open PySem PySem.Spec PyProof.Rows L2
theorem stays_lasts (rows : List Row) (tail : Nat) : intsOf ((lasts rows tail).map fun x => oI x.1) = some (stays rows tail) := by
  unfold lasts stays
  generalize List.range (tail + 1) = l
  induction l with
  | nil => rfl
  | cons m l ih =>
    rw [List.map_cons]
    cases h : lastOf rows m with
    | none =>
      rw [List.filter_cons_of_neg (by simp), List.filterMap_cons_none h]
      exact ih
    | some v =>
      rw [List.filter_cons_of_pos (by simp), List.filterMap_cons_some h, List.map_cons]
      rw [show oI (some v) = D.int v from rfl, intsOf, ih]
      rfl
theorem lasts_len (rows : List Row) (tail : Nat) : (lasts rows tail).length ≤ tail + 1 := by
  unfold lasts
  refine Nat.le_trans (List.length_filter_le _ _) ?_
  simp
theorem lasts_stays (rows : List Row) (tail : Nat) : (lasts rows tail).length = (stays rows tail).length := by
  have := stays_lasts rows tail
  have key : ∀ (l : List D) (ns : List Int), intsOf l = some ns → l.length = ns.length := by
    intro l
    induction l with
    | nil => intro ns h; simp only [intsOf, Option.some.injEq] at h; subst h; rfl
    | cons d l ih =>
      intro ns h
      cases d <;> simp only [intsOf, reduceCtorEq] at h
      cases hx : intsOf l with
      | none => rw [hx] at h; cases h
      | some ms =>
        rw [hx] at h
        cases h
        rw [List.length_cons, List.length_cons, ih ms hx]
  have := key _ _ this
  simpa using this
section
variable {F : Nat → Fn} {Ld : Nat → Bool} {W : Nat}
def tC1 (la ta : Nat) : E := .call la [(.call ta [(.var 0), (.var 1), (.var 4)]), (.var 5)]
def tC2 : E := .comp (.var 7) (.tp [(.nm 7), (.nm 8)]) (.seq (.var 6)) [] [7, 8]
def tB2 (la ta : Nat) : List S := [.set 6 (tC1 la ta), .iff (.val (.cmp .eq (.bi .len [(.var 6)]) (.cst (.int (0))))) [.nev] [], .aug 3 .sub (.bi .max [tC2])]
def irLeastTk (al bo tl la ta : Nat) : List S := [
    .ex (.call al [(.var 0), (.var 1)]),
    .set 3 (.call bo [(.var 0)]),
    .frr (.tp [(.nm 4), (.nm 5)]) (.enm (.call tl [(.var 1), (.var 2)])) (tB2 la ta),
    .ret (some (.var 3))]
def LeastTkFn (f : Fn) : Prop := ∀ (one other : Stand) (lent v : Int), Sm 20 one → Sm 20 other → alike one other → leastTk one other lent = some v → f [.sh (stD one), .sh (stD other), .sh (.int lent)] = some (.val (.int v), none)
theorem tk_step {la ta : Nat} (hL : LastNFn (F la)) (hT : TableFn (F ta)) (l1 : Ld la = false) (l2 : Ld ta = false) {one other : Stand} {s2 s6 : Sl} {f : Int} {t i : Nat} {n : Int} {ns : List Int} (h1 : Sm 20 one) (h2 : Sm 20 other) (aa : alike one other) (hi : i < one.length) (ht : t ≤ (other.getD i []).length) (h6 : okB s6) (hst : stays (tab one other i) t = n :: ns) :
    ∃ s6', okB s6' ∧ evSs F Ld W (tB2 la ta) [.sh (stD one), .sh (stD other), s2, .sh (.int f), .sh (.int (i : Int)), .sh (natD t), s6, .no, .no] = some (.nx, [.sh (stD one), .sh (stD other), s2, .sh (.int (f - maxI (n :: ns))), .sh (.int (i : Int)), .sh (natD t), s6', .no, .no]) := by
  have hi2 : i < other.length := by rw [← aa.1]; exact hi
  have sl := getD_each h2 hi2
  have tl := rowsA_len (fun _ => 1) (one.getD i []) (other.getD i [])
  have te := rowsA_each (fun _ => 1) (one.getD i []) (other.getD i [])
  have c1 := ev_call3 (F := F) (Ld := Ld) (f := ta) (e := .var 0) (e' := .var 1) (e'' := .var 4) (Γ := [.sh (stD one), .sh (stD other), s2, .sh (.int f), .sh (.int (i : Int)), .sh (natD t), s6, .no, .no]) (r := .slot 0) (r1 := .slot 1) (r2 := .slot 4) rfl rfl rfl rfl (hT one other i h1 h2 aa hi) rfl l2
  have hL2 := hL (tab one other i) t (by show (rowsA _ _ _).length ≤ 1000; omega) (by show t < (rowsA _ _ _).length; omega) (fun row hr z => by
    have := te row hr
    rw [z] at this
    simp at this)
  have ml := lasts_len (tab one other i) t
  have el := lasts_stays (tab one other i) t
  have iv := stays_lasts (tab one other i) t
  rw [hst] at el iv
  generalize tab one other i = tb at *
  generalize hlt : lasts tb t = ll at *
  have c2 := ev_call2 (F := F) (Ld := Ld) (f := la) (e := .call ta [(.var 0), (.var 1), (.var 4)]) (e' := .var 5) c1 (r1 := .slot 5) (Γ2 := [.sh (stD one), .sh (stD other), s2, .sh (.int f), .sh (.int (i : Int)), .sh (natD t), s6, .no, .no]) (Γ3 := [.sh (stD one), .sh (stD other), s2, .sh (.int f), .sh (.int (i : Int)), .sh (natD t), s6, .no, .no]) (d := .lst (tb.map rowD)) (d' := natD t) rfl rfl hL2 rfl l1
  generalize stD one = a0 at *
  generalize stD other = a1 at *
  generalize natD t = a5 at *
  generalize (i : Int) = a4 at *
  have s1 : evS F Ld W (.set 6 (tC1 la ta)) [.sh a0, .sh a1, s2, .sh (.int f), .sh (.int a4), .sh a5, s6, .no, .no] = some (.nx, [.sh a0, .sh a1, s2, .sh (.int f), .sh (.int a4), .sh a5, .ow (.lst (ll.map lstD)), .no, .no]) :=
    ev_set_new c2 (by rcases h6 with rfl | ⟨d, rfl⟩ | ⟨d, rfl⟩ <;> rfl)
  have t0 : evT F Ld (.val (.cmp .eq (.bi .len [(.var 6)]) (.cst (.int (0))))) [.sh a0, .sh a1, s2, .sh (.int f), .sh (.int a4), .sh a5, .ow (.lst (ll.map lstD)), .no, .no] = some (false, [.sh a0, .sh a1, s2, .sh (.int f), .sh (.int a4), .sh a5, .ow (.lst (ll.map lstD)), .no, .no]) := by
    have l0 : biD .len [.lst (ll.map lstD)] = some (.val (.int ((ns.length : Int) + 1))) := by
      simp [biD, el]
    have nz : ¬ ((ns.length : Int) + 1 = 0) := by omega
    generalize (ns.length : Int) + 1 = q at *
    generalize D.lst (ll.map lstD) = a6 at *
    simp [evT, evE, evEs, Sv.bound, readR, readRs, l0, cmpD, dep, eqD, nz]
  have s2' := ev_iff (W := W) (a := [.nev]) (b := []) t0
  rw [if_neg (by simp)] at s2'
  have hI2 : evI F Ld (.seq (.var 6)) [.sh a0, .sh a1, s2, .sh (.int f), .sh (.int a4), .sh a5, .ow (.lst (ll.map lstD)), .no, .no] = some (ll.map lstD, [.sh a0, .sh a1, s2, .sh (.int f), .sh (.int a4), .sh a5, .sh (.lst (ll.map lstD)), .no, .no]) := by
    have v : evE F Ld (.var 6) [.sh a0, .sh a1, s2, .sh (.int f), .sh (.int a4), .sh a5, .ow (.lst (ll.map lstD)), .no, .no] = some (.slot 6, [.sh a0, .sh a1, s2, .sh (.int f), .sh (.int a4), .sh a5, .ow (.lst (ll.map lstD)), .no, .no]) := rfl
    have t : takeR (.slot 6) [.sh a0, .sh a1, s2, .sh (.int f), .sh (.int a4), .sh a5, .ow (.lst (ll.map lstD)), .no, .no] = some (.lst (ll.map lstD), [.sh a0, .sh a1, s2, .sh (.int f), .sh (.int a4), .sh a5, .sh (.lst (ll.map lstD)), .no, .no]) := rfl
    simp only [evI, v, t, seqD]
  have c3 : evE F Ld tC2 [.sh a0, .sh a1, s2, .sh (.int f), .sh (.int a4), .sh a5, .ow (.lst (ll.map lstD)), .no, .no] = some (.new (.lst (ll.map fun x => oI x.1)), [.sh a0, .sh a1, s2, .sh (.int f), .sh (.int a4), .sh a5, .sh (.lst (ll.map lstD)), .no, .no]) := by
    have q := compL_on (vs := [7, 8]) (fg := bindT (.tp [(.nm 7), (.nm 8)])) (ft := evCs F Ld []) (fe := fun Γ => match evE F Ld (.var 7) Γ with
          | none => none
          | some (r, Γ') => takeR r Γ') (Γ := [.sh a0, .sh a1, s2, .sh (.int f), .sh (.int a4), .sh a5, .sh (.lst (ll.map lstD)), .no, .no]) lstD (fun _ => true) (fun x => oI x.1) ll [] (fun a ha =>
        ⟨[.sh a0, .sh a1, s2, .sh (.int f), .sh (.int a4), .sh a5, .sh (.lst (ll.map lstD)), .sh (oI a.1), .sh (natD a.2)], _, by simp [bindT, bindTs, bindR, mayBind, slOf, lstD], rfl, fun h => by (cases h), fun _ => ⟨_, rfl, rfl⟩⟩) (by rw [List.length_nil]; omega)
    rw [List.nil_append, List.filter_eq_self.2 (by simp)] at q
    exact ev_comp (F := F) (Ld := Ld) (e := .var 7) (t := .tp [(.nm 7), (.nm 8)]) (cs := []) (vs := [7, 8]) hI2 rfl q
  have s3 : evS F Ld W (.aug 3 .sub (.bi .max [tC2])) [.sh a0, .sh a1, s2, .sh (.int f), .sh (.int a4), .sh a5, .ow (.lst (ll.map lstD)), .no, .no] = some (.nx, [.sh a0, .sh a1, s2, .sh (.int (f - maxI (n :: ns))), .sh (.int a4), .sh a5, .sh (.lst (ll.map lstD)), .no, .no]) := by
    have b : biD .max [.lst (ll.map fun x => oI x.1)] = some (.val (.int (maxI (n :: ns)))) := by simp only [biD, iv]
    generalize maxI (n :: ns) = q at *
    generalize D.lst (ll.map fun x => oI x.1) = a7 at *
    generalize D.lst (ll.map lstD) = a6 at *
    have c4 : evE F Ld (.bi .max [tC2]) [.sh a0, .sh a1, s2, .sh (.int f), .sh (.int a4), .sh a5, .ow a6, .no, .no] = some (.val (.int q), [.sh a0, .sh a1, s2, .sh (.int f), .sh (.int a4), .sh a5, .sh a6, .no, .no]) := by
      rw [evE]
      simp only [evEs, c3, readRs, readR, b]
    simp [evS, c4, readR, augD, bindR, mayBind, slOf]
  refine ⟨.sh (.lst (ll.map lstD)), .inr (.inl ⟨_, rfl⟩), ?_⟩
  refine (evSs_nx s1).trans ((evSs_nx (s2'.trans ?_)).trans ((evSs_nx s3).trans ?_))
  · rw [evSs]
  · rw [evSs]
theorem tk_for {la ta : Nat} (hL : LastNFn (F la)) (hT : TableFn (F ta)) (l1 : Ld la = false) (l2 : Ld ta = false) {one other : Stand} {s2 : Sl} (h1 : Sm 20 one) (h2 : Sm 20 other) (aa : alike one other) : ∀ (l : List (Nat × Nat)) (f v : Int) (s4 s5 s6 : Sl), (∀ x ∈ l, x.2 < one.length ∧ x.1 ≤ (other.getD x.2 []).length) → okS s4 → okS s5 → okB s6 → lt1 one other l f = some v →
    ∃ s4' s5' s6', forL (bindT (.tp [(.nm 4), (.nm 5)])) (evSs F Ld W (tB2 la ta)) (l.map fun x => D.tup [.int (x.2 : Int), natD x.1]) [.sh (stD one), .sh (stD other), s2, .sh (.int f), s4, s5, s6, .no, .no] = some (.nx, [.sh (stD one), .sh (stD other), s2, .sh (.int v), s4', s5', s6', .no, .no])
  | [], f, v, s4, s5, s6, _, _, _, _, h => by
    simp only [lt1, Option.some.injEq] at h
    subst h
    exact ⟨s4, s5, s6, rfl⟩
  | (t, i) :: l, f, v, s4, s5, s6, hx, h4, h5, h6, h => by
    obtain ⟨hi, ht⟩ := hx (t, i) List.mem_cons_self
    simp only [lt1] at h
    split at h
    · cases h
    · next n ns hst =>
      obtain ⟨s6', q6, st⟩ := tk_step (F := F) (Ld := Ld) (W := W) hL hT l1 l2 (s2 := s2) (f := f) h1 h2 aa hi ht h6 hst
      obtain ⟨s4', s5', s6'', ih⟩ := tk_for hL hT l1 l2 (s2 := s2) h1 h2 aa l (f - maxI (n :: ns)) v (.sh (.int (i : Int))) (.sh (natD t)) s6' (fun x hx' => hx x (List.mem_cons_of_mem _ hx')) (.inr ⟨_, rfl⟩) (.inr ⟨_, rfl⟩) q6 h
      refine ⟨s4', s5', s6'', ?_⟩
      have b1 : bindT (.tp [(.nm 4), (.nm 5)]) (D.tup [.int (i : Int), natD t]) [.sh (stD one), .sh (stD other), s2, .sh (.int f), s4, s5, s6, .no, .no] = some [.sh (stD one), .sh (stD other), s2, .sh (.int f), .sh (.int (i : Int)), .sh (natD t), s6, .no, .no] := by
        rcases h4 with rfl | ⟨d, rfl⟩ <;> rcases h5 with rfl | ⟨d, rfl⟩ <;> simp [bindT, bindTs, bindR, mayBind, slOf]
      simp only [List.map_cons, forL, b1, st]
      exact ih
theorem leastTk_fn {al bo tl la ta : Nat} (ha : AlikeFn (F al)) (hb : BooksFn (F bo)) (htl : TailsFn (F tl)) (hL : LastNFn (F la)) (hT : TableFn (F ta)) (l1 : Ld al = false) (l2 : Ld bo = false) (l3 : Ld tl = false) (l4 : Ld la = false) (l5 : Ld ta = false) : LeastTkFn (runF F Ld W ⟨3, 9, irLeastTk al bo tl la ta⟩) := by
  intro one other lent v h1 h2 aa hv
  have c1 := ev_call2 (F := F) (Ld := Ld) (f := al) (e := .var 0) (e' := .var 1) (Γ := [.sh (stD one), .sh (stD other), .sh (.int lent), .no, .no, .no, .no, .no, .no]) (r := .slot 0) (r1 := .slot 1) rfl rfl rfl (ha one other h1 h2 aa) rfl l1
  have c2 := ev_call1 (F := F) (Ld := Ld) (f := bo) (e := .var 0) (Γ := [.sh (stD one), .sh (stD other), .sh (.int lent), .no, .no, .no, .no, .no, .no]) (r := .slot 0) rfl rfl (hb one (h1.mono (by omega))) rfl l2
  have c3 := ev_call2 (F := F) (Ld := Ld) (f := tl) (e := .var 1) (e' := .var 2) (Γ := [.sh (stD one), .sh (stD other), .sh (.int lent), .sh (.int (books one)), .no, .no, .no, .no, .no]) (r := .slot 1) (r1 := .slot 2) rfl rfl rfl (htl other lent (h2.mono (by omega))) rfl l3
  have hI : evI F Ld (.enm (.call tl [(.var 1), (.var 2)])) [.sh (stD one), .sh (stD other), .sh (.int lent), .sh (.int (books one)), .no, .no, .no, .no, .no] = some ((other.map (Sv.tl other lent)).zipIdx.map fun x => D.tup [.int (x.2 : Int), natD x.1], [.sh (stD one), .sh (stD other), .sh (.int lent), .sh (.int (books one)), .no, .no, .no, .no, .no]) := by
    simp only [evI, c3, takeR, seqT, enumD_map]
  obtain ⟨s4', s5', s6', lp⟩ := tk_for (F := F) (Ld := Ld) (W := W) hL hT l4 l5 (s2 := .sh (.int lent)) h1 h2 aa (other.map (Sv.tl other lent)).zipIdx (books one) v .no .no .no (fun x hx => by
    have hx' := List.mem_zipIdx_iff_getElem?.1 hx
    have lt := (List.getElem?_eq_some_iff.1 hx').1
    rw [List.length_map] at lt
    refine ⟨by rw [aa.1]; exact lt, ?_⟩
    rw [List.getElem?_map, List.getElem?_eq_getElem lt] at hx'
    simp only [Option.map_some, Option.some.injEq] at hx'
    rw [← hx', List.getD_eq_getElem?_getD, List.getElem?_eq_getElem lt]
    exact tl_le _ _ _) (.inl rfl) (.inl rfl) (.inl rfl) hv
  have f := ev_for (F := F) (Ld := Ld) (W := W) hI lp
  refine runF_rt (f := ⟨3, 9, irLeastTk al bo tl la ta⟩) (Γ0 := [.sh (stD one), .sh (stD other), .sh (.int lent), .no, .no, .no, .no, .no, .no]) rfl rfl (Γ := [.sh (stD one), .sh (stD other), .sh (.int lent), .sh (.int v), s4', s5', s6', .no, .no]) ?_
  show evSs F Ld W (irLeastTk al bo tl la ta) _ = _
  refine (evSs_nx (ev_exN c1)).trans ((evSs_nx (ev_set c2 (Γ2 := [.sh (stD one), .sh (stD other), .sh (.int lent), .sh (.int (books one)), .no, .no, .no, .no, .no]) ?_)).trans ((evSs_nx f).trans ?_))
  · simp [bindR, mayBind, slOf]
  · generalize stD one = a0
    generalize stD other = a1
    simp [evSs, evS, evE, Sv.bound]
def irFewest (l : Nat) : List S := [.ret (some (.call l [(.var 0), (.var 1), (.var 2)]))]
theorem fewest_fn {l : Nat} (h : LeastTkFn (F l)) (hl : Ld l = false) : LeastTkFn (runF F Ld W ⟨3, 3, irFewest l⟩) := by
  intro one other lent v h1 h2 aa hv
  have c1 := ev_call3 (F := F) (Ld := Ld) (f := l) (e := .var 0) (e' := .var 1) (e'' := .var 2) (Γ := [.sh (stD one), .sh (stD other), .sh (.int lent)]) (r := .slot 0) (r1 := .slot 1) (r2 := .slot 2) rfl rfl rfl rfl (h one other lent v h1 h2 aa hv) rfl hl
  exact runF_rt (f := ⟨3, 3, irFewest l⟩) (Γ0 := [.sh (stD one), .sh (stD other), .sh (.int lent)]) rfl rfl (Γ := [.sh (stD one), .sh (stD other), .sh (.int lent)]) (ev_ret_val c1)
end
end Sv

namespace Sv
open PySem PySem.Spec PyProof.Rows L2
/-! a pick; runs put together -/
section
variable {F : Nat → Fn} {Ld : Nat → Bool} {W : Nat}
def irPick (tk : Nat) : List S := [.ret (some (.ix (.var 1) (.call tk [(.var 0), (.bi .len [(.var 1)])])))]
def PickFn (f : Fn) : Prop := ∀ (c : Int) (b : D) (xs : List D), Bx c b → c ≤ 1000000 → 0 < xs.length → xs.length ≤ 1000 → ∃ (i : Nat) (x b' : D), xs[i]? = some x ∧ f [.io b, .sh (.lst xs)] = some (.val x, some b') ∧ Bx (c + 1) b'
theorem pick_fn {tk : Nat} (hT : TakeFn (F tk)) (lt : Ld tk = true) : PickFn (runF F Ld W ⟨2, 2, irPick tk⟩) := by
  intro c b xs hb hc h0 h1
  obtain ⟨r, b', e, r0, r1, hb'⟩ := hT c (xs.length : Int) b hb hc (by omega) (by omega)
  have hi : r.toNat < xs.length := by omega
  obtain ⟨x, hx⟩ : ∃ x, xs[r.toNat]? = some x := ⟨_, List.getElem?_eq_getElem hi⟩
  refine ⟨r.toNat, x, b', hx, ?_, hb'⟩
  have i1 : ixD (.lst xs) (.int r) = some x := by
    have e : r = ((r.toNat : Nat) : Int) := by omega
    rw [e]
    simp only [ixD]
    exact atI_nat hx
  have l0 : biD .len [.lst xs] = some (.val (.int (xs.length : Int))) := by simp [biD]
  generalize (xs.length : Int) = L at *
  have key : evSs F Ld W (irPick tk) [.io b, .sh (.lst xs)] = some (.rt (.val x), [.io b', .sh (.lst xs)]) := by
    generalize D.lst xs = l at *
    simp [irPick, evSs, evS, evE, evEs, Sv.bound, callE, lt, takeRs, takeR, readR, readRs, l0, ownAt, e, notSlot, setOwn, i1]
  exact runF_rt (f := ⟨2, 2, irPick tk⟩) (as := [.io b, .sh (.lst xs)]) (Γ0 := [.io b, .sh (.lst xs)]) rfl rfl key
/-- one run more -/
def jn1 (acc : List Run) (r : Run) : List Run := if 0 < r.2 then match acc.getLast? with
    | some l => if l.1 = r.1 then acc.dropLast ++ [(r.1, l.2 + r.2)] else acc ++ [r]
    | none => acc ++ [r]
  else acc
def joinR (rows : List Run) : Shelf := rows.foldl jn1 []
theorem joinR_snoc (rows : List Run) (r : Run) : joinR (rows ++ [r]) = jn1 (joinR rows) r := by
  unfold joinR
  rw [List.foldl_append]
  rfl
theorem jn1_len (acc : List Run) (r : Run) : (jn1 acc r).length ≤ acc.length + 1 := by
  unfold jn1
  split
  · split
    · split
      · simp
      · simp
    · simp
  · omega
theorem joinR_len : ∀ rows : List Run, (joinR rows).length ≤ rows.length := by
  intro rows
  have key : ∀ (rows acc : List Run), (rows.foldl jn1 acc).length ≤ acc.length + rows.length := by
    intro rows
    induction rows with
    | nil => intro acc; simp
    | cons r rows ih =>
      intro acc
      have := ih (jn1 acc r)
      have l := jn1_len acc r
      rw [List.foldl_cons, List.length_cons]
      omega
  have := key rows []
  simpa [joinR] using this
def jThen : List S := [.ixs (.var 1) (.neg (.cst (.int (1)))) (.tup [(.var 2), (.bin .add (.ix (.ix (.var 1) (.neg (.cst (.int (1))))) (.cst (.int (1)))) (.var 3))])]
def jElse : List S := [.iff (.val (.cmp .gt (.var 3) (.cst (.int (0))))) [.ex (.app (.var 1) (.tup [(.var 2), (.var 3)]))] []]
def jBody (c : T) : List S := [.iff (.an (.val (.cmp .gt (.var 3) (.cst (.int (0))))) (.an c (.val (.cmp .eq (.ix (.ix (.var 1) (.neg (.cst (.int (1))))) (.cst (.int (0)))) (.var 2))))) jThen jElse]
def irJoin (c : T) : List S := [.set 1 (.lst []), .frr (.tp [(.nm 2), (.nm 3)]) (.seq (.var 0)) (jBody c), .ret (some (.bi .tuple [(.var 1)]))]
/-- the test whether something is there yet -/
def NeTest (F : Nat → Fn) (Ld : Nat → Bool) (c : T) : Prop := ∀ (s0 s2 s3 : Sl) (acc : List Run), acc.length ≤ 1000 → evT F Ld c [s0, .ow (.lst (acc.map runD)), s2, s3] = some (!acc.isEmpty, [s0, .ow (.lst (acc.map runD)), s2, s3])
theorem ne_len : NeTest F Ld (.val (.cmp .gt (.bi .len [(.var 1)]) (.cst (.int (0))))) := by
  intro s0 s2 s3 acc hl
  have l0 : biD .len [.lst (acc.map runD)] = some (.val (.int (acc.length : Int))) := by simp [biD]
  have e : decide ((0 : Int) < (acc.length : Int)) = !acc.isEmpty := by
    cases acc with
    | nil => rfl
    | cons => simp
  generalize (acc.length : Int) = L at *
  generalize D.lst (acc.map runD) = l at *
  simp [evT, evE, evEs, Sv.bound, readR, readRs, l0, cmpD, e]
theorem dep_runs : ∀ acc : List Run, depL (acc.map runD) ≤ 1
  | [] => by simp [depL]
  | r :: acc => by
    have := dep_runs acc
    simp only [List.map_cons, depL, runD, dep]
    omega
theorem ne_nil : NeTest F Ld (.val (.cmp .ne (.var 1) (.lst []))) := by
  intro s0 s2 s3 acc hl
  have e : cmpD .ne (.lst (acc.map runD)) (.lst []) = some (!acc.isEmpty) := by
    have d1 := dep_runs acc
    have d2 : dep (.lst (acc.map runD)) ≤ 64 := by simp only [dep]; omega
    have d3 : dep (.lst []) ≤ 64 := by simp [dep, depL]
    simp only [cmpD, d2, d3, and_self, if_true]
    cases acc with
    | nil => simp [eqD, eqDs]
    | cons r acc => simp [eqD, eqDs]
  generalize D.lst (acc.map runD) = l at *
  simp [evT, evE, evEs, Sv.bound, takeRs, lim, readR, readRs, e]
theorem atI_lastN {α : Type} {l : List α} (h : l ≠ []) : ixN l.length (-1) = some (l.length - 1) := by
  have : 0 < l.length := List.length_pos_iff.2 h
  unfold ixN
  rw [if_neg (by omega), if_pos (by omega)]
  congr 1
  omega
theorem ev_an_t {a b : T} {Γ Γ1 : Gm} (h : evT F Ld a Γ = some (true, Γ1)) : evT F Ld (.an a b) Γ = evT F Ld b Γ1 := by
  rw [evT, h]
theorem ev_an_f {a b : T} {Γ Γ1 : Gm} (h : evT F Ld a Γ = some (false, Γ1)) : evT F Ld (.an a b) Γ = some (false, Γ1) := by
  rw [evT, h]
theorem set_last {α : Type} {l : List α} {x : α} (h : l ≠ []) : l.set (l.length - 1) x = l.dropLast ++ [x] := by
  obtain ⟨m, y, rfl⟩ : ∃ m y, l = m ++ [y] := ⟨l.dropLast, l.getLast h, (List.dropLast_concat_getLast h).symm⟩
  simp
theorem j_step {c : T} (hc : NeTest F Ld c) {s0 : Sl} {acc : List Run} {r : Run} (hl : acc.length ≤ 1000) :
    evSs F Ld W (jBody c) [s0, .ow (.lst (acc.map runD)), .sh (.str r.1), .sh (.int r.2)] = some (.nx, [s0, .ow (.lst ((jn1 acc r).map runD)), .sh (.str r.1), .sh (.int r.2)]) := by
  have la : (acc.map runD).length < 1000000 := by rw [List.length_map]; omega
  have tc := hc s0 (.sh (.str r.1)) (.sh (.int r.2)) acc hl
  have gT : evT F Ld (.val (.cmp .gt (.var 3) (.cst (.int (0))))) [s0, .ow (.lst (acc.map runD)), .sh (.str r.1), .sh (.int r.2)] = some (decide (0 < r.2), [s0, .ow (.lst (acc.map runD)), .sh (.str r.1), .sh (.int r.2)]) := by
    generalize D.lst (acc.map runD) = l
    simp [evT, evE, Sv.bound, readR, cmpD]
  have els : ∀ (_ : 0 < r.2), evSs F Ld W jElse [s0, .ow (.lst (acc.map runD)), .sh (.str r.1), .sh (.int r.2)] = some (.nx, [s0, .ow (.lst ((acc ++ [r]).map runD)), .sh (.str r.1), .sh (.int r.2)]) := by
    intro h0
    have e0 : evE F Ld (.tup [(.var 2), (.var 3)]) [s0, .ow (.lst (acc.map runD)), .sh (.str r.1), .sh (.int r.2)] = some (.val (runD r), [s0, .ow (.lst (acc.map runD)), .sh (.str r.1), .sh (.int r.2)]) := by
      generalize D.lst (acc.map runD) = l
      simp [evE, evEs, Sv.bound, takeRs, takeR, lim, runD]
    have e1 := ev_app (W := W) (i := 1) (xs0 := acc.map runD) (xs := acc.map runD) rfl rfl e0 rfl rfl la
    rw [show (decide (0 < r.2)) = true by simpa using h0] at gT
    have e2 := ev_iff (W := W) (a := [.ex (.app (.var 1) (.tup [(.var 2), (.var 3)]))]) (b := []) gT
    rw [if_pos rfl, evSs_nx e1] at e2
    unfold jElse
    rw [evSs_nx (e2.trans (by rw [evSs])), evSs, List.map_append]
    rfl
  unfold jBody
  by_cases h0 : 0 < r.2
  · have dt : decide (0 < r.2) = true := by simpa using h0
    rw [dt] at gT
    cases hacc : acc.isEmpty with
    | true =>
      have : acc = [] := List.isEmpty_iff.1 hacc
      rw [hacc] at tc
      have t0 := (ev_an_t (b := .an c (.val (.cmp .eq (.ix (.ix (.var 1) (.neg (.cst (.int (1))))) (.cst (.int (0)))) (.var 2)))) gT).trans (ev_an_f tc)
      have e2 := ev_iff (W := W) (a := jThen) (b := jElse) t0
      rw [if_neg (by simp), els h0] at e2
      rw [evSs_nx e2, evSs]
      subst this
      simp [jn1, h0]
    | false =>
      have ne : acc ≠ [] := fun z => by rw [z] at hacc; simp at hacc
      have ne2 : acc.map runD ≠ [] := by simpa using ne
      obtain ⟨l, hlast⟩ : ∃ l, acc.getLast? = some l := ⟨_, List.getLast?_eq_some_getLast ne⟩
      rw [hacc] at tc
      have i1 : ixD (.lst (acc.map runD)) (.int (-1)) = some (runD l) := by
        simp only [ixD]
        exact atI_last (by rw [List.getLast?_map, hlast]; rfl)
      have i2 : ixD (runD l) (.int 0) = some (.str l.1) := rfl
      have i3 : ixD (runD l) (.int 1) = some (.int l.2) := rfl
      have eq : evT F Ld (.val (.cmp .eq (.ix (.ix (.var 1) (.neg (.cst (.int (1))))) (.cst (.int (0)))) (.var 2))) [s0, .ow (.lst (acc.map runD)), .sh (.str r.1), .sh (.int r.2)] = some (decide (l.1 = r.1), [s0, .ow (.lst (acc.map runD)), .sh (.str r.1), .sh (.int r.2)]) := by
        generalize D.lst (acc.map runD) = q at *
        simp [evT, evE, Sv.bound, readR, negD, i1, i2, cmpD, dep, eqD, str_beq]
      have t0 := (ev_an_t (b := .an c (.val (.cmp .eq (.ix (.ix (.var 1) (.neg (.cst (.int (1))))) (.cst (.int (0)))) (.var 2)))) gT).trans ((ev_an_t tc).trans eq)
      have e2 := ev_iff (W := W) (a := jThen) (b := jElse) t0
      by_cases hk : l.1 = r.1
      · rw [if_pos (by simpa using hk)] at e2
        have e0 : evE F Ld (.tup [(.var 2), (.bin .add (.ix (.ix (.var 1) (.neg (.cst (.int (1))))) (.cst (.int (1)))) (.var 3))]) [s0, .ow (.lst (acc.map runD)), .sh (.str r.1), .sh (.int r.2)] = some (.val (runD (r.1, l.2 + r.2)), [s0, .ow (.lst (acc.map runD)), .sh (.str r.1), .sh (.int r.2)]) := by
          show _ = some (Rs.val (.tup [.str r.1, .int (l.2 + r.2)]), _)
          generalize D.lst (acc.map runD) = q at *
          generalize runD l = ld at *
          simp [evE, evEs, Sv.bound, readR, negD, i1, i3, binD, takeRs, takeR, lim]
        have nx : ixN (acc.map runD).length (-1) = some ((acc.map runD).length - 1) := atI_lastN ne2
        have sl : (acc.map runD).set ((acc.map runD).length - 1) (runD (r.1, l.2 + r.2)) = (acc.dropLast ++ [(r.1, l.2 + r.2)]).map runD := by
          rw [set_last ne2]
          simp
        have e3 : evS F Ld W (.ixs (.var 1) (.neg (.cst (.int (1)))) (.tup [(.var 2), (.bin .add (.ix (.ix (.var 1) (.neg (.cst (.int (1))))) (.cst (.int (1)))) (.var 3))])) [s0, .ow (.lst (acc.map runD)), .sh (.str r.1), .sh (.int r.2)] = some (.nx, [s0, .ow (.lst ((acc.dropLast ++ [(r.1, l.2 + r.2)]).map runD)), .sh (.str r.1), .sh (.int r.2)]) := by
          have v1 : evE F Ld (.var 1) [s0, .ow (.lst (acc.map runD)), .sh (.str r.1), .sh (.int r.2)] = some (.slot 1, [s0, .ow (.lst (acc.map runD)), .sh (.str r.1), .sh (.int r.2)]) := rfl
          have v2 : evE F Ld (.neg (.cst (.int (1)))) [s0, .ow (.lst (acc.map runD)), .sh (.str r.1), .sh (.int r.2)] = some (.val (.int (-1)), [s0, .ow (.lst (acc.map runD)), .sh (.str r.1), .sh (.int r.2)]) := by
            simp [evE, readR, negD]
          have v3 : ownAt [s0, .ow (.lst (acc.map runD)), .sh (.str r.1), .sh (.int r.2)] 1 = some (.lst (acc.map runD)) := rfl
          rw [← sl]
          simp only [evS, e0, takeR, v1, v2, readR, v3, nx]
          rfl
        have e4 : evSs F Ld W jThen [s0, .ow (.lst (acc.map runD)), .sh (.str r.1), .sh (.int r.2)] = some (.nx, [s0, .ow (.lst ((acc.dropLast ++ [(r.1, l.2 + r.2)]).map runD)), .sh (.str r.1), .sh (.int r.2)]) := by
          unfold jThen
          rw [evSs_nx e3, evSs]
        rw [e4] at e2
        rw [evSs_nx e2, evSs]
        simp only [jn1, h0, if_true, hlast, hk]
      · rw [if_neg (by simpa using hk), els h0] at e2
        rw [evSs_nx e2, evSs]
        simp only [jn1, h0, if_true, hlast, hk, if_false]
  · have df : decide (0 < r.2) = false := by simpa using h0
    rw [df] at gT
    have t0 := ev_an_f (b := .an c (.val (.cmp .eq (.ix (.ix (.var 1) (.neg (.cst (.int (1))))) (.cst (.int (0)))) (.var 2)))) gT
    have e2 := ev_iff (W := W) (a := jThen) (b := jElse) t0
    rw [if_neg (by simp)] at e2
    have e3 := ev_iff (W := W) (a := [.ex (.app (.var 1) (.tup [(.var 2), (.var 3)]))]) (b := []) gT
    rw [if_neg (by simp), evSs] at e3
    have e4 : evSs F Ld W jElse [s0, .ow (.lst (acc.map runD)), .sh (.str r.1), .sh (.int r.2)] = some (.nx, [s0, .ow (.lst (acc.map runD)), .sh (.str r.1), .sh (.int r.2)]) := by
      unfold jElse
      rw [evSs_nx e3, evSs]
    rw [e4] at e2
    rw [evSs_nx e2, evSs]
    simp only [jn1, h0, if_false]
def JoinFn (f : Fn) : Prop := ∀ rows : List Run, rows.length ≤ 1000 → f [.sh (.lst (rows.map runD))] = some (.val (shD (joinR rows)), none) ∧ f [.sh (.tup (rows.map runD))] = some (.val (shD (joinR rows)), none)
theorem join_fn {c : T} (hc : NeTest F Ld c) : JoinFn (runF F Ld W ⟨1, 4, irJoin c⟩) := by
  have key : ∀ (q : D) (rows : List Run), rows.length ≤ 1000 → seqD q = some (rows.map runD) → runF F Ld W ⟨1, 4, irJoin c⟩ [.sh q] = some (.val (shD (joinR rows)), none) := by
    intro q rows hl hq
    obtain ⟨Γ', g3, g4⟩ := forL_rel (g := bindT (.tp [(.nm 2), (.nm 3)])) (b := evSs F Ld W (jBody c)) runD
      (fun done Γ => done.length ≤ 1000 ∧ ∃ s2 s3, okS s2 ∧ okS s3 ∧ Γ = [.sh q, .ow (.lst ((joinR done).map runD)), s2, s3]) 1000 rows [] [.sh q, .ow (.lst []), .no, .no] (fun r hr done Γ hd hp => by
        obtain ⟨dl, s2, s3, h2, h3, rfl⟩ := hp
        have jl := joinR_len done
        refine ⟨[.sh q, .ow (.lst ((joinR done).map runD)), .sh (.str r.1), .sh (.int r.2)], _, ?_, j_step hc (by omega), by rw [List.length_append, List.length_singleton]; omega, .sh (.str r.1), .sh (.int r.2), .inr ⟨_, rfl⟩, .inr ⟨_, rfl⟩, ?_⟩
        · generalize D.lst ((joinR done).map runD) = l
          rcases h2 with rfl | ⟨d, rfl⟩ <;> rcases h3 with rfl | ⟨d, rfl⟩ <;> simp [bindT, bindTs, bindR, mayBind, slOf, runD]
        · rw [joinR_snoc]) ⟨by simp, .no, .no, .inl rfl, .inl rfl, rfl⟩ (by simp; omega)
    obtain ⟨_, s2', s3', q2, q3, rfl⟩ := g4
    rw [List.nil_append] at g3
    have hI : evI F Ld (.seq (.var 0)) [.sh q, .ow (.lst []), .no, .no] = some (rows.map runD, [.sh q, .ow (.lst []), .no, .no]) := by
      have v : evE F Ld (.var 0) [.sh q, .ow (.lst []), .no, .no] = some (.slot 0, [.sh q, .ow (.lst []), .no, .no]) := rfl
      have t : takeR (.slot 0) [.sh q, .ow (.lst []), .no, .no] = some (q, [.sh q, .ow (.lst []), .no, .no]) := rfl
      simp only [evI, v, t, hq]
    have f := ev_for (F := F) (Ld := Ld) (W := W) hI g3
    have s1 : evS F Ld W (.set 1 (.lst [])) [.sh q, .no, .no, .no] = some (.nx, [.sh q, .ow (.lst []), .no, .no]) := by
      simp [evS, evE, evEs, takeRs, lim, settleR, bindR, mayBind, slOf]
    have rt : evE F Ld (.bi .tuple [(.var 1)]) [.sh q, .ow (.lst ((joinR rows).map runD)), s2', s3'] = some (.val (shD (joinR rows)), [.sh q, .ow (.lst ((joinR rows).map runD)), s2', s3']) := by
      have b : biD .tuple [.lst ((joinR rows).map runD)] = some (.val (shD (joinR rows))) := rfl
      generalize D.lst ((joinR rows).map runD) = l at *
      simp [evE, evEs, Sv.bound, readRs, readR, b]
    exact runF_rt (f := ⟨1, 4, irJoin c⟩) (as := [.sh q]) (Γ0 := [.sh q, .no, .no, .no]) (Γ := [.sh q, .ow (.lst ((joinR rows).map runD)), s2', s3']) rfl rfl ((evSs_nx s1).trans ((evSs_nx f).trans (ev_ret_val rt)))
  exact fun rows hl => ⟨key _ rows hl rfl, key _ rows hl rfl⟩
end
end Sv

namespace Sv
open PySem PySem.Spec PyProof.Rows L2
/-! books by kinds, in a dict -/
def many1 (done : List Run) (k : Str) : Int := ((done.filter fun r => decide (r.1 = k)).map (·.2)).sum
def encK (p : Str × Int) : Key × D := (.inr p.1, .int p.2)
structure Good (acc : List (Str × Int)) (done : List Run) : Prop where
  nd : (acc.map (·.1)).Nodup
  mem : ∀ k, k ∈ acc.map (·.1) ↔ ∃ r ∈ done, r.1 = k
  val : ∀ p ∈ acc, p.2 = many1 done p.1
theorem many1_snoc (done : List Run) (r : Run) (k : Str) : many1 (done ++ [r]) k = many1 done k + if r.1 = k then r.2 else 0 := by
  unfold many1
  rw [List.filter_append, List.map_append, List.sum_append]
  by_cases h : r.1 = k <;> simp [h]
theorem many1_none {done : List Run} {k : Str} (h : ¬ ∃ r ∈ done, r.1 = k) : many1 done k = 0 := by
  unfold many1
  rw [List.filter_eq_nil_iff.2]
  · rfl
  · intro r hr
    simp
    exact fun e => h ⟨r, hr, e⟩
theorem val_enc (acc : List (Str × Int)) (k : Str) : valD (acc.map encK) (.inr k) = (acc.find? fun p => decide (p.1 = k)).map fun p => .int p.2 := by
  induction acc with
  | nil => rfl
  | cons p acc ih =>
    by_cases h : p.1 = k
    · simp [valD, encK, h]
    · have : valD ((p :: acc).map encK) (.inr k) = valD (acc.map encK) (.inr k) := by
        simp [valD, List.find?_cons, encK, h]
      rw [this, ih, List.find?_cons]
      simp [h]
theorem Good.get {acc : List (Str × Int)} {done : List Run} (g : Good acc done) (k : Str) : getD2 (.dK (acc.map encK)) (.str k) (.int 0) = some (.int (many1 done k)) := by
  simp only [getD2, keyOfD, val_enc]
  cases h : acc.find? fun p => decide (p.1 = k) with
  | none =>
    rw [List.find?_eq_none] at h
    have : ¬ ∃ r ∈ done, r.1 = k := by
      rw [← g.mem k, List.mem_map]
      rintro ⟨p, hp, e⟩
      exact h p hp (by simpa using e)
    rw [many1_none this]
    rfl
  | some p =>
    have hm := List.mem_of_find?_eq_some h
    have hk := List.find?_some h
    have hk : p.1 = k := by simpa using hk
    rw [← hk, ← g.val p hm]
    rfl
def sm1 (acc : List (Str × Int)) (k : Str) (v : Int) : List (Str × Int) := if (acc.any fun p => decide (p.1 = k)) = true then acc.map (fun p => if p.1 = k then (p.1, v) else p) else acc ++ [(k, v)]
theorem put_enc (acc : List (Str × Int)) (k : Str) (v : Int) : putD (acc.map encK) (.inr k) (.int v) = (sm1 acc k v).map encK := by
  have e : ((acc.map encK).any fun kv => decide (kv.1 = Sum.inr k)) = acc.any fun p => decide (p.1 = k) := by
    rw [List.any_map]
    congr 1
    funext p
    simp [encK]
  unfold putD sm1
  rw [e]
  split
  · rw [List.map_map, List.map_map]
    apply List.map_congr_left
    intro p _
    simp only [Function.comp, encK]
    by_cases h : p.1 = k <;> simp [h]
  · simp [encK]
theorem Good.put {acc : List (Str × Int)} {done : List Run} (g : Good acc done) (r : Run) : Good (sm1 acc r.1 (many1 done r.1 + r.2)) (done ++ [r]) := by
  have ex : ∀ k, (∃ q ∈ done ++ [r], q.1 = k) ↔ (∃ q ∈ done, q.1 = k) ∨ r.1 = k := by
    intro k
    constructor
    · rintro ⟨q, hq, e⟩
      rcases List.mem_append.1 hq with h | h
      · exact .inl ⟨q, h, e⟩
      · rw [List.mem_singleton] at h; subst h; exact .inr e
    · rintro (⟨q, hq, e⟩ | e)
      · exact ⟨q, List.mem_append_left _ hq, e⟩
      · exact ⟨r, List.mem_append_right _ (List.mem_singleton.2 rfl), e⟩
  unfold sm1
  split
  · next h =>
    obtain ⟨p0, hp0, e0⟩ := List.any_eq_true.1 h
    have e0 : p0.1 = r.1 := by simpa using e0
    have km : (acc.map fun p => if p.1 = r.1 then (p.1, many1 done r.1 + r.2) else p).map (·.1) = acc.map (·.1) := by
      rw [List.map_map]
      apply List.map_congr_left
      intro p _
      simp only [Function.comp]
      split <;> rfl
    refine ⟨by rw [km]; exact g.nd, fun k => ?_, fun p hp => ?_⟩
    · rw [km, g.mem, ex]
      constructor
      · exact .inl
      · rintro (h | h)
        · exact h
        · rw [← g.mem, List.mem_map]
          exact ⟨p0, hp0, e0.trans h⟩
    · obtain ⟨q, hq, rfl⟩ := List.mem_map.1 hp
      rw [many1_snoc]
      split
      · next h1 => simp [h1]
      · next h1 =>
        rw [if_neg (fun z => h1 z.symm), g.val q hq]
        omega
  · next h =>
    have nm : r.1 ∉ acc.map (·.1) := by
      intro hm
      obtain ⟨p, hp, e⟩ := List.mem_map.1 hm
      exact h (List.any_eq_true.2 ⟨p, hp, by simpa using e⟩)
    have nr : ¬ ∃ q ∈ done, q.1 = r.1 := by rw [← g.mem]; exact nm
    refine ⟨?_, fun k => ?_, fun p hp => ?_⟩
    · rw [List.map_append, List.nodup_append]
      refine ⟨g.nd, by simp, ?_⟩
      intro a ha b hb e
      simp at hb
      subst hb
      subst e
      exact nm ha
    · rw [List.map_append, List.mem_append, g.mem, ex]
      simp [eq_comm]
    · rcases List.mem_append.1 hp with hp | hp
      · rw [many1_snoc, if_neg (fun (z : r.1 = p.1) => nm (by rw [z]; exact List.mem_map.2 ⟨p, hp, rfl⟩)), g.val p hp]
        omega
      · rw [List.mem_singleton] at hp
        subst hp
        rw [many1_snoc, many1_none nr]
        simp
theorem Good.len {acc : List (Str × Int)} {done : List Run} (g : Good acc done) : acc.length ≤ done.length := by
  have := nodup_le (acc.map (·.1)) (done.map (·.1)) g.nd fun x hx => by
    rw [g.mem] at hx
    obtain ⟨r, h1, h2⟩ := hx
    exact List.mem_map.2 ⟨r, h1, h2⟩
  simpa using this
theorem Good.sorted {acc : List (Str × Int)} {st : Stand} (g : Good acc st.flatten) : sortBy ltS (acc.map (·.1)) = kinds st := by
  unfold kinds
  refine srtU_uniq ltS_ord (srtU_of _ (sortBy_srt ltS_ord _) ((sortBy_perm _).nodup_iff.2 g.nd)) (sortU_srt ltS_ord _) fun k => ?_
  rw [(sortBy_perm (acc.map (·.1))).mem_iff, g.mem, sortU_mem, List.mem_map]
theorem keys_enc (acc : List (Str × Int)) : keysS (acc.map encK) = some (acc.map (·.1)) := by
  induction acc with
  | nil => rfl
  | cons p acc ih => simp [keysS, encK] at ih ⊢; rw [ih]
section
variable {F : Nat → Fn} {Ld : Nat → Bool} {W : Nat}
def sumI : List S := [.ixs (.var 1) (.var 3) (.bin .add (.get2 (.var 1) (.var 3) (.cst (.int (0)))) (.var 4))]
def irSums : List S := [
    .set 1 .dnew,
    .frr (.nm 2) (.seq (.var 0)) [.frr (.tp [(.nm 3), (.nm 4)]) (.seq (.var 2)) sumI],
    .ret (some (.var 1))]
def SumsFn (f : Fn) : Prop := ∀ st : Stand, Sm 40 st → ∃ acc, Good acc st.flatten ∧ f [.sh (stD st)] = some (.new (.dK (acc.map encK)), none)
theorem sum_step {s0 s2 : Sl} {acc : List (Str × Int)} {done : List Run} {r : Run} (g : Good acc done) (hl : acc.length < 1000000) :
    evSs F Ld W sumI [s0, .ow (.dK (acc.map encK)), s2, .sh (.str r.1), .sh (.int r.2)] = some (.nx, [s0, .ow (.dK ((sm1 acc r.1 (many1 done r.1 + r.2)).map encK)), s2, .sh (.str r.1), .sh (.int r.2)]) := by
  have gg := g.get r.1
  have pe := put_enc acc r.1 (many1 done r.1 + r.2)
  have l1 : (acc.map encK).length < 1000000 := by rw [List.length_map]; exact hl
  generalize many1 done r.1 = q at *
  rw [← pe]
  have e0 : evE F Ld (.bin .add (.get2 (.var 1) (.var 3) (.cst (.int (0)))) (.var 4)) [s0, .ow (.dK (acc.map encK)), s2, .sh (.str r.1), .sh (.int r.2)] = some (.val (.int (q + r.2)), [s0, .ow (.dK (acc.map encK)), s2, .sh (.str r.1), .sh (.int r.2)]) := by
    simp [evE, Sv.bound, readR, isDK, takeR, gg, binD]
  have v1 : evE F Ld (.var 1) [s0, .ow (.dK (acc.map encK)), s2, .sh (.str r.1), .sh (.int r.2)] = some (.slot 1, [s0, .ow (.dK (acc.map encK)), s2, .sh (.str r.1), .sh (.int r.2)]) := rfl
  have v2 : evE F Ld (.var 3) [s0, .ow (.dK (acc.map encK)), s2, .sh (.str r.1), .sh (.int r.2)] = some (.slot 3, [s0, .ow (.dK (acc.map encK)), s2, .sh (.str r.1), .sh (.int r.2)]) := rfl
  have v3 : ownAt [s0, .ow (.dK (acc.map encK)), s2, .sh (.str r.1), .sh (.int r.2)] 1 = some (.dK (acc.map encK)) := rfl
  have v4 : readR (.slot 3) [s0, .ow (.dK (acc.map encK)), s2, .sh (.str r.1), .sh (.int r.2)] = some (.str r.1) := rfl
  have e1 : evS F Ld W (.ixs (.var 1) (.var 3) (.bin .add (.get2 (.var 1) (.var 3) (.cst (.int (0)))) (.var 4))) [s0, .ow (.dK (acc.map encK)), s2, .sh (.str r.1), .sh (.int r.2)] = some (.nx, setOwn [s0, .ow (.dK (acc.map encK)), s2, .sh (.str r.1), .sh (.int r.2)] 1 (.dK (putD (acc.map encK) (.inr r.1) (.int (q + r.2))))) := by
    simp only [evS, e0, takeR, v1, v2, v3, v4, keyOfD, if_pos l1]
  unfold sumI
  rw [evSs_nx e1, evSs]
  rfl
theorem sums_fn : SumsFn (runF F Ld W ⟨1, 5, irSums⟩) := by
  intro st hs
  have fl := flat_len hs
  obtain ⟨Γ', g3, g4⟩ := forL_rel (g := bindT (.nm 2)) (b := evSs F Ld W [.frr (.tp [(.nm 3), (.nm 4)]) (.seq (.var 2)) sumI]) shD
    (fun done Γ => (∀ t ∈ done, t.length ≤ 100) ∧ ∃ acc s2 s3 s4, Good acc done.flatten ∧ okS s2 ∧ okS s3 ∧ okS s4 ∧ Γ = [.sh (stD st), .ow (.dK (acc.map encK)), s2, s3, s4]) 1000 st [] [.sh (stD st), .ow (.dK []), .no, .no, .no] (fun s hm done Γ hd hp => by
      obtain ⟨hsm, acc, s2, s3, s4, g, h2, h3, h4, rfl⟩ := hp
      have dl : done.flatten.length ≤ 100 * done.length := flat_len ⟨Nat.le_refl _, hsm⟩
      have ss := hs.each s hm
      obtain ⟨Γ1, k3, k4⟩ := forL_rel (g := bindT (.tp [(.nm 3), (.nm 4)])) (b := evSs F Ld W sumI) runD
        (fun dr Γ => ∃ acc s3 s4, Good acc (done.flatten ++ dr) ∧ okS s3 ∧ okS s4 ∧ Γ = [.sh (stD st), .ow (.dK (acc.map encK)), .sh (shD s), s3, s4]) 1000 s [] [.sh (stD st), .ow (.dK (acc.map encK)), .sh (shD s), s3, s4] (fun r hr dr Γ hdr hp => by
          obtain ⟨acc, s3, s4, g, h3, h4, rfl⟩ := hp
          have gl := g.len
          rw [List.length_append] at gl
          refine ⟨[.sh (stD st), .ow (.dK (acc.map encK)), .sh (shD s), .sh (.str r.1), .sh (.int r.2)], _, ?_, sum_step g (by omega), _, .sh (.str r.1), .sh (.int r.2), ?_, .inr ⟨_, rfl⟩, .inr ⟨_, rfl⟩, rfl⟩
          · generalize D.dK (acc.map encK) = l
            rcases h3 with rfl | ⟨d, rfl⟩ <;> rcases h4 with rfl | ⟨d, rfl⟩ <;> simp [bindT, bindTs, bindR, mayBind, slOf, runD]
          · rw [← List.append_assoc]
            exact g.put r) ⟨acc, s3, s4, by rw [List.append_nil]; exact g, h3, h4, rfl⟩ (by simp; omega)
      obtain ⟨acc', s3', s4', g', h3', h4', rfl⟩ := k4
      have hI2 : evI F Ld (.seq (.var 2)) [.sh (stD st), .ow (.dK (acc.map encK)), .sh (shD s), s3, s4] = some (s.map runD, [.sh (stD st), .ow (.dK (acc.map encK)), .sh (shD s), s3, s4]) := by
        have v : evE F Ld (.var 2) [.sh (stD st), .ow (.dK (acc.map encK)), .sh (shD s), s3, s4] = some (.slot 2, [.sh (stD st), .ow (.dK (acc.map encK)), .sh (shD s), s3, s4]) := rfl
        have t : takeR (.slot 2) [.sh (stD st), .ow (.dK (acc.map encK)), .sh (shD s), s3, s4] = some (shD s, [.sh (stD st), .ow (.dK (acc.map encK)), .sh (shD s), s3, s4]) := rfl
        have sq : seqD (shD s) = some (s.map runD) := rfl
        simp only [evI, v, t, sq]
      have f2 := ev_for (F := F) (Ld := Ld) (W := W) hI2 k3
      refine ⟨[.sh (stD st), .ow (.dK (acc.map encK)), .sh (shD s), s3, s4], [.sh (stD st), .ow (.dK (acc'.map encK)), .sh (shD s), s3', s4'], ?_, ?_, ?_, acc', .sh (shD s), s3', s4', ?_, .inr ⟨_, rfl⟩, h3', h4', rfl⟩
      · generalize D.dK (acc.map encK) = l
        rcases h2 with rfl | ⟨d, rfl⟩ <;> simp [bindT, bindR, mayBind, slOf]
      · rw [evSs_nx f2, evSs]
      · intro t ht
        rcases List.mem_append.1 ht with ht | ht
        · exact hsm t ht
        · rw [List.mem_singleton] at ht; subst ht; exact ss
      · rw [List.flatten_append, List.flatten_singleton]
        rw [List.nil_append] at g'
        exact g') ⟨by simp, [], .no, .no, .no, ⟨by simp, by simp, by simp⟩, .inl rfl, .inl rfl, .inl rfl, rfl⟩ (by have := hs.len; simp; omega)
  obtain ⟨_, acc, s2', s3', s4', g, q2, q3, q4, rfl⟩ := g4
  rw [List.nil_append] at g
  refine ⟨acc, g, ?_⟩
  have hI : evI F Ld (.seq (.var 0)) [.sh (stD st), .ow (.dK []), .no, .no, .no] = some (st.map shD, [.sh (stD st), .ow (.dK []), .no, .no, .no]) := by
    simp [evI, evE, Sv.bound, takeR, stD, seqD]
  have f := ev_for (F := F) (Ld := Ld) (W := W) hI g3
  have s1 : evS F Ld W (.set 1 .dnew) [.sh (stD st), .no, .no, .no, .no] = some (.nx, [.sh (stD st), .ow (.dK []), .no, .no, .no]) :=
    ev_set_new (F := F) (Ld := Ld) (W := W) (i := 1) (e := .dnew) (Γ := [.sh (stD st), .no, .no, .no, .no]) (Γ1 := [.sh (stD st), .no, .no, .no, .no]) (d := .dK []) (by rw [evE]) rfl
  refine runF_rt (f := ⟨1, 5, irSums⟩) (as := [.sh (stD st)]) (Γ0 := [.sh (stD st), .no, .no, .no, .no]) (Γ := [.sh (stD st), .no, s2', s3', s4']) rfl rfl ((evSs_nx s1).trans ((evSs_nx f).trans ?_))
  generalize D.dK (acc.map encK) = l
  generalize stD st = q
  simp [evSs, evS, evE, Sv.bound]
end
end Sv

namespace Sv
open PySem PySem.Spec PyProof.Rows L2
/-! the law's own spots -/
def sp1 (k : Str) (x : Shelf × Nat) : List (Nat × Nat) := ((List.range x.1.length).filter fun j => decide ((x.1[j]?).map (·.1) = some k)).map fun j => (x.2, j)
theorem spots_sp1 (st : Stand) (k : Str) : spots st k = st.zipIdx.flatMap (sp1 k) := by
  unfold spots allSpots
  rw [List.filter_flatMap]
  have fc : ∀ {α β : Type} {f g : α → List β} (l : List α), (∀ x ∈ l, f x = g x) → l.flatMap f = l.flatMap g := by
    intro α β f g l
    induction l with
    | nil => intro _; rfl
    | cons a l ih => intro h; rw [List.flatMap_cons, List.flatMap_cons, h a List.mem_cons_self, ih fun x hx => h x (List.mem_cons_of_mem _ hx)]
  apply fc
  intro x hx
  have h := List.mem_zipIdx_iff_getElem?.1 hx
  unfold sp1
  rw [List.filter_map]
  congr 1
  apply List.filter_congr
  intro j _
  simp only [Function.comp, kAt, h, Option.bind_some]
theorem sp1_len (k : Str) (x : Shelf × Nat) : (sp1 k x).length ≤ x.1.length := by
  unfold sp1
  rw [List.length_map]
  exact Nat.le_trans (List.length_filter_le _ _) (by simp)
section
variable {F : Nat → Fn} {Ld : Nat → Bool} {W : Nat}
theorem ev_bin {op : BOp} {a b : E} {r1 r2 r : Rs} {d1 d2 : D} {Γ Γ1 Γ2 : Gm} (h1 : evE F Ld a Γ = some (r1, Γ1)) (h2 : evE F Ld b Γ1 = some (r2, Γ2)) (h3 : readR r1 Γ2 = some d1) (h4 : readR r2 Γ2 = some d2) (h5 : binD op d1 d2 = some r) : evE F Ld (.bin op a b) Γ = some (r, Γ2) := by
  simp only [evE, h1, h2, h3, h4, h5]
def lsC : E := .comp (.tup [(.var 3), (.var 5)]) (.nm 5) (.rng [(.bi .len [(.var 4)])]) [(.val (.cmp .eq (.ix (.ix (.var 4) (.var 5)) (.cst (.int (0)))) (.var 1)))] [5]
def lsB : List S := [.set 2 (.bin .add (.var 2) lsC)]
def irLSpots : List S := [.set 2 (.lst []), .frr (.tp [(.nm 3), (.nm 4)]) (.enm (.var 0)) lsB, .ret (some (.var 2))]
theorem ls_step {s0 : Sl} {k : Str} {s : Shelf} {i : Nat} {acc : List D} (hl : acc.length ≤ 100000) (sl : s.length ≤ 100) :
    evSs F Ld W lsB [s0, .sh (.str k), .ow (.lst acc), .sh (natD i), .sh (shD s), .no] = some (.nx, [s0, .sh (.str k), .ow (.lst (acc ++ (sp1 k (s, i)).map spotD)), .sh (natD i), .sh (shD s), .no]) := by
  have hI : evI F Ld (.rng [(.bi .len [(.var 4)])]) [s0, .sh (.str k), .ow (.lst acc), .sh (natD i), .sh (shD s), .no] = some ((List.range s.length).map natD, [s0, .sh (.str k), .ow (.lst acc), .sh (natD i), .sh (shD s), .no]) := by
    have l0 : biD .len [shD s] = some (.val (.int (s.length : Int))) := by simp [biD, shD]
    have q := rng_ev (F := F) (Ld := Ld) (e := .bi .len [(.var 4)]) (r := .val (.int (s.length : Int))) (q := (s.length : Int)) (Γ := [s0, .sh (.str k), .ow (.lst acc), .sh (natD i), .sh (shD s), .no]) (Γ1 := [s0, .sh (.str k), .ow (.lst acc), .sh (natD i), .sh (shD s), .no]) (by
      generalize (s.length : Int) = L at *
      generalize shD s = q at *
      simp [evE, evEs, Sv.bound, readRs, readR, l0]) rfl (by simp only [small62, Bool.and_eq_true, decide_eq_true_eq]; omega)
    rw [q, Int.toNat_natCast, rangeD_nat]
  have hc : evE F Ld lsC [s0, .sh (.str k), .ow (.lst acc), .sh (natD i), .sh (shD s), .no] = some (.new (.lst ((sp1 k (s, i)).map spotD)), [s0, .sh (.str k), .ow (.lst acc), .sh (natD i), .sh (shD s), .no]) := by
    have q := ev_compOn (F := F) (Ld := Ld) (e := .tup [(.var 3), (.var 5)]) (t := .nm 5) (cs := [(.val (.cmp .eq (.ix (.ix (.var 4) (.var 5)) (.cst (.int (0)))) (.var 1)))]) (vs := [5]) (Γ := [s0, .sh (.str k), .ow (.lst acc), .sh (natD i), .sh (shD s), .no]) natD (fun j => decide ((s[j]?).map (·.1) = some k)) (fun j => spotD (i, j)) (List.range s.length) hI rfl rfl rfl (by simp; omega) (fun j hj => by
      have hj := List.mem_range.1 hj
      have i1 : ixD (shD s) (natD j) = some (runD s[j]) := by
        simp only [ixD, shD, natD]
        exact atI_nat (by rw [List.getElem?_map, List.getElem?_eq_getElem hj]; rfl)
      have i2 : ixD (runD s[j]) (.int 0) = some (.str s[j].1) := rfl
      have e1 : decide ((s[j]?).map (·.1) = some k) = decide (s[j].1 = k) := by
        rw [List.getElem?_eq_getElem hj]
        simp
      refine ⟨[s0, .sh (.str k), .ow (.lst acc), .sh (natD i), .sh (shD s), .sh (natD j)], [s0, .sh (.str k), .ow (.lst acc), .sh (natD i), .sh (shD s), .sh (natD j)], ?_, ?_, fun _ => rfl, fun _ => ⟨.val (spotD (i, j)), [s0, .sh (.str k), .ow (.lst acc), .sh (natD i), .sh (shD s), .sh (natD j)], [s0, .sh (.str k), .ow (.lst acc), .sh (natD i), .sh (shD s), .sh (natD j)], ?_, rfl, rfl⟩⟩
      · generalize natD j = a
        generalize natD i = b
        generalize shD s = q
        simp [bindT, bindR, mayBind, slOf]
      · rw [e1]
        generalize natD i = b
        generalize shD s = q at *
        generalize natD j = a at *
        generalize runD s[j] = rr at *
        cases hd : decide (s[j].1 = k) <;> simp [evCs, evT, evE, Sv.bound, readR, i1, i2, cmpD, dep, eqD, str_beq, hd]
      · show _ = some (Rs.val (.tup [natD i, natD j]), _)
        generalize natD j = a
        generalize natD i = b
        generalize shD s = q
        simp [evE, evEs, Sv.bound, takeRs, takeR, lim])
    rw [show (sp1 k (s, i)).map spotD = ((List.range s.length).filter fun j => decide ((s[j]?).map (·.1) = some k)).map fun j => spotD (i, j) by
      unfold sp1
      rw [List.map_map]
      rfl]
    exact q
  have pl := sp1_len k (s, i)
  generalize hsp : (sp1 k (s, i)).map spotD = out at *
  have ol : out.length ≤ 100 := by rw [← hsp, List.length_map]; exact Nat.le_trans pl sl
  have bn : binD .add (.lst acc) (.lst out) = some (.new (.lst (acc ++ out))) := by
    have : acc.length + out.length ≤ lim := by unfold lim; omega
    simp only [binD, this, if_true]
  have e2 : evE F Ld (.bin .add (.var 2) lsC) [s0, .sh (.str k), .ow (.lst acc), .sh (natD i), .sh (shD s), .no] = some (.new (.lst (acc ++ out)), [s0, .sh (.str k), .ow (.lst acc), .sh (natD i), .sh (shD s), .no]) := by
    have v : evE F Ld (.var 2) [s0, .sh (.str k), .ow (.lst acc), .sh (natD i), .sh (shD s), .no] = some (.slot 2, [s0, .sh (.str k), .ow (.lst acc), .sh (natD i), .sh (shD s), .no]) := rfl
    have rd : readR (.slot 2) [s0, .sh (.str k), .ow (.lst acc), .sh (natD i), .sh (shD s), .no] = some (.lst acc) := rfl
    have rn : readR (.new (.lst out)) [s0, .sh (.str k), .ow (.lst acc), .sh (natD i), .sh (shD s), .no] = some (.lst out) := rfl
    exact ev_bin v hc rd rn bn
  clear hI hc bn hsp pl ol
  unfold lsB
  generalize natD i = a at e2 ⊢
  generalize shD s = q at e2 ⊢
  generalize D.lst acc = b at e2 ⊢
  generalize D.lst (acc ++ out) = b2 at e2 ⊢
  have e3 := ev_set_new (W := W) (i := 2) e2 rfl
  rw [evSs_nx e3, evSs]
  simp
theorem lspots_fn : SpotsFn (runF F Ld W ⟨2, 6, irLSpots⟩) := by
  intro st k hs
  obtain ⟨Γ', g3, g4⟩ := forL_rel (g := bindT (.tp [(.nm 3), (.nm 4)])) (b := evSs F Ld W lsB) (fun (x : Shelf × Nat) => D.tup [.int (x.2 : Int), shD x.1])
    (fun done Γ => (done.flatMap (sp1 k)).length ≤ 100 * done.length ∧ ∃ s3 s4, okS s3 ∧ okS s4 ∧ Γ = [.sh (stD st), .sh (.str k), .ow (.lst ((done.flatMap (sp1 k)).map spotD)), s3, s4, .no]) 1000 st.zipIdx [] [.sh (stD st), .sh (.str k), .ow (.lst []), .no, .no, .no] (fun x hx done Γ hd hp => by
      obtain ⟨dl, s3, s4, h3, h4, rfl⟩ := hp
      obtain ⟨s, i⟩ := x
      have hx' := List.mem_zipIdx_iff_getElem?.1 hx
      have sl := hs.each s (List.mem_of_getElem? hx')
      have pl := sp1_len k (s, i)
      refine ⟨[.sh (stD st), .sh (.str k), .ow (.lst ((done.flatMap (sp1 k)).map spotD)), .sh (natD i), .sh (shD s), .no], _, ?_, ls_step (by rw [List.length_map]; omega) sl, ?_, .sh (natD i), .sh (shD s), .inr ⟨_, rfl⟩, .inr ⟨_, rfl⟩, ?_⟩
      · generalize D.lst ((done.flatMap (sp1 k)).map spotD) = l
        show bindT _ (D.tup [natD i, shD s]) _ = _
        generalize natD i = a
        generalize shD s = b
        rcases h3 with rfl | ⟨d, rfl⟩ <;> rcases h4 with rfl | ⟨d, rfl⟩ <;> simp [bindT, bindTs, bindR, mayBind, slOf]
      · rw [List.flatMap_append, List.length_append, List.length_append, List.length_singleton]
        have : ([(s, i)].flatMap (sp1 k)).length ≤ 100 := by simp only [List.flatMap_cons, List.flatMap_nil, List.append_nil]; exact Nat.le_trans pl sl
        omega
      · rw [List.flatMap_append, List.map_append]
        simp) ⟨by simp, .no, .no, .inl rfl, .inl rfl, rfl⟩ (by have := hs.len; simp; omega)
  obtain ⟨_, s3', s4', q3, q4, rfl⟩ := g4
  rw [List.nil_append] at g3
  have hI : evI F Ld (.enm (.var 0)) [.sh (stD st), .sh (.str k), .ow (.lst []), .no, .no, .no] = some (st.zipIdx.map fun x => D.tup [.int (x.2 : Int), shD x.1], [.sh (stD st), .sh (.str k), .ow (.lst []), .no, .no, .no]) := by
    have v : evE F Ld (.var 0) [.sh (stD st), .sh (.str k), .ow (.lst []), .no, .no, .no] = some (.slot 0, [.sh (stD st), .sh (.str k), .ow (.lst []), .no, .no, .no]) := rfl
    have t : takeR (.slot 0) [.sh (stD st), .sh (.str k), .ow (.lst []), .no, .no, .no] = some (stD st, [.sh (stD st), .sh (.str k), .ow (.lst []), .no, .no, .no]) := rfl
    have sq : seqT (stD st) = some (st.map shD) := rfl
    simp only [evI, v, t, sq, enumD_map]
  have f := ev_for (F := F) (Ld := Ld) (W := W) hI g3
  have s1 : evS F Ld W (.set 2 (.lst [])) [.sh (stD st), .sh (.str k), .no, .no, .no, .no] = some (.nx, [.sh (stD st), .sh (.str k), .ow (.lst []), .no, .no, .no]) := by
    simp [evS, evE, evEs, takeRs, lim, settleR, bindR, mayBind, slOf]
  rw [spots_sp1]
  refine runF_rt (f := ⟨2, 6, irLSpots⟩) (as := [.sh (stD st), .sh (.str k)]) (Γ0 := [.sh (stD st), .sh (.str k), .no, .no, .no, .no]) (Γ := [.sh (stD st), .sh (.str k), .no, s3', s4', .no]) rfl rfl ((evSs_nx s1).trans ((evSs_nx f).trans ?_))
  generalize D.lst ((st.zipIdx.flatMap (sp1 k)).map spotD) = l
  generalize stD st = q
  simp [evSs, evS, evE, Sv.bound]
end
end Sv

namespace Sv
open PySem PySem.Spec PyProof.Rows L2
/-! a standing by draws -/
section
variable {F : Nat → Fn} {Ld : Nat → Bool} {W : Nat}
def lotX (tk pk : Nat) : E := .tup [(.call pk [(.var 0), (.var 5)]), (.bin .add (.cst (.int (1))) (.call tk [(.var 0), (.var 4)]))]
def lotE (tk pk : Nat) : E := .comp (lotX tk pk) (.nm 9) (.rng [(.call tk [(.var 0), (.bin .add (.var 2) (.cst (.int (1))))])]) [] [9]
def Is5 (ss : List Str) (s : Sl) : Prop := s = .ow (.lst (ss.map .str)) ∨ s = .sh (.lst (ss.map .str))
/-- a run of these names, of no more books than that -/
def InR (ss : List Str) (M : Int) (r : Run) : Prop := r.1 ∈ ss ∧ 1 ≤ r.2 ∧ r.2 ≤ M
theorem lotX_ev {tk pk : Nat} (hT : TakeFn (F tk)) (hP : PickFn (F pk)) (lt : Ld tk = true) (lp : Ld pk = true) {b : D} {ss : List Str} {M c : Int} {s1 s2 s3 s5 s6 s7 s8 s9 : Sl} (hb : Bx c b) (hc : c ≤ 900000) (h0 : 0 < ss.length) (h1 : ss.length ≤ 1000) (m0 : 0 < M) (m1 : M < 1000000000000) (h5 : Is5 ss s5) :
    ∃ r b', InR ss M r ∧ Bx (c + 2) b' ∧ evE F Ld (lotX tk pk) [.io b, s1, s2, s3, .sh (.int M), s5, s6, s7, s8, s9] = some (.val (runD r), [.io b', s1, s2, s3, .sh (.int M), .sh (.lst (ss.map .str)), s6, s7, s8, s9]) := by
  obtain ⟨i, x, b1, hx, e1, hb1⟩ := hP c b (ss.map .str) hb (by omega) (by simpa using h0) (by simpa using h1)
  rw [List.getElem?_map] at hx
  obtain ⟨nm, hnm, rfl⟩ : ∃ nm, ss[i]? = some nm ∧ x = .str nm := by
    cases h : ss[i]? with
    | none => rw [h] at hx; cases hx
    | some nm => rw [h] at hx; cases hx; exact ⟨nm, rfl, rfl⟩
  obtain ⟨r, b2, e2, r0, r1, hb2⟩ := hT (c + 1) M b1 hb1 (by omega) m0 m1
  refine ⟨(nm, 1 + r), b2, ⟨List.mem_of_getElem? hnm, by omega, by omega⟩, by rw [show c + 2 = c + 1 + 1 by omega]; exact hb2, ?_⟩
  show _ = some (Rs.val (.tup [.str nm, .int (1 + r)]), _)
  generalize hl : D.lst (ss.map .str) = l at *
  have h5' : s5 = .ow l ∨ s5 = .sh l := by rcases h5 with h | h <;> rw [h, hl] <;> simp
  rcases h5' with rfl | rfl <;>
  simp [lotX, evE, evEs, Sv.bound, callE, lt, lp, takeRs, takeR, readR, ownAt, e1, e2, notSlot, setOwn, binD, lim]
theorem lot_ev {tk pk : Nat} (hT : TakeFn (F tk)) (hP : PickFn (F pk)) (lt : Ld tk = true) (lp : Ld pk = true) {b : D} {ss : List Str} {M R c : Int} {s1 s3 s5 s6 s7 s8 : Sl} (hb : Bx c b) (hc : c ≤ 800000) (h0 : 0 < ss.length) (h1 : ss.length ≤ 1000) (m0 : 0 < M) (m1 : M < 1000000000000) (r0 : 0 ≤ R) (r1 : R ≤ 100) (h5 : Is5 ss s5) :
    ∃ (rows : List Run) (b' : D) (s5' : Sl), (∀ r ∈ rows, InR ss M r) ∧ (rows.length : Int) ≤ R ∧ Is5 ss s5' ∧ Bx (c + 1 + 2 * R) b' ∧ evE F Ld (lotE tk pk) [.io b, s1, .sh (.int R), s3, .sh (.int M), s5, s6, s7, s8, .no] = some (.new (.lst (rows.map runD)), [.io b', s1, .sh (.int R), s3, .sh (.int M), s5', s6, s7, s8, .no]) := by
  obtain ⟨n, b1, e1, n0, n1, hb1⟩ := hT c (R + 1) b hb (by omega) (by omega) (by omega)
  have hI : evI F Ld (.rng [(.call tk [(.var 0), (.bin .add (.var 2) (.cst (.int (1))))])]) [.io b, s1, .sh (.int R), s3, .sh (.int M), s5, s6, s7, s8, .no] = some (rangeD 0 n.toNat, [.io b1, s1, .sh (.int R), s3, .sh (.int M), s5, s6, s7, s8, .no]) := by
    refine rng_ev (r := .val (.int n)) ?_ rfl (by simp only [small62, Bool.and_eq_true, decide_eq_true_eq]; omega)
    simp [evE, evEs, Sv.bound, callE, lt, takeRs, takeR, readR, ownAt, e1, notSlot, setOwn, binD]
  have lr : (rangeD 0 n.toNat).length = n.toNat := by simp [rangeD]
  obtain ⟨out, Γe, q1, ⟨rows, bb, s5', rfl, hr, hbb, h5', rfl⟩, q3⟩ := compL_inv (vs := [9]) (fg := bindT (.nm 9)) (ft := evCs F Ld []) (fe := fun Γ => match evE F Ld (lotX tk pk) Γ with
          | none => none
          | some (r, Γ') => takeR r Γ') (P := fun acc Γ => ∃ (rows : List Run) (bb : D) (s5' : Sl), acc = rows.map runD ∧ (∀ r ∈ rows, InR ss M r) ∧ Bx (c + 1 + 2 * (rows.length : Int)) bb ∧ Is5 ss s5' ∧ Γ = [.io bb, s1, .sh (.int R), s3, .sh (.int M), s5', s6, s7, s8, .no]) (L := 1000) (by omega) (rangeD 0 n.toNat) [] [.io b1, s1, .sh (.int R), s3, .sh (.int M), s5, s6, s7, s8, .no] (fun d hd acc Γ hp hacc => by
      obtain ⟨rows, bb, s5', rfl, hr, hbb, h5', rfl⟩ := hp
      rw [List.length_map] at hacc
      obtain ⟨r, b', hin, hb', ev⟩ := lotX_ev (F := F) (Ld := Ld) hT hP lt lp (s1 := s1) (s2 := .sh (.int R)) (s3 := s3) (s6 := s6) (s7 := s7) (s8 := s8) (s9 := .sh d) hbb (by omega) h0 h1 m0 m1 h5'
      refine ⟨[.io bb, s1, .sh (.int R), s3, .sh (.int M), s5', s6, s7, s8, .sh d], [.io bb, s1, .sh (.int R), s3, .sh (.int M), s5', s6, s7, s8, .sh d], runD r, [.io b', s1, .sh (.int R), s3, .sh (.int M), .sh (.lst (ss.map .str)), s6, s7, s8, .sh d], ?_, rfl, ?_, rows ++ [r], b', .sh (.lst (ss.map .str)), by simp, ?_, ?_, .inr rfl, rfl⟩
      · simp [bindT, bindR, mayBind, slOf]
      · simp only [ev, takeR]
      · intro q hq
        rcases List.mem_append.1 hq with hq | hq
        · exact hr q hq
        · rw [List.mem_singleton] at hq; subst hq; exact hin
      · rw [List.length_append, List.length_singleton, show c + 1 + 2 * ((rows.length + 1 : Nat) : Int) = c + 1 + 2 * (rows.length : Int) + 2 by omega]
        exact hb') ⟨[], b1, s5, rfl, by simp, by simpa using hb1, h5, rfl⟩ (by rw [lr, List.length_nil]; omega)
  rw [List.length_map, lr, List.length_nil] at q3
  have hrl : (rows.length : Int) ≤ R := by omega
  refine ⟨rows, bb, s5', hr, hrl, h5', hbb.mono (by omega), ?_⟩
  have := ev_comp (F := F) (Ld := Ld) (e := lotX tk pk) (t := .nm 9) (cs := []) (vs := [9]) hI rfl q1
  exact this
def ShOk (ss : List Str) (B : Int) (n : Nat) (s : Shelf) : Prop := s.length ≤ n ∧ ∀ r ∈ s, r.1 ∈ ss ∧ 1 ≤ r.2 ∧ r.2 ≤ B
theorem joinR_ok {ss : List Str} {M : Int} : ∀ (rows acc : List Run) (B : Int), 0 ≤ M → (∀ r ∈ acc, r.1 ∈ ss ∧ 1 ≤ r.2 ∧ r.2 ≤ B) → (∀ r ∈ rows, InR ss M r) → 0 ≤ B → ∀ r ∈ rows.foldl jn1 acc, r.1 ∈ ss ∧ 1 ≤ r.2 ∧ r.2 ≤ B + M * (rows.length : Int)
  | [], acc, B, _, ha, _, _ => fun r hr => by simpa using ha r hr
  | q :: rows, acc, B, m0, ha, hr, b0 => by
    obtain ⟨h1, h2, h3⟩ := hr q List.mem_cons_self
    have step : ∀ r ∈ jn1 acc q, r.1 ∈ ss ∧ 1 ≤ r.2 ∧ r.2 ≤ B + M := by
      intro r hm
      have old : ∀ r ∈ acc, r.1 ∈ ss ∧ 1 ≤ r.2 ∧ r.2 ≤ B + M := fun r hr => by
        obtain ⟨a, b, c⟩ := ha r hr
        exact ⟨a, b, by omega⟩
      unfold jn1 at hm
      split at hm
      · split at hm
        · next l hl =>
          split at hm
          · rcases List.mem_append.1 hm with hm | hm
            · exact old r ((List.dropLast_sublist acc).subset hm)
            · rw [List.mem_singleton] at hm
              subst hm
              obtain ⟨a, b, c⟩ := ha l (List.mem_of_getLast? hl)
              exact ⟨h1, by show 1 ≤ l.2 + q.2; omega, by show l.2 + q.2 ≤ B + M; omega⟩
          · rcases List.mem_append.1 hm with hm | hm
            · exact old r hm
            · rw [List.mem_singleton] at hm
              subst hm
              exact ⟨h1, h2, by omega⟩
        · rcases List.mem_append.1 hm with hm | hm
          · exact old r hm
          · rw [List.mem_singleton] at hm
            subst hm
            exact ⟨h1, h2, by omega⟩
      · exact old r hm
    intro r hm
    obtain ⟨a, b, c⟩ := joinR_ok rows (jn1 acc q) (B + M) m0 step (fun r h => hr r (List.mem_cons_of_mem _ h)) (by omega) r hm
    refine ⟨a, b, ?_⟩
    rw [List.length_cons]
    have : M * ((rows.length + 1 : Nat) : Int) = M * (rows.length : Int) + M := by
      rw [show ((rows.length + 1 : Nat) : Int) = (rows.length : Int) + 1 by omega, Int.mul_add, Int.mul_one]
    omega
def standB (tk pk pt : Nat) : List S := [.set 8 (lotE tk pk), .ex (.app (.var 6) (.call pt [(.var 8)]))]
theorem stand_step {tk pk pt : Nat} (hT : TakeFn (F tk)) (hP : PickFn (F pk)) (hJ : JoinFn (F pt)) (lt : Ld tk = true) (lp : Ld pk = true) (lj : Ld pt = false) {b : D} {ss : List Str} {M c : Int} {R : Nat} {s1 s3 s5 s7 s8 : Sl} {sh : Stand} (hb : Bx c b) (hc : c ≤ 800000) (h0 : 0 < ss.length) (h1 : ss.length ≤ 1000) (m0 : 0 < M) (m1 : M < 1000000000000) (r1 : R ≤ 100) (h5 : Is5 ss s5) (h8 : okB s8) (sl : sh.length < 1000) :
    ∃ (s : Shelf) (b' : D) (s5' s8' : Sl), ShOk ss (M * (R : Int)) R s ∧ Is5 ss s5' ∧ okB s8' ∧ Bx (c + 1 + 2 * (R : Int)) b' ∧ evSs F Ld W (standB tk pk pt) [.io b, s1, .sh (.int (R : Int)), s3, .sh (.int M), s5, .ow (.lst (sh.map shD)), s7, s8, .no] = some (.nx, [.io b', s1, .sh (.int (R : Int)), s3, .sh (.int M), s5', .ow (.lst ((sh ++ [s]).map shD)), s7, s8', .no]) := by
  obtain ⟨rows, b', s5', hr, hrl, h5', hb', ev⟩ := lot_ev (F := F) (Ld := Ld) hT hP lt lp (s1 := s1) (s3 := s3) (s6 := .ow (.lst (sh.map shD))) (s7 := s7) (s8 := s8) (R := (R : Int)) hb hc h0 h1 m0 m1 (by omega) (by omega) h5
  have jl := joinR_len rows
  refine ⟨joinR rows, b', s5', .sh (.lst (rows.map runD)), ⟨by omega, ?_⟩, h5', .inr (.inl ⟨_, rfl⟩), hb', ?_⟩
  · intro r hm
    obtain ⟨a, bb, cc⟩ := joinR_ok rows [] 0 (by omega) (by simp) hr (by omega) r hm
    refine ⟨a, bb, ?_⟩
    have : M * (rows.length : Int) ≤ M * (R : Int) := Int.mul_le_mul_of_nonneg_left hrl (by omega)
    omega
  · have hj := (hJ rows (by omega)).1
    generalize (R : Int) = RR at *
    have e1 := ev_set_new (F := F) (Ld := Ld) (W := W) (i := 8) ev (by rcases h8 with rfl | ⟨d, rfl⟩ | ⟨d, rfl⟩ <;> rfl)
    have e1' : evS F Ld W (.set 8 (lotE tk pk)) [.io b, s1, .sh (.int RR), s3, .sh (.int M), s5, .ow (.lst (sh.map shD)), s7, s8, .no] = some (.nx, [.io b', s1, .sh (.int RR), s3, .sh (.int M), s5', .ow (.lst (sh.map shD)), s7, .ow (.lst (rows.map runD)), .no]) := by
      rw [e1]
      rfl
    have c1 := ev_call1 (F := F) (Ld := Ld) (f := pt) (e := .var 8) (Γ := [.io b', s1, .sh (.int RR), s3, .sh (.int M), s5', .ow (.lst (sh.map shD)), s7, .ow (.lst (rows.map runD)), .no]) (r := .slot 8) (Γ2 := [.io b', s1, .sh (.int RR), s3, .sh (.int M), s5', .ow (.lst (sh.map shD)), s7, .sh (.lst (rows.map runD)), .no]) rfl rfl hj rfl lj
    have e2 := ev_app (W := W) (i := 6) (xs0 := sh.map shD) (xs := sh.map shD) rfl rfl c1 rfl rfl (by rw [List.length_map]; omega)
    unfold standB
    rw [evSs_nx e1', evSs_nx e2, evSs, List.map_append]
    rfl
end
end Sv

namespace Sv
open PySem PySem.Spec PyProof.Rows L2
section
variable {F : Nat → Fn} {Ld : Nat → Bool} {W : Nat}
def anyE : E := .compO (.cmp .ne (.var 7) (.tup [])) (.nm 7) 6 [] [7]
def bare (s : Shelf) : Bool := s.isEmpty
theorem eq_bare (s : Shelf) : eqD (shD s) (.tup []) = bare s := by cases s <;> simp [shD, eqD, eqDs, bare]
theorem dep_sh (s : Shelf) : dep (shD s) ≤ 2 := by
  have := dep_runs s
  simp only [shD, dep]
  omega
theorem ev_compO {e : E} {t : Tg} {i : Nat} {cs : List T} {vs : List Nat} {Γ Γe : Gm} {ds out : List D} (h1 : Γ[i]? = some (.ow (.lst ds))) (h0 : vs.contains i = false) (h2 : notIo (Γ.set i .no) vs = true) (h3 : compL vs (bindT t) (evCs F Ld cs) (fun Γ => match evE F Ld e Γ with
          | none => none
          | some (r, Γ') => takeR r Γ') ds [] (wipeG (Γ.set i .no) vs) = some (out, Γe)) (h4 : Γe[i]? = some .no) : evE F Ld (.compO e t i cs vs) Γ = some (.new (.lst out), (restore (Γ.set i .no) Γe vs).set i (.ow (.lst ds))) := by
  simp only [evE, h1]
  rw [if_pos ⟨h0, h2⟩]
  split
  · next h => cases h3.symm.trans h
  · next h =>
    cases h3.symm.trans h
    rw [h4]
theorem ev_ne {a b : E} {r1 r2 : Rs} {d1 d2 : D} {Γ Γ1 Γ2 : Gm} (h1 : evE F Ld a Γ = some (r1, Γ1)) (h2 : evE F Ld b Γ1 = some (r2, Γ2)) (h3 : readR r1 Γ2 = some d1) (h4 : readR r2 Γ2 = some d2) (h5 : dep d1 ≤ 64) (h6 : dep d2 ≤ 64) : evE F Ld (.cmp .ne a b) Γ = some (.val (.bl (!eqD d1 d2)), Γ2) := by
  simp only [evE, h1, h2, h3, h4, cmpD, h5, h6, and_self, if_true]
theorem anyE_ev {a0 a1 a2 a3 a4 s5 s7 s8 s9 : Sl} (sh : Stand) (hl : sh.length ≤ 1000) (h7 : okS s7) :
    evE F Ld anyE [a0, a1, a2, a3, a4, s5, .ow (.lst (sh.map shD)), s7, s8, s9] = some (.new (.lst (sh.map fun s => .bl (!bare s))), [a0, a1, a2, a3, a4, s5, .ow (.lst (sh.map shD)), s7, s8, s9]) := by
  have hc := compL_map (vs := [7]) (fg := bindT (.nm 7)) (ft := evCs F Ld []) (fe := fun Γ => match evE F Ld (.cmp .ne (.var 7) (.tup [])) Γ with
      | none => none
      | some (r, Γ') => takeR r Γ') (f := fun d => .bl (!eqD d (.tup []))) (Γ := [a0, a1, a2, a3, a4, s5, .no, .no, s8, s9]) (sh.map shD) (fun d hd => by
        obtain ⟨s, hs, rfl⟩ := List.mem_map.1 hd
        have dd := dep_sh s
        refine ⟨[a0, a1, a2, a3, a4, s5, .no, .sh (shD s), s8, s9], [a0, a1, a2, a3, a4, s5, .no, .sh (shD s), s8, s9], [a0, a1, a2, a3, a4, s5, .no, .sh (shD s), s8, s9], rfl, rfl, ?_, rfl⟩
        generalize shD s = d at *
        have := ev_ne (F := F) (Ld := Ld) (a := .var 7) (b := .tup []) (Γ := [a0, a1, a2, a3, a4, s5, .no, .sh d, s8, s9]) (Γ1 := [a0, a1, a2, a3, a4, s5, .no, .sh d, s8, s9]) (Γ2 := [a0, a1, a2, a3, a4, s5, .no, .sh d, s8, s9]) (r1 := .slot 7) (r2 := .val (.tup [])) (d1 := d) (d2 := .tup []) rfl rfl rfl rfl (by omega) (by simp [dep, depL])
        rw [this]
        rfl) (by rw [List.length_map]; omega)
  have hm : (sh.map shD).map (fun d => D.bl (!eqD d (.tup []))) = sh.map fun s => .bl (!bare s) := by
    rw [List.map_map]
    apply List.map_congr_left
    intro s _
    simp [eq_bare]
  rw [hm] at hc
  generalize (sh.map fun s => D.bl (!bare s)) = out at *
  have := ev_compO (F := F) (Ld := Ld) (e := .cmp .ne (.var 7) (.tup [])) (t := .nm 7) (i := 6) (cs := []) (vs := [7]) (Γ := [a0, a1, a2, a3, a4, s5, .ow (.lst (sh.map shD)), s7, s8, s9]) rfl rfl (by rcases h7 with rfl | ⟨d, rfl⟩ <;> rfl) hc rfl
  exact this
theorem bools_map {α : Type} (f : α → Bool) : ∀ l : List α, boolsOf (l.map fun x => D.bl (f x)) = some (l.map f)
  | [] => rfl
  | x :: l => by simp [boolsOf, bools_map f l]
theorem ev_bi1 {b : Bi} {e : E} {r r' : Rs} {d : D} {Γ Γ1 : Gm} (h1 : evE F Ld e Γ = some (r, Γ1)) (h2 : readR r Γ1 = some d) (h3 : biD b [d] = some r') : evE F Ld (.bi b [e]) Γ = some (r', Γ1) := by
  simp only [evE, evEs, h1, readRs, h2, h3]
theorem evT_bl {e : E} {r : Rs} {k : Bool} {Γ Γ1 : Gm} (h1 : evE F Ld e Γ = some (r, Γ1)) (h2 : readR r Γ1 = some (.bl k)) : evT F Ld (.val e) Γ = some (k, Γ1) := by
  simp only [evT, h1, h2]
theorem evT_nt {a : T} {k : Bool} {Γ Γ1 : Gm} (h1 : evT F Ld a Γ = some (k, Γ1)) : evT F Ld (.nt a) Γ = some (!k, Γ1) := by
  simp only [evT, h1]
theorem any_test {a0 a1 a2 a3 a4 s5 s7 s8 s9 : Sl} (sh : Stand) (hl : sh.length ≤ 1000) (h7 : okS s7) :
    evT F Ld (.nt (.val (.bi .any [anyE]))) [a0, a1, a2, a3, a4, s5, .ow (.lst (sh.map shD)), s7, s8, s9] = some (!sh.any (fun s => !bare s), [a0, a1, a2, a3, a4, s5, .ow (.lst (sh.map shD)), s7, s8, s9]) := by
  have h := ev_bi1 (b := .any) (anyE_ev (F := F) (Ld := Ld) (a0 := a0) (a1 := a1) (a2 := a2) (a3 := a3) (a4 := a4) (s5 := s5) (s8 := s8) (s9 := s9) sh hl h7) rfl (r' := .val (.bl (sh.any fun s => !bare s))) (by
    simp only [biD, bools_map, Option.map_some, List.any_map, Function.comp_def, id])
  exact evT_nt (evT_bl h rfl)
theorem ev_tuple {i : Nat} {Γ : Gm} {xs : List D} (hb : Sv.bound Γ i = true) (h : readR (.slot i) Γ = some (.lst xs)) : evSs F Ld W [.ret (some (.bi .tuple [(.var i)]))] Γ = some (.rt (.val (.tup xs)), Γ) := by
  simp only [evSs, evS, evE, evEs, hb, if_true, readRs, h, biD]
def irStand (tk nm pk pt : Nat) : List S := [
    .par [5, 6] [(.call nm [(.var 0), (.bin .add (.cst (.int (1))) (.call tk [(.var 0), (.var 3)]))]), (.lst [])],
    .frr (.nm 7) (.rng [(.bin .add (.cst (.int (1))) (.call tk [(.var 0), (.var 1)]))]) (standB tk pk pt),
    .iff (.nt (.val (.bi .any [anyE]))) [.ixs (.var 6) (.cst (.int (0))) (.tup [(.tup [(.ix (.var 5) (.cst (.int (0)))), (.bin .add (.cst (.int (1))) (.call tk [(.var 0), (.var 4)]))])])] [],
    .ret (some (.bi .tuple [(.var 6)]))]
structure StOk (P R : Nat) (B : Int) (ss : List Str) (st : Stand) : Prop where
  len : st.length ≤ P
  each : ∀ s ∈ st, ShOk ss B (R + 1) s
  some : ∃ s ∈ st, s ≠ []
  names : ∀ x ∈ ss, okN x
  few : ss.length ≤ 25
def StandFn (f : Fn) : Prop := ∀ (c : Int) (b : D) (P R S : Nat) (M : Int), Bx c b → c ≤ 400000 → 1 ≤ P → P ≤ 20 → R ≤ 50 → 1 ≤ S → S ≤ 24 → 0 < M → M < 1000000000000 →
  ∃ (st : Stand) (ss : List Str) (b' : D), f [.io b, .sh (natD P), .sh (natD R), .sh (natD S), .sh (.int M)] = some (.val (stD st), some b') ∧ StOk P R (M * ((R : Int) + 1)) ss st ∧ Bx (c + 3000) b'
theorem stand_fn {tk nm pk pt : Nat} (hT : TakeFn (F tk)) (hN : NamesFn (F nm)) (hP : PickFn (F pk)) (hJ : JoinFn (F pt)) (lt : Ld tk = true) (ln : Ld nm = true) (lp : Ld pk = true) (lj : Ld pt = false) : StandFn (runF F Ld W ⟨5, 10, irStand tk nm pk pt⟩) := by
  intro c b P R S M hb hc p0 p1 r1 s0 s1 m0 m1
  obtain ⟨q, b1, e1, q0, q1, hb1⟩ := hT c (S : Int) b hb (by omega) (by omega) (by omega)
  obtain ⟨ss, b2, e2, hlen, hnd, hok, hb2⟩ := hN (c + 1) (q.toNat + 1) b1 hb1 (by omega) (by omega)
  obtain ⟨n, b3, e3, n0, n1, hb3⟩ := hT (c + 1 + 7 * ((q.toNat + 1 : Nat) : Int)) (P : Int) b2 hb2 (by omega) (by omega) (by omega)
  have e2' : F nm [.io b1, .sh (.int (1 + q))] = some (.new (.lst (ss.map .str)), some b2) := by
    rw [show (1 + q : Int) = ((q.toNat + 1 : Nat) : Int) by omega]
    exact e2
  have sl : 0 < ss.length := by omega
  have sl2 : ss.length ≤ 25 := by omega
  have st1 : evS F Ld W (.par [5, 6] [(.call nm [(.var 0), (.bin .add (.cst (.int (1))) (.call tk [(.var 0), (.var 3)]))]), (.lst [])]) [.io b, .sh (natD P), .sh (natD R), .sh (natD S), .sh (.int M), .no, .no, .no, .no, .no] = some (.nx, [.io b2, .sh (natD P), .sh (natD R), .sh (natD S), .sh (.int M), .ow (.lst (ss.map .str)), .ow (.lst []), .no, .no, .no]) := by
    have e1'' : F tk [.io b, .sh (natD S)] = some (.val (.int q), some b1) := e1
    generalize D.lst (ss.map .str) = l at *
    generalize natD P = a1 at *
    generalize natD R = a2 at *
    generalize natD S = a3 at *
    simp [evS, evE, evEs, Sv.bound, callE, lt, ln, takeRs, takeR, readR, ownAt, e1'', e2', notSlot, setOwn, binD, lim, settleRs, settleR, bindRs, bindR, mayBind, slOf]
  have hI : evI F Ld (.rng [(.bin .add (.cst (.int (1))) (.call tk [(.var 0), (.var 1)]))]) [.io b2, .sh (natD P), .sh (natD R), .sh (natD S), .sh (.int M), .ow (.lst (ss.map .str)), .ow (.lst []), .no, .no, .no] = some (rangeD 0 (1 + n).toNat, [.io b3, .sh (natD P), .sh (natD R), .sh (natD S), .sh (.int M), .ow (.lst (ss.map .str)), .ow (.lst []), .no, .no, .no]) := by
    have e3' : F tk [.io b2, .sh (natD P)] = some (.val (.int n), some b3) := e3
    refine rng_ev (r := .val (.int (1 + n))) ?_ rfl (by simp only [small62, Bool.and_eq_true, decide_eq_true_eq]; omega)
    generalize D.lst (ss.map .str) = l at *
    generalize natD P = a1 at *
    generalize natD R = a2 at *
    generalize natD S = a3 at *
    simp [evE, evEs, Sv.bound, callE, lt, takeRs, takeR, readR, ownAt, e3', notSlot, setOwn, binD]
  have lr : (rangeD 0 (1 + n).toNat).length = (1 + n).toNat := by simp [rangeD]
  obtain ⟨Γe, lp1, sh, b4, s5, s7, s8, hshl, hsh, h5, h7, h8, hb4, rfl⟩ := forL_invL (g := bindT (.nm 7)) (b := evSs F Ld W (standB tk pk pt)) (L := 20) (P := fun i Γ => ∃ (sh : Stand) (b4 : D) (s5 s7 s8 : Sl), sh.length = i ∧ (∀ s ∈ sh, ShOk ss (M * (R : Int)) R s) ∧ Is5 ss s5 ∧ okS s7 ∧ okB s8 ∧ Bx (c + 200 + (i : Int) * 110) b4 ∧ Γ = [.io b4, .sh (natD P), .sh (natD R), .sh (natD S), .sh (.int M), s5, .ow (.lst (sh.map shD)), s7, s8, .no]) (rangeD 0 (1 + n).toNat) 0 [.io b3, .sh (natD P), .sh (natD R), .sh (natD S), .sh (.int M), .ow (.lst (ss.map .str)), .ow (.lst []), .no, .no, .no] (fun d hd i Γ hp hi => by
      obtain ⟨sh, b4, s5, s7, s8, hshl, hsh, h5, h7, h8, hb4, rfl⟩ := hp
      obtain ⟨s, b', s5', s8', hs, h5', h8', hb', ev⟩ := stand_step (F := F) (Ld := Ld) (W := W) hT hP hJ lt lp lj (s1 := .sh (natD P)) (s3 := .sh (natD S)) (s7 := .sh d) (sh := sh) hb4 (by omega) sl (by omega) m0 m1 (R := R) (by omega) h5 h8 (by omega)
      refine ⟨[.io b4, .sh (natD P), .sh (natD R), .sh (natD S), .sh (.int M), s5, .ow (.lst (sh.map shD)), .sh d, s8, .no], _, ?_, ev, sh ++ [s], b', s5', .sh d, s8', by simp; omega, ?_, h5', .inr ⟨_, rfl⟩, h8', hb'.mono (by omega), rfl⟩
      · generalize D.lst (sh.map shD) = l
        generalize natD P = a1
        generalize natD R = a2
        generalize natD S = a3
        rcases h7 with rfl | ⟨d', rfl⟩ <;> simp [bindT, bindR, mayBind, slOf]
      · intro t ht
        rcases List.mem_append.1 ht with ht | ht
        · exact hsh t ht
        · rw [List.mem_singleton] at ht; subst ht; exact hs) ⟨[], b3, .ow (.lst (ss.map .str)), .no, .no, rfl, by simp, .inl rfl, .inl rfl, .inl rfl, hb3.mono (by omega), rfl⟩ (by rw [lr]; omega)
  have f := ev_for (F := F) (Ld := Ld) (W := W) hI lp1
  rw [lr, Nat.zero_add] at hshl
  have lsh : sh.length ≤ 1000 := by omega
  have tst := any_test (F := F) (Ld := Ld) (a0 := .io b4) (a1 := .sh (natD P)) (a2 := .sh (natD R)) (a3 := .sh (natD S)) (a4 := .sh (.int M)) (s5 := s5) (s7 := s7) (s8 := s8) (s9 := .no) sh lsh h7
  have iff := ev_iff (W := W) (a := [.ixs (.var 6) (.cst (.int (0))) (.tup [(.tup [(.ix (.var 5) (.cst (.int (0)))), (.bin .add (.cst (.int (1))) (.call tk [(.var 0), (.var 4)]))])])]) (b := []) tst
  have MR : M * (R : Int) ≤ M * ((R : Int) + 1) := Int.mul_le_mul_of_nonneg_left (by omega) (by omega)
  have M1 : M ≤ M * ((R : Int) + 1) := by
    have := Int.mul_le_mul_of_nonneg_left (show (1 : Int) ≤ (R : Int) + 1 by omega) (show (0 : Int) ≤ M by omega)
    omega
  have each0 : ∀ s ∈ sh, ShOk ss (M * ((R : Int) + 1)) (R + 1) s := fun s hs => by
    obtain ⟨x1, x2⟩ := hsh s hs
    exact ⟨by omega, fun r hr => ⟨(x2 r hr).1, (x2 r hr).2.1, by have := (x2 r hr).2.2; omega⟩⟩
  by_cases hz : sh.any (fun s => !bare s) = true
  · refine ⟨sh, ss, b4, ?_, ⟨by omega, each0, ?_, hok, sl2⟩, hb4.mono (by omega)⟩
    · rw [hz] at iff
      refine runF_rt (f := ⟨5, 10, irStand tk nm pk pt⟩) rfl rfl (Γ := [.io b4, .sh (natD P), .sh (natD R), .sh (natD S), .sh (.int M), s5, .ow (.lst (sh.map shD)), s7, s8, .no]) ?_
      show evSs F Ld W (irStand tk nm pk pt) [.io b, .sh (natD P), .sh (natD R), .sh (natD S), .sh (.int M), .no, .no, .no, .no, .no] = _
      unfold irStand
      rw [evSs_nx st1, evSs_nx f, evSs_nx (iff.trans rfl)]
      exact ev_tuple rfl rfl
    · rw [List.any_eq_true] at hz
      obtain ⟨s, h1, h2⟩ := hz
      exact ⟨s, h1, fun z => by subst z; simp [bare] at h2⟩
  · have hz' : sh.any (fun s => !bare s) = false := by simpa using hz
    rw [hz'] at iff
    obtain ⟨r, b5, e5, r0, r1', hb5⟩ := hT _ M b4 hb4 (by omega) m0 m1
    obtain ⟨s0, sr, rfl⟩ : ∃ s0 sr, sh = s0 :: sr := by
      cases sh with
      | nil => simp at hshl; omega
      | cons a b => exact ⟨a, b, rfl⟩
    obtain ⟨x0, xr, rfl⟩ : ∃ x0 xr, ss = x0 :: xr := by
      cases ss with
      | nil => simp at sl
      | cons a b => exact ⟨a, b, rfl⟩
    refine ⟨[(x0, 1 + r)] :: sr, x0 :: xr, b5, ?_, ⟨by simp at hshl ⊢; omega, ?_, ⟨_, List.mem_cons_self, by simp⟩, hok, sl2⟩, hb5.mono (by omega)⟩
    · have st4 : evS F Ld W (.ixs (.var 6) (.cst (.int (0))) (.tup [(.tup [(.ix (.var 5) (.cst (.int (0)))), (.bin .add (.cst (.int (1))) (.call tk [(.var 0), (.var 4)]))])])) [.io b4, .sh (natD P), .sh (natD R), .sh (natD S), .sh (.int M), s5, .ow (.lst ((s0 :: sr).map shD)), s7, s8, .no] = some (.nx, [.io b5, .sh (natD P), .sh (natD R), .sh (natD S), .sh (.int M), s5, .ow (.lst (([(x0, 1 + r)] :: sr).map shD)), s7, s8, .no]) := by
        show _ = some (Fl.nx, [.io b5, .sh (natD P), .sh (natD R), .sh (natD S), .sh (.int M), s5, .ow (.lst (.tup [.tup [.str x0, .int (1 + r)]] :: sr.map shD)), s7, s8, .no])
        generalize natD P = a1 at *
        generalize natD R = a2 at *
        generalize natD S = a3 at *
        rw [List.map_cons]
        generalize shD s0 = y0
        generalize sr.map shD = yr
        rcases h5 with rfl | rfl <;>
        · rw [List.map_cons]
          generalize xr.map D.str = zr
          simp [evS, evE, evEs, Sv.bound, callE, lt, takeRs, takeR, readR, ownAt, e5, notSlot, setOwn, binD, lim, ixD, atI, ixN]
      refine runF_rt (f := ⟨5, 10, irStand tk nm pk pt⟩) rfl rfl (Γ := [.io b5, .sh (natD P), .sh (natD R), .sh (natD S), .sh (.int M), s5, .ow (.lst (([(x0, 1 + r)] :: sr).map shD)), s7, s8, .no]) ?_
      show evSs F Ld W (irStand tk nm pk pt) [.io b, .sh (natD P), .sh (natD R), .sh (natD S), .sh (.int M), .no, .no, .no, .no, .no] = _
      unfold irStand
      rw [evSs_nx st1, evSs_nx f]
      rw [evSs_nx (iff.trans (evSs_nx st4))]
      exact ev_tuple rfl rfl
    · intro s hs
      rcases List.mem_cons.1 hs with rfl | hs
      · refine ⟨by simp, fun q hq => ?_⟩
        rw [List.mem_singleton] at hq
        subst hq
        exact ⟨List.mem_cons_self, by show 1 ≤ 1 + r; omega, by show 1 + r ≤ _; omega⟩
      · exact each0 s (List.mem_cons_of_mem _ hs)
end
end Sv

namespace Sv
open PySem PySem.Spec PyProof.Rows L2
/-! what repr tells of small data -/
def Ch (x : Str) : Prop := ∀ c ∈ x.cps.toList, c < 0x110000
theorem Ch.ok {x : Str} (h : Ch x) : PyData.strOk x = true := by
  unfold PyData.strOk
  rw [← Array.all_toList, List.all_eq_true]
  intro c hc
  simpa using h c hc
theorem Ch.of {x : Str} (h : PyData.strOk x = true) : Ch x := by
  unfold PyData.strOk at h
  rw [← Array.all_toList, List.all_eq_true] at h
  intro c hc
  simpa using h c hc
theorem Ch.app {x y : Str} (h : Ch x) (k : Ch y) : Ch (x ++ y) := fun c hc => by
  rcases mem_cps_append.1 hc with hc | hc
  · exact h c hc
  · exact k c hc
theorem Ch.s (s : String) : Ch (s : Str) := fun c hc => by
  have hc : c ∈ (Str.ofString s).cps.toList := hc
  rw [signs_ofString, List.mem_map] at hc
  obtain ⟨a, _, rfl⟩ := hc
  have := a.valid
  rcases this with h | h
  · have : a.toNat < 0xd800 := h
    omega
  · have : a.toNat < 0x110000 := h.2
    omega
theorem repr_ch {q c : Nat} (hq : q < 0x110000) (hc : c < 0x110000) : ∀ d ∈ Builtin.Str.reprChar q c, d < 0x110000 := by
  intro d hd
  have ch : ∀ x ∈ (Nat.toDigits 16 c).map Char.toNat, x < 0x110000 := by
    intro x hx
    rw [List.mem_map] at hx
    obtain ⟨a, _, rfl⟩ := hx
    rcases a.valid with h | h
    · have : a.toNat < 0xd800 := h
      omega
    · have : a.toNat < 0x110000 := h.2
      omega
  unfold Builtin.Str.reprChar at hd
  simp only at hd
  have hx : ∀ n : Nat, d ∈ List.replicate n 48 ++ (Nat.toDigits 16 c).map Char.toNat → d < 0x110000 := by
    intro n h
    rcases List.mem_append.1 h with h | h
    · have := (List.mem_replicate.1 h).2
      omega
    · exact ch d h
  split at hd
  · simp only [List.mem_cons, List.not_mem_nil, or_false] at hd
    omega
  split at hd
  · simp only [List.mem_cons, List.not_mem_nil, or_false] at hd
    omega
  split at hd
  · simp only [List.mem_cons, List.not_mem_nil, or_false] at hd
    omega
  split at hd
  · simp only [List.mem_cons, List.not_mem_nil, or_false] at hd
    omega
  split at hd
  · simp only [List.mem_cons, List.not_mem_nil, or_false] at hd
    omega
  split at hd
  · rcases List.mem_append.1 hd with hd | hd
    · simp only [List.mem_cons, List.not_mem_nil, or_false] at hd
      omega
    · exact hx _ hd
  split at hd
  · rcases List.mem_append.1 hd with hd | hd
    · simp only [List.mem_cons, List.not_mem_nil, or_false] at hd
      omega
    · exact hx _ hd
  · rcases List.mem_append.1 hd with hd | hd
    · simp only [List.mem_cons, List.not_mem_nil, or_false] at hd
      omega
    · exact hx _ hd
theorem fold_ch {q : Nat} (hq : q < 0x110000) : ∀ (l : List Nat) (acc : Array Nat), (∀ c ∈ l, c < 0x110000) → (∀ c ∈ acc.toList, c < 0x110000) → ∀ c ∈ (l.foldl (fun out c => out ++ (Builtin.Str.reprChar q c).toArray) acc).toList, c < 0x110000
  | [], acc, _, h => h
  | a :: l, acc, hl, h => by
    rw [List.foldl_cons]
    refine fold_ch hq l _ (fun c hc => hl c (List.mem_cons_of_mem _ hc)) fun c hc => ?_
    rw [Array.toList_append, List.mem_append] at hc
    rcases hc with hc | hc
    · exact h c hc
    · exact repr_ch hq (hl a List.mem_cons_self) c (by simpa using hc)
theorem repr_Ch {x : Str} (h : Ch x) : Ch (reprText x) := by
  have hq : reprQuote x < 0x110000 := by unfold reprQuote; split <;> omega
  intro c hc
  unfold reprText at hc
  simp only [Array.toList_push, List.mem_append, List.mem_singleton] at hc
  rcases hc with hc | hc
  · rw [← Array.foldl_toList] at hc
    exact fold_ch hq x.cps.toList _ h (by intro c hc; have hc : c ∈ [reprQuote x] := hc; rw [List.mem_singleton] at hc; omega) c hc
  · omega
theorem from_Ch : ∀ (ts : List Str) (k : Nat) (acc : Str), (∀ t ∈ ts, Ch t) → Ch acc → Ch (textFrom k acc ts)
  | [], k, acc, _, h => h
  | t :: r, k, acc, ht, h => by
    show Ch (textFrom (k + 1) (acc ++ (if k > 0 then ", " else "" : String) ++ t) r)
    exact from_Ch r (k + 1) _ (fun t h => ht t (List.mem_cons_of_mem _ h)) ((h.app (Ch.s _)).app (ht t List.mem_cons_self))
theorem list_Ch {ts : List Str} (h : ∀ t ∈ ts, Ch t) : Ch (listText ts) := by
  unfold listText
  exact (from_Ch ts 0 _ h (Ch.s "[")).app (Ch.s "]")
theorem tuple_Ch {ts : List Str} (h : ∀ t ∈ ts, Ch t) : Ch (tupleText ts) := by
  unfold tupleText
  refine ((Ch.s "(").app fun c hc => ?_).app (Ch.s _)
  rcases (mem_join _ _ _).1 hc with ⟨t, ht, hc⟩ | ⟨_, hc⟩
  · exact h t ht c hc
  · exact Ch.s ", " c hc
/-! data of names and small numbers -/
mutual
def nice : D → Prop
  | .non => True
  | .bl _ => True
  | .int i => 0 ≤ i ∧ i < 10 ^ 18
  | .str x => okN x
  | .tup xs => niceL xs
  | .lst xs => niceL xs
  | _ => False
def niceL : List D → Prop
  | [] => True
  | d :: ds => nice d ∧ niceL ds
end
mutual
def wgt : D → Nat
  | .tup xs => wgtL xs + 1
  | .lst xs => wgtL xs + 1
  | _ => 1
def wgtL : List D → Nat
  | [] => 0
  | d :: ds => wgt d + wgtL ds
end
theorem okN_Ch {x : Str} (h : okN x) : Ch x := fun c hc => by
  have := h.2.2 c hc
  unfold isL at this
  omega
mutual
theorem nice_all : ∀ d : D, nice d → okPy d = true ∧ (toPy d).showable = true ∧ (toPy d).leavesShort 20 = true ∧ (toPy d).weight + 1 ≤ 62 * wgt d ∧ Ch (toPy d).shown ∧ (toPy d).depth ≤ dep d
  | .non, _ => by
    refine ⟨rfl, rfl, rfl, by simp [toPy, PyData.weight, wgt], Ch.s "None", by simp [toPy, PyData.depth]⟩
  | .bl b, _ => by
    refine ⟨rfl, rfl, rfl, by simp [toPy, PyData.weight, wgt], ?_, by simp [toPy, PyData.depth]⟩
    cases b
    · exact Ch.s "False"
    · exact Ch.s "True"
  | .int i, h => by
    simp only [nice] at h
    have e : (PyData.shown (.int i)) = Str.ofString (toString i) := by simp only [PyData.shown]
    have lg : i.natAbs.log2 < 60 := by
      by_cases z : i.natAbs = 0
      · rw [z]; decide
      · rw [Nat.log2_lt z]
        omega
    refine ⟨rfl, ?_, ?_, ?_, ?_, by simp [toPy, PyData.depth]⟩
    · simp only [toPy, PyData.showable, decide_eq_true_eq]; omega
    · simp only [toPy, PyData.leavesShort, decide_eq_true_eq, e]
      have := toString_length_le h.1 (k := 18) (by decide) h.2
      omega
    · simp only [toPy, PyData.weight, wgt]
      split <;> omega
    · simp only [toPy]
      rw [e]
      exact Ch.s (toString i)
  | .str x, h => by
    simp only [nice] at h
    refine ⟨rfl, rfl, ?_, ?_, ?_, by simp [toPy, PyData.depth]⟩
    · simp only [toPy, PyData.leavesShort, List.all_eq_true, decide_eq_true_eq]
      intro c hc
      have := okN_Ch h c hc
      omega
    · simp only [toPy, PyData.weight, wgt]
      have := h.2.1
      have : x.cps.size ≤ 6 := this
      omega
    · simp only [toPy, PyData.shown]
      exact repr_Ch (okN_Ch h)
  | .tup xs, h => by
    simp only [nice] at h
    obtain ⟨h1, h2, h3, h4, h5, h6⟩ := nice_allL xs h
    refine ⟨by simpa only [okPy] using h1, by simpa only [toPy, PyData.showable] using h2, by simpa only [toPy, PyData.leavesShort] using h3, ?_, ?_, ?_⟩
    · simp only [toPy, PyData.weight, wgt]; omega
    · simp only [toPy, PyData.shown]; exact tuple_Ch h5
    · simp only [toPy, PyData.depth, dep]; omega
  | .lst xs, h => by
    simp only [nice] at h
    obtain ⟨h1, h2, h3, h4, h5, h6⟩ := nice_allL xs h
    refine ⟨by simpa only [okPy] using h1, by simpa only [toPy, PyData.showable] using h2, by simpa only [toPy, PyData.leavesShort] using h3, ?_, ?_, ?_⟩
    · simp only [toPy, PyData.weight, wgt]; omega
    · simp only [toPy, PyData.shown]; exact list_Ch h5
    · simp only [toPy, PyData.depth, dep]; omega
  | .dK _, h => by simp [nice] at h
  | .dT _, h => by simp [nice] at h
  | .scr _, h => by simp [nice] at h
  | .hid _, h => by simp [nice] at h
theorem nice_allL : ∀ ds : List D, niceL ds → okPyL ds = true ∧ PyData.showableAll (toPyL ds) = true ∧ PyData.leavesShortAll 20 (toPyL ds) = true ∧ PyData.weightAll (toPyL ds) ≤ 62 * wgtL ds ∧ (∀ t ∈ PyData.shownAll (toPyL ds), Ch t) ∧ PyData.depthAll (toPyL ds) ≤ depL ds
  | [], _ => ⟨rfl, rfl, rfl, by simp [toPyL, PyData.weightAll], by simp [toPyL, PyData.shownAll], by simp [toPyL, PyData.depthAll]⟩
  | d :: ds, h => by
    simp only [niceL] at h
    obtain ⟨a1, a2, a3, a4, a5, a6⟩ := nice_all d h.1
    obtain ⟨h1, h2, h3, h4, h5, h6⟩ := nice_allL ds h.2
    refine ⟨by simp only [okPyL, a1, h1]; rfl, by simp only [toPyL, PyData.showableAll, a2, h2]; rfl, by simp only [toPyL, PyData.leavesShortAll, a3, h3]; rfl, ?_, ?_, ?_⟩
    · simp only [toPyL, PyData.weightAll, wgtL]; omega
    · simp only [toPyL, PyData.shownAll, List.mem_cons]
      rintro t (rfl | ht)
      · exact a5
      · exact h5 t ht
    · simp only [toPyL, PyData.depthAll, depL]; omega
end
theorem okRep_nice {d : D} (hs : isSeq d = true) (h : nice d) (hd : dep d ≤ 60) (hw : wgt d ≤ 600) : okRep d = true := by
  obtain ⟨h1, h2, h3, h4, h5, h6⟩ := nice_all d h
  have h7 := PyData.shown_le 20 (by decide) _ h3
  unfold okRep
  simp only [hs, h1, h2, h5.ok, Bool.and_self, Bool.and_true, Bool.true_and, Bool.and_eq_true, decide_eq_true_eq]
  unfold lim
  exact ⟨by omega, by omega⟩
theorem niceL_map {α : Type} {f : α → D} : ∀ {l : List α}, (∀ x ∈ l, nice (f x)) → niceL (l.map f)
  | [], _ => trivial
  | x :: l, h => ⟨h x List.mem_cons_self, niceL_map fun y hy => h y (List.mem_cons_of_mem _ hy)⟩
theorem wgtL_map {α : Type} {f : α → D} {n : Nat} : ∀ {l : List α}, (∀ x ∈ l, wgt (f x) ≤ n) → wgtL (l.map f) ≤ n * l.length
  | [], _ => by simp [wgtL]
  | x :: l, h => by
    have a := h x List.mem_cons_self
    have b := wgtL_map (f := f) (n := n) (l := l) fun y hy => h y (List.mem_cons_of_mem _ hy)
    simp only [List.map_cons, wgtL, List.length_cons, Nat.mul_add, Nat.mul_one]
    omega
theorem nice_run {r : Run} (h1 : okN r.1) (h2 : 0 ≤ r.2) (h3 : r.2 < 10 ^ 18) : nice (runD r) := by
  simp only [runD, nice, niceL, and_true]
  exact ⟨h1, h2, h3⟩
theorem rep_rows {rows : List Run} (hl : rows.length ≤ 100) (h : ∀ r ∈ rows, okN r.1 ∧ 0 ≤ r.2 ∧ r.2 < 10 ^ 18) : okRep (.lst (rows.map runD)) = true := by
  refine okRep_nice rfl ?_ ?_ ?_
  · simp only [nice]
    exact niceL_map fun r hr => nice_run (h r hr).1 (h r hr).2.1 (h r hr).2.2
  · simp only [dep]
    have := dep_runs rows
    omega
  · simp only [wgt]
    have : wgtL (rows.map runD) ≤ 3 * rows.length := wgtL_map fun r _ => by simp [runD, wgt, wgtL]
    omega
end Sv

namespace K02
open PySem PySem.Spec PyProof.Rows L2 Sv
abbrev topS (i : Nat) : Stmt := PySem.Challenge.pw_shelflikes_k02_shelves_put_together.main.body.getD i (.Pass ⟨0, 0, 0, 0⟩)
def ir_joined : List S := [
    .set 1 (.lst []),
    .frr (.tp [(.nm 2), (.nm 3)]) (.seq (.var 0)) [.iff (.an (.val (.cmp .gt (.var 3) (.cst (.int (0))))) (.an (.val (.cmp .gt (.bi .len [(.var 1)]) (.cst (.int (0))))) (.val (.cmp .eq (.ix (.ix (.var 1) (.neg (.cst (.int (1))))) (.cst (.int (0)))) (.var 2))))) [.ixs (.var 1) (.neg (.cst (.int (1)))) (.tup [(.var 2), (.bin .add (.ix (.ix (.var 1) (.neg (.cst (.int (1))))) (.cst (.int (1)))) (.var 3))])] [.iff (.val (.cmp .gt (.var 3) (.cst (.int (0))))) [.ex (.app (.var 1) (.tup [(.var 2), (.var 3)]))] []]],
    .ret (some (.bi .tuple [(.var 1)]))]
def ir_word_of : List S := [
    .ret (some (.bi .tuple [(.comp (.var 1) (.tp [(.nm 1), (.nm 2)]) (.seq (.var 0)) [] [1, 2])]))]
def ir_kinds_in : List S := [
    .ret (some (.srt2 (.var 2) (.nm 1) (.seq (.var 0)) [] (.tp [(.nm 2), (.nm 3)]) (.seq (.var 1)) [] [1, 2, 3] [2, 3]))]
def ir_many_of : List S := [
    .ret (some (.bi .sum [(.comp2 (.var 4) (.nm 2) (.seq (.var 0)) [] (.tp [(.nm 3), (.nm 4)]) (.seq (.var 2)) [(.val (.cmp .eq (.var 3) (.var 1)))] [2, 3, 4] [3, 4])]))]
def ir_all_spots : List S := [
    .ret (some (.comp2 (.tup [(.var 1), (.var 3)]) (.tp [(.nm 1), (.nm 2)]) (.enm (.var 0)) [] (.nm 3) (.rng [(.bi .len [(.var 2)])]) [] [1, 2, 3] [3]))]
def ir_spots_of : List S := [
    .ret (some (.comp (.tup [(.var 2), (.var 3)]) (.tp [(.nm 2), (.nm 3)]) (.seq (.call 4 [(.var 0)])) [(.val (.cmp .eq (.ix (.ix (.ix (.var 0) (.var 2)) (.var 3)) (.cst (.int (0)))) (.var 1)))] [2, 3]))]
def ir__law_box : List S := [
    .set 2 (.cst (.int (0))),
    .iff (.val (.cmp .lt (.var 1) (.bi .len [(.var 0)]))) [.set 2 (.ix (.var 0) (.var 1))] [],
    .ret (some (.lst [(.bin .mul (.bi .abs [(.var 2)]) (.bi .int [(.cmp .ge (.bi .abs [(.var 2)]) (.bin .pow (.cst (.int (10))) (.cst (.int (18)))))])), (.bin .add (.bin .add (.bin .mod (.var 2) (.cst (.int (2147483629)))) (.bin .mul (.cst (.int (7919))) (.var 1))) (.cst (.int (11)))), (.cst (.int (0)))]))]
def ir__law_take : List S := [
    .iff (.val (.cmp .gt (.ix (.var 0) (.cst (.int (0)))) (.cst (.int (0))))) [.set 2 (.bin .mod (.ix (.var 0) (.cst (.int (0)))) (.var 1)), .ixs (.var 0) (.cst (.int (0))) (.bin .fdiv (.ix (.var 0) (.cst (.int (0)))) (.var 1)), .ret (some (.var 2))] [],
    .ixs (.var 0) (.cst (.int (2))) (.bin .add (.ix (.var 0) (.cst (.int (2)))) (.cst (.int (1)))),
    .set 3 (.bin .mod (.bin .pow (.bin .add (.ix (.var 0) (.cst (.int (1)))) (.bin .mul (.cst (.int (39373))) (.ix (.var 0) (.cst (.int (2)))))) (.cst (.int (5)))) (.cst (.int (2147483647)))),
    .ret (some (.bin .mod (.bin .fdiv (.bin .mod (.bin .add (.bin .mul (.var 3) (.bin .add (.bin .mod (.var 3) (.cst (.int (40009)))) (.cst (.int (7))))) (.bin .mul (.ix (.var 0) (.cst (.int (2)))) (.cst (.int (7919))))) (.cst (.int (2147483629)))) (.cst (.int (64)))) (.var 1)))]
def ir__law_pick : List S := [
    .ret (some (.ix (.var 1) (.call 7 [(.var 0), (.bi .len [(.var 1)])])))]
def ir__law_same : List S := [
    .iff (.val (.isi (.var 1) [.list, .tuple])) [.iff (.orr (.val (.cmp .ne (.isi (.var 0) [.list]) (.isi (.var 1) [.list]))) (.val (.cmp .ne (.isi (.var 0) [.tuple]) (.isi (.var 1) [.tuple])))) [.ret (some (.cst (.bl false)))] [], .ret (some (.an (.cmp .eq (.bi .len [(.var 0)]) (.bi .len [(.var 1)])) (.bi .all [(.comp (.call 9 [(.var 2), (.var 3)]) (.tp [(.nm 2), (.nm 3)]) (.zip (.var 0) (.var 1)) [] [2, 3])])))] [],
    .iff (.orr (.val (.cmp .is (.var 1) (.cst .non))) (.val (.isi (.var 1) [.str]))) [.ret (some (.an (.cmp .eq (.var 0) (.var 1)) (.cmp .eq (.isi (.var 0) [.str]) (.isi (.var 1) [.str]))))] [],
    .ret (some (.an (.isi (.var 0) [.int]) (.an (.cmp .eq (.isi (.var 0) [.bool]) (.isi (.var 1) [.bool])) (.cmp .eq (.var 0) (.var 1)))))]
def ir__law_names : List S := [
    .par [2, 3] [(.cst (.str ("abcdefghijklmnopqrstuvwxyz" : Str))), (.lst [])],
    .frr (.nm 4) (.rng [(.var 1)]) [.set 5 (.jn (.cst (.str ("" : Str))) (.comp (.ix (.var 2) (.call 7 [(.var 0), (.cst (.int (26)))])) (.nm 6) (.rng [(.ix (.lst [(.cst (.int (1))), (.cst (.int (1))), (.cst (.int (2))), (.cst (.int (6)))]) (.call 7 [(.var 0), (.cst (.int (4)))]))]) [] [6])), .ex (.app (.var 3) (.ix (.comp (.var 7) (.nm 7) (.seq (.bin .add (.lst [(.var 5)]) (.comp (.bin .add (.sl (.var 5) none (some (.cst (.int (5))))) (.var 8)) (.nm 8) (.seq (.var 2)) [] [8]))) [(.val (.cmp .nin (.var 7) (.var 3)))] [7]) (.cst (.int (0)))))],
    .ret (some (.var 3))]
def ir__law_put_together : List S := [
    .set 1 (.lst []),
    .frr (.tp [(.nm 2), (.nm 3)]) (.seq (.var 0)) [.iff (.an (.val (.cmp .gt (.var 3) (.cst (.int (0))))) (.an (.val (.cmp .ne (.var 1) (.lst []))) (.val (.cmp .eq (.ix (.ix (.var 1) (.neg (.cst (.int (1))))) (.cst (.int (0)))) (.var 2))))) [.ixs (.var 1) (.neg (.cst (.int (1)))) (.tup [(.var 2), (.bin .add (.ix (.ix (.var 1) (.neg (.cst (.int (1))))) (.cst (.int (1)))) (.var 3))])] [.iff (.val (.cmp .gt (.var 3) (.cst (.int (0))))) [.ex (.app (.var 1) (.tup [(.var 2), (.var 3)]))] []]],
    .ret (some (.bi .tuple [(.var 1)]))]
def ir__law_stand : List S := [
    .par [5, 6] [(.call 10 [(.var 0), (.bin .add (.cst (.int (1))) (.call 7 [(.var 0), (.var 3)]))]), (.lst [])],
    .frr (.nm 7) (.rng [(.bin .add (.cst (.int (1))) (.call 7 [(.var 0), (.var 1)]))]) [.set 8 (.comp (.tup [(.call 8 [(.var 0), (.var 5)]), (.bin .add (.cst (.int (1))) (.call 7 [(.var 0), (.var 4)]))]) (.nm 9) (.rng [(.call 7 [(.var 0), (.bin .add (.var 2) (.cst (.int (1))))])]) [] [9]), .ex (.app (.var 6) (.call 11 [(.var 8)]))],
    .iff (.nt (.val (.bi .any [(.compO (.cmp .ne (.var 7) (.tup [])) (.nm 7) 6 [] [7])]))) [.ixs (.var 6) (.cst (.int (0))) (.tup [(.tup [(.ix (.var 5) (.cst (.int (0)))), (.bin .add (.cst (.int (1))) (.call 7 [(.var 0), (.var 4)]))])])] [],
    .ret (some (.bi .tuple [(.var 6)]))]
def ir__law_sums : List S := [
    .set 1 .dnew,
    .frr (.nm 2) (.seq (.var 0)) [.frr (.tp [(.nm 3), (.nm 4)]) (.seq (.var 2)) [.ixs (.var 1) (.var 3) (.bin .add (.get2 (.var 1) (.var 3) (.cst (.int (0)))) (.var 4))]],
    .ret (some (.var 1))]
def ir__law_spots : List S := [
    .set 2 (.lst []),
    .frr (.tp [(.nm 3), (.nm 4)]) (.enm (.var 0)) [.set 2 (.bin .add (.var 2) (.comp (.tup [(.var 3), (.var 5)]) (.nm 5) (.rng [(.bi .len [(.var 4)])]) [(.val (.cmp .eq (.ix (.ix (.var 4) (.var 5)) (.cst (.int (0)))) (.var 1)))] [5]))],
    .ret (some (.var 2))]
def ir__law_word : List S := [
    .ret (some (.bi .tuple [(.comp (.var 1) (.tp [(.nm 1), (.nm 2)]) (.seq (.var 0)) [] [1, 2])]))]
def ir__law_right : List S := [
    .par [1, 2] [(.call 10 [(.var 0), (.bin .add (.cst (.int (1))) (.call 7 [(.var 0), (.cst (.int (3)))]))]), (.lst [])],
    .set 3 (.ix (.lst [(.cst (.int (2))), (.cst (.int (4))), (.bin .pow (.cst (.int (10))) (.cst (.int (10))))]) (.call 7 [(.var 0), (.cst (.int (3)))])),
    .frr (.nm 4) (.rng [(.call 7 [(.var 0), (.cst (.int (17)))])]) [.ex (.app (.var 2) (.tup [(.call 8 [(.var 0), (.var 1)]), (.call 7 [(.var 0), (.bin .add (.var 3) (.cst (.int (1))))])]))],
    .par [5, 6] [(.call 11 [(.var 2)]), (.rpr (.var 2))],
    .iff (.orr (.nt (.val (.call 9 [(.lst [(.call 0 [(.var 2)]), (.callk 0 [0] [(.bi .tuple [(.var 2)])])]), (.lst [(.var 5), (.var 5)])]))) (.val (.cmp .ne (.rpr (.var 2)) (.var 6)))) [.ret (some (.cst (.bl false)))] [],
    .set 7 (.call 12 [(.var 0), (.cst (.int (4))), (.cst (.int (8))), (.cst (.int (4))), (.var 3)]),
    .set 8 (.srt (.call 13 [(.var 7)])),
    .iff (.nt (.val (.call 9 [(.lst [(.call 2 [(.var 7)]), (.callk 2 [0] [(.var 7)])]), (.lst [(.var 8), (.var 8)])]))) [.ret (some (.cst (.bl false)))] [],
    .ex (.app (.call 2 [(.var 7)]) (.cst (.str ("more" : Str)))),
    .frr (.nm 9) (.seq (.bin .add (.var 8) (.lst [(.ite (.val (.cmp .nin (.cst (.str ("zzzzzz" : Str))) (.var 8))) (.cst (.str ("zzzzzz" : Str))) (.cst (.str ("zzzzzy" : Str))))]))) [.par [10, 11] [(.get2 (.call 13 [(.var 7)]) (.var 9) (.cst (.int (0)))), (.call 14 [(.var 7), (.var 9)])], .set 12 (.lst [(.call 3 [(.var 7), (.var 9)]), (.callk 3 [1, 0] [(.var 9), (.var 7)]), (.call 5 [(.var 7), (.var 9)])]), .iff (.nt (.val (.call 9 [(.bin .add (.var 12) (.lst [(.callk 5 [1, 0] [(.var 9), (.var 7)])])), (.lst [(.var 10), (.var 10), (.var 11), (.var 11)])]))) [.ret (some (.cst (.bl false)))] []],
    .set 13 (.comp (.call 15 [(.var 14)]) (.nm 14) (.seq (.var 7)) [] [14]),
    .set 12 (.lst [(.comp (.call 1 [(.var 14)]) (.nm 14) (.seq (.var 7)) [] [14]), (.comp (.callk 1 [0] [(.var 14)]) (.nm 14) (.seq (.var 7)) [] [14]), (.call 2 [(.var 7)])]),
    .ret (some (.call 9 [(.var 12), (.lst [(.var 13), (.var 13), (.var 8)])]))]
def ir_law : List S := [
    .frr (.nm 1) (.rng [(.bin .add (.cst (.int (1))) (.bi .min [(.cst (.int (4))), (.bi .len [(.var 0)])]))]) [.set 2 (.call 6 [(.var 0), (.var 1)]), .iff (.nt (.val (.bi .all [(.comp (.call 16 [(.var 2)]) (.nm 3) (.rng [(.cst (.int (1)))]) [] [3])]))) [.ret (some (.cst (.bl false)))] []],
    .ret (some (.cst (.bl true)))]
def d_joined : DefI := ⟨"joined", topS 1, ["runs", "found", "kind", "many"], ["runs"], ir_joined, false, []⟩
def d_word_of : DefI := ⟨"word_of", topS 2, ["shelf", "kind", "many"], ["shelf"], ir_word_of, false, []⟩
def d_kinds_in : DefI := ⟨"kinds_in", topS 3, ["standing", "shelf", "kind", "many"], ["standing"], ir_kinds_in, false, []⟩
def d_many_of : DefI := ⟨"many_of", topS 4, ["standing", "kind", "shelf", "other", "many"], ["standing", "kind"], ir_many_of, false, []⟩
def d_all_spots : DefI := ⟨"all_spots", topS 5, ["standing", "number", "shelf", "place"], ["standing"], ir_all_spots, false, []⟩
def d_spots_of : DefI := ⟨"spots_of", topS 6, ["standing", "kind", "number", "place"], ["standing", "kind"], ir_spots_of, false, []⟩
def d__law_box : DefI := ⟨"_law_box", topS 8, ["_law_script", "_law_k", "_law_cell"], ["_law_script", "_law_k"], ir__law_box, false, []⟩
def d__law_take : DefI := ⟨"_law_take", topS 9, ["_law_box_here", "_law_bound", "_law_found", "_law_once"], ["_law_box_here", "_law_bound"], ir__law_take, true, []⟩
def d__law_pick : DefI := ⟨"_law_pick", topS 10, ["_law_box_here", "_law_things"], ["_law_box_here", "_law_things"], ir__law_pick, true, []⟩
def d__law_same : DefI := ⟨"_law_same", topS 11, ["_law_found", "_law_due", "_law_one", "_law_two"], ["_law_found", "_law_due"], ir__law_same, false, []⟩
def d__law_names : DefI := ⟨"_law_names", topS 12, ["_law_box_here", "_law_many", "_law_letters", "_law_found", "_law_k", "_law_name", "_law_j", "_law_made", "_law_sign"], ["_law_box_here", "_law_many"], ir__law_names, true, []⟩
def d__law_put_together : DefI := ⟨"_law_put_together", topS 13, ["_law_rows", "_law_found", "_law_sort", "_law_size"], ["_law_rows"], ir__law_put_together, false, []⟩
def d__law_stand : DefI := ⟨"_law_stand", topS 14, ["_law_box_here", "_law_planks", "_law_rows", "_law_sorts", "_law_most", "_law_names_here", "_law_found", "_law_plank", "_law_lot", "_law_row"], ["_law_box_here", "_law_planks", "_law_rows", "_law_sorts", "_law_most"], ir__law_stand, true, ["_law_found"]⟩
def d__law_sums : DefI := ⟨"_law_sums", topS 15, ["_law_here", "_law_found", "_law_plank", "_law_sort", "_law_size"], ["_law_here"], ir__law_sums, false, []⟩
def d__law_spots : DefI := ⟨"_law_spots", topS 16, ["_law_here", "_law_sort", "_law_found", "_law_at", "_law_plank", "_law_row"], ["_law_here", "_law_sort"], ir__law_spots, false, []⟩
def d__law_word : DefI := ⟨"_law_word", topS 17, ["_law_plank", "_law_sort", "_law_size"], ["_law_plank"], ir__law_word, false, []⟩
def d__law_right : DefI := ⟨"_law_right", topS 18, ["_law_box_here", "_law_names_here", "_law_rows", "_law_top", "_law_turn", "_law_due", "_law_before", "_law_here", "_law_sorts", "_law_sort", "_law_books", "_law_spots_here", "_law_told", "_law_words", "_law_row"], ["_law_box_here"], ir__law_right, true, []⟩
def d_law : DefI := ⟨"law", topS 19, ["_law_script", "_law_k", "_law_box_here", "_law_turn"], ["_law_script"], ir_law, false, []⟩
def prg : Prg := ⟨[d_joined, d_word_of, d_kinds_in, d_many_of, d_all_spots, d_spots_of, d__law_box, d__law_take, d__law_pick, d__law_same, d__law_names, d__law_put_together, d__law_stand, d__law_sums, d__law_spots, d__law_word, d__law_right, d_law], [], [(3, ["kind", "standing"], [1, 0]), (1, ["shelf"], [0]), (2, ["standing"], [0]), (0, ["runs"], [0]), (5, ["kind", "standing"], [1, 0])]⟩
end K02

namespace K02
open PySem PySem.Spec PyProof.Rows L2 Sv
theorem fJoined (n : Nat) : JoinFn (prg.FT 100000 (n + 1) 0) := by
  rw [Prg.ft (d := d_joined) rfl]
  exact join_fn ne_len
theorem fWord (n : Nat) : WordFn (prg.FT 100000 (n + 1) 1) := by
  rw [Prg.ft (d := d_word_of) rfl]
  exact word_fn
theorem fKinds (n : Nat) : KindsFn (prg.FT 100000 (n + 1) 2) := by
  rw [Prg.ft (d := d_kinds_in) rfl]
  exact kinds_fn
theorem fMany (n : Nat) : ManyFn (prg.FT 100000 (n + 1) 3) := by
  rw [Prg.ft (d := d_many_of) rfl]
  exact many_fn
theorem fAll (n : Nat) : AllSpotsFn (prg.FT 100000 (n + 1) 4) := by
  rw [Prg.ft (d := d_all_spots) rfl]
  exact allSpots_fn
theorem fSpots (n : Nat) : SpotsFn (prg.FT 100000 (n + 2) 5) := by
  rw [Prg.ft (d := d_spots_of) rfl]
  exact spots_fn (a := 4) (fAll n) rfl
theorem fBox (n : Nat) : BoxFn (prg.FT 100000 (n + 1) 6) := by
  rw [Prg.ft (d := d__law_box) rfl]
  exact box_fn _ _ _
theorem fTake (n : Nat) : TakeFn (prg.FT 100000 (n + 1) 7) := by
  rw [Prg.ft (d := d__law_take) rfl]
  exact take_fn _ _ _
theorem fPick (n : Nat) : PickFn (prg.FT 100000 (n + 2) 8) := by
  rw [Prg.ft (d := d__law_pick) rfl]
  exact pick_fn (tk := 7) (fTake n) rfl
theorem fSame : ∀ n : Nat, SameAt (prg.FT 100000 n 9) n
  | 0 => fun d _ h => absurd h (Nat.not_lt_zero _)
  | n + 1 => by
    rw [Prg.ft (d := d__law_same) rfl]
    exact same_fn _ _ _ 9 n (fSame n) rfl
theorem fNames (n : Nat) : NamesFn (prg.FT 100000 (n + 2) 10) := by
  rw [Prg.ft (d := d__law_names) rfl]
  exact names_fn (tk := 7) (fTake n) rfl
theorem fPut (n : Nat) : JoinFn (prg.FT 100000 (n + 1) 11) := by
  rw [Prg.ft (d := d__law_put_together) rfl]
  exact join_fn ne_nil
theorem fStand (n : Nat) : StandFn (prg.FT 100000 (n + 3) 12) := by
  rw [Prg.ft (d := d__law_stand) rfl]
  exact stand_fn (tk := 7) (nm := 10) (pk := 8) (pt := 11) (fTake (n + 1)) (fNames n) (fPick n) (fPut (n + 1)) rfl rfl rfl rfl
theorem fSums (n : Nat) : SumsFn (prg.FT 100000 (n + 1) 13) := by
  rw [Prg.ft (d := d__law_sums) rfl]
  exact sums_fn
theorem fLSpots (n : Nat) : SpotsFn (prg.FT 100000 (n + 1) 14) := by
  rw [Prg.ft (d := d__law_spots) rfl]
  exact lspots_fn
theorem fLWord (n : Nat) : WordFn (prg.FT 100000 (n + 1) 15) := by
  rw [Prg.ft (d := d__law_word) rfl]
  exact word_fn
end K02

namespace K02
open PySem PySem.Spec PyProof.Rows L2 Sv
section
variable {F : Nat → Fn} {Ld : Nat → Bool} {W : Nat}
def rowX : E := .tup [(.call 8 [(.var 0), (.var 1)]), (.call 7 [(.var 0), (.bin .add (.var 3) (.cst (.int (1))))])]
def rowS : S := .ex (.app (.var 2) rowX)
abbrev nos (l : List Sl) : Gm := l ++ List.replicate 10 .no
theorem row_step (hT : TakeFn (F 7)) (hP : PickFn (F 8)) (lt : Ld 7 = true) (lp : Ld 8 = true) {b : D} {ss : List Str} {top c : Int} {s1 s4 : Sl} {acc : List D} (hb : Bx c b) (hc : c ≤ 800000) (h0 : 0 < ss.length) (h1 : ss.length ≤ 1000) (m0 : 0 < top) (m1 : top < 100000000000) (h5 : Is5 ss s1) (ha : acc.length < 1000) :
    ∃ (r : Sv.Run) (b' : D), r.1 ∈ ss ∧ 0 ≤ r.2 ∧ r.2 ≤ top ∧ Bx (c + 2) b' ∧ evS F Ld W rowS (nos [.io b, s1, .ow (.lst acc), .sh (.int top), s4]) = some (.nx, nos [.io b', .sh (.lst (ss.map .str)), .ow (.lst (acc ++ [runD r])), .sh (.int top), s4]) := by
  obtain ⟨i, x, b1, hx, e1, hb1⟩ := hP c b (ss.map .str) hb (by omega) (by simpa using h0) (by simpa using h1)
  rw [List.getElem?_map] at hx
  obtain ⟨w, hw, rfl⟩ := Option.map_eq_some_iff.1 hx
  obtain ⟨k, b2, e2, k0, k1, hb2⟩ := hT (c + 1) (top + 1) b1 hb1 (by omega) (by omega) (by omega)
  refine ⟨(w, k), b2, List.mem_of_getElem? hw, k0, by show k ≤ top; omega, by rw [show c + 2 = c + 1 + 1 by omega]; exact hb2, ?_⟩
  have al : acc.length < 1000000 := by omega
  show _ = some (Fl.nx, nos [.io b2, .sh (.lst (ss.map .str)), .ow (.lst (acc ++ [.tup [.str w, .int k]])), .sh (.int top), s4])
  generalize hl : D.lst (ss.map .str) = l at *
  rcases h5 with rfl | rfl <;> subst hl <;>
  simp [nos, rowS, rowX, evS, evE, evEs, Sv.bound, callE, lt, lp, takeRs, takeR, readR, ownAt, e1, e2, notSlot, setOwn, binD, lim, al]
theorem rows_loop (hT : TakeFn (F 7)) (hP : PickFn (F 8)) (lt : Ld 7 = true) (lp : Ld 8 = true) {b : D} {ss : List Str} {top c : Int} {s1 : Sl} (hb : Bx c b) (hc : c ≤ 700000) (h0 : 0 < ss.length) (h1 : ss.length ≤ 1000) (m0 : 0 < top) (m1 : top < 100000000000) (h5 : Is5 ss s1) :
    ∃ (rows : List Sv.Run) (b' : D) (s1' s4 : Sl), (∀ r ∈ rows, r.1 ∈ ss ∧ 0 ≤ r.2 ∧ r.2 ≤ top) ∧ rows.length ≤ 16 ∧ Is5 ss s1' ∧ okS s4 ∧ Bx (c + 1 + 32) b' ∧ evS F Ld W (.frr (.nm 4) (.rng [(.call 7 [(.var 0), (.cst (.int (17)))])]) [rowS]) (nos [.io b, s1, .ow (.lst []), .sh (.int top), .no]) = some (.nx, nos [.io b', s1', .ow (.lst (rows.map runD)), .sh (.int top), s4]) := by
  obtain ⟨n, b1, e1, n0, n1, hb1⟩ := hT c 17 b hb (by omega) (by omega) (by omega)
  have hI : evI F Ld (.rng [(.call 7 [(.var 0), (.cst (.int (17)))])]) (nos [.io b, s1, .ow (.lst []), .sh (.int top), .no]) = some (rangeD 0 n.toNat, nos [.io b1, s1, .ow (.lst []), .sh (.int top), .no]) := by
    refine rng_ev (r := .val (.int n)) ?_ rfl (by simp only [small62, Bool.and_eq_true, decide_eq_true_eq]; omega)
    simp [nos, evE, evEs, Sv.bound, callE, lt, takeRs, takeR, readR, ownAt, e1, notSlot, setOwn, binD]
  have lr : (rangeD 0 n.toNat).length = n.toNat := by simp [rangeD]
  obtain ⟨Γe, lp1, rows, b4, s1', s4, hrl, hr, h5', h4, hb4, rfl⟩ := forL_invL (g := bindT (.nm 4)) (b := evSs F Ld W [rowS]) (L := 16) (P := fun i Γ => ∃ (rows : List Sv.Run) (b4 : D) (s1' s4 : Sl), rows.length = i ∧ (∀ r ∈ rows, r.1 ∈ ss ∧ 0 ≤ r.2 ∧ r.2 ≤ top) ∧ Is5 ss s1' ∧ okS s4 ∧ Bx (c + 1 + 2 * (i : Int)) b4 ∧ Γ = nos [.io b4, s1', .ow (.lst (rows.map runD)), .sh (.int top), s4]) (rangeD 0 n.toNat) 0 (nos [.io b1, s1, .ow (.lst []), .sh (.int top), .no]) (fun d hd i Γ hp hi => by
      obtain ⟨rows, b4, s1', s4, hrl, hr, h5', h4, hb4, rfl⟩ := hp
      obtain ⟨r, b', i1, i2, i3, hb', ev⟩ := row_step (F := F) (Ld := Ld) (W := W) hT hP lt lp (s4 := .sh d) (acc := rows.map runD) hb4 (by omega) h0 h1 m0 m1 h5' (by rw [List.length_map]; omega)
      refine ⟨nos [.io b4, s1', .ow (.lst (rows.map runD)), .sh (.int top), .sh d], _, ?_, (evSs_nx ev).trans rfl, rows ++ [r], b', .sh (.lst (ss.map .str)), .sh d, by simp; omega, ?_, .inr rfl, .inr ⟨_, rfl⟩, hb'.mono (by omega), by rw [List.map_append]; rfl⟩
      · generalize D.lst (rows.map runD) = l
        rcases h4 with rfl | ⟨d', rfl⟩ <;> simp [nos, bindT, bindR, mayBind, slOf]
      · intro t ht
        rcases List.mem_append.1 ht with ht | ht
        · exact hr t ht
        · rw [List.mem_singleton] at ht; subst ht; exact ⟨i1, i2, i3⟩) ⟨[], b1, s1, .no, rfl, by simp, h5, .inl rfl, hb1.mono (by omega), rfl⟩ (by rw [lr]; omega)
  rw [lr, Nat.zero_add] at hrl
  exact ⟨rows, b4, s1', s4, hr, by omega, h5', h4, hb4.mono (by omega), ev_for hI lp1⟩

def sortB : List S := [.par [10, 11] [(.get2 (.call 13 [(.var 7)]) (.var 9) (.cst (.int (0)))), (.call 14 [(.var 7), (.var 9)])], .set 12 (.lst [(.call 3 [(.var 7), (.var 9)]), (.callk 3 [1, 0] [(.var 9), (.var 7)]), (.call 5 [(.var 7), (.var 9)])]), .iff (.nt (.val (.call 9 [(.bin .add (.var 12) (.lst [(.callk 5 [1, 0] [(.var 9), (.var 7)])])), (.lst [(.var 10), (.var 10), (.var 11), (.var 11)])]))) [.ret (some (.cst (.bl false)))] []]
abbrev G15 (b : D) (s1 s2 s3 s4 s5 s6 : Sl) (S : D) (s8 s9 s10 s11 s12 : Sl) : Gm := [.io b, s1, s2, s3, s4, s5, s6, .sh S, s8, s9, s10, s11, s12, .no, .no]
theorem sort_step {b S : D} {s1 s2 s3 s4 s5 s6 s8 s10 s11 s12 : Sl} {k : Str} {acc : List (Key × D)} {m : Int} {sp : List D}
    (e13 : F 13 [.sh S] = some (.new (.dK acc), none)) (eg : getD2 (.dK acc) (.str k) (.int 0) = some (.int m)) (e14 : F 14 [.sh S, .sh (.str k)] = some (.new (.lst sp), none))
    (e3 : F 3 [.sh S, .sh (.str k)] = some (.val (.int m), none)) (e5 : F 5 [.sh S, .sh (.str k)] = some (.new (.lst sp), none))
    (e9 : F 9 [.sh (.lst [.int m, .int m, .lst sp, .lst sp]), .sh (.lst [.int m, .int m, .lst sp, .lst sp])] = some (.val (.bl true), none))
    (h10 : okB s10) (h11 : okB s11) (h12 : okB s12) (l13 : Ld 13 = false) (l14 : Ld 14 = false) (l3 : Ld 3 = false) (l5 : Ld 5 = false) (l9 : Ld 9 = false) :
    ∃ s12', okB s12' ∧ evSs F Ld W sortB (G15 b s1 s2 s3 s4 s5 s6 S s8 (.sh (.str k)) s10 s11 s12) = some (.nx, G15 b s1 s2 s3 s4 s5 s6 S s8 (.sh (.str k)) (.sh (.int m)) (.sh (.lst sp)) s12') := by
  refine ⟨.ow (.lst [.int m, .int m, .lst sp]), .inr (.inr ⟨_, rfl⟩), ?_⟩
  have e3' : F 3 ((gPD [1, 0] [.str k, S]).map .sh) = some (.val (.int m), none) := e3
  have e5' : F 5 ((gPD [1, 0] [.str k, S]).map .sh) = some (.new (.lst sp), none) := e5
  have mb : ∀ {s : Sl}, okB s → (match s with | .io _ => false | _ => true) = true := by
    rintro s (rfl | ⟨d, rfl⟩ | ⟨d, rfl⟩) <;> rfl
  rcases h10 with rfl | ⟨d10, rfl⟩ | ⟨d10, rfl⟩ <;> rcases h11 with rfl | ⟨d11, rfl⟩ | ⟨d11, rfl⟩ <;> rcases h12 with rfl | ⟨d12, rfl⟩ | ⟨d12, rfl⟩ <;>
  simp [sortB, G15, evSs, evS, evE, evEs, evT, Sv.bound, callE, l13, l14, l3, l5, l9, takeRs, takeR, readR, e13, e14, e3, e5, e3', e5', e9, eg, isDK, notSlot, binD, lim, settleRs, settleR, bindRs, bindR, mayBind, slOf]

theorem pls_map {α : Type} {f : α → D} : ∀ {l : List α}, (∀ x ∈ l, pl (f x) = true) → pls (l.map f) = true
  | [], _ => rfl
  | x :: l, h => by
    simp only [List.map_cons, pls, h x List.mem_cons_self, pls_map fun y hy => h y (List.mem_cons_of_mem _ hy), Bool.and_self]
theorem depL_map {α : Type} {f : α → D} {n : Nat} : ∀ {l : List α}, (∀ x ∈ l, dep (f x) ≤ n) → depL (l.map f) ≤ n
  | [], _ => by simp [depL]
  | x :: l, h => by
    have := h x List.mem_cons_self
    have := depL_map (f := f) (n := n) (l := l) fun y hy => h y (List.mem_cons_of_mem _ hy)
    simp only [List.map_cons, depL]
    omega
theorem pl_strs {ss : List Str} (h : ss.length ≤ 1000000) : pl (.lst (ss.map .str)) = true := by
  simp only [pl, List.length_map, h, decide_true, Bool.true_and]
  exact pls_map fun x _ => by simp [pl]
theorem dep_strs (ss : List Str) : dep (.lst (ss.map .str)) ≤ 1 := by
  simp only [dep]
  have := depL_map (f := D.str) (n := 0) (l := ss) fun x _ => by simp [dep]
  omega
theorem pl_spots {ps : List (Nat × Nat)} (h : ps.length ≤ 1000000) : pl (.lst (ps.map spotD)) = true := by
  simp only [pl, List.length_map, h, decide_true, Bool.true_and]
  exact pls_map fun x _ => by simp [pl, pls, spotD]
theorem dep_spots (ps : List (Nat × Nat)) : dep (.lst (ps.map spotD)) ≤ 2 := by
  simp only [dep]
  have := depL_map (f := spotD) (n := 1) (l := ps) fun x _ => by simp [dep, depL, spotD]
  omega
theorem pl_sh {s : Shelf} (h : s.length ≤ 1000000) : pl (shD s) = true := by
  simp only [shD, pl, List.length_map, h, decide_true, Bool.true_and]
  exact pls_map fun x _ => by simp [pl, pls, runD]
theorem sort_loop {b S : D} {s1 s2 s3 s4 s5 s6 s8 : Sl} (ks : List Str) (ok : ∀ k ∈ ks, ∃ (acc : List (Key × D)) (m : Int) (sp : List D), F 13 [.sh S] = some (.new (.dK acc), none) ∧ getD2 (.dK acc) (.str k) (.int 0) = some (.int m) ∧ F 14 [.sh S, .sh (.str k)] = some (.new (.lst sp), none) ∧ F 3 [.sh S, .sh (.str k)] = some (.val (.int m), none) ∧ F 5 [.sh S, .sh (.str k)] = some (.new (.lst sp), none) ∧ F 9 [.sh (.lst [.int m, .int m, .lst sp, .lst sp]), .sh (.lst [.int m, .int m, .lst sp, .lst sp])] = some (.val (.bl true), none))
    (l13 : Ld 13 = false) (l14 : Ld 14 = false) (l3 : Ld 3 = false) (l5 : Ld 5 = false) (l9 : Ld 9 = false) :
    ∃ s9 s10 s11 s12, okB s12 ∧ forL (bindT (.nm 9)) (evSs F Ld W sortB) (ks.map .str) (G15 b s1 s2 s3 s4 s5 s6 S s8 .no .no .no .no) = some (.nx, G15 b s1 s2 s3 s4 s5 s6 S s8 s9 s10 s11 s12) := by
  obtain ⟨Γe, q, s9, s10, s11, s12, h9, h10, h11, h12, rfl⟩ := forL_inv (g := bindT (.nm 9)) (b := evSs F Ld W sortB) (P := fun _ Γ => ∃ s9 s10 s11 s12, okS s9 ∧ okB s10 ∧ okB s11 ∧ okB s12 ∧ Γ = G15 b s1 s2 s3 s4 s5 s6 S s8 s9 s10 s11 s12) (ks.map .str) 0 (G15 b s1 s2 s3 s4 s5 s6 S s8 .no .no .no .no) (fun d hd i Γ hp => by
    obtain ⟨s9, s10, s11, s12, h9, h10, h11, h12, rfl⟩ := hp
    obtain ⟨k, hk, rfl⟩ := List.mem_map.1 hd
    obtain ⟨acc, m, sp, e13, eg, e14, e3, e5, e9⟩ := ok k hk
    obtain ⟨s12', h12', ev⟩ := sort_step (F := F) (Ld := Ld) (W := W) (b := b) (s1 := s1) (s2 := s2) (s3 := s3) (s4 := s4) (s5 := s5) (s6 := s6) (s8 := s8) e13 eg e14 e3 e5 e9 h10 h11 h12 l13 l14 l3 l5 l9
    refine ⟨G15 b s1 s2 s3 s4 s5 s6 S s8 (.sh (.str k)) s10 s11 s12, _, ?_, ev, _, _, _, _, .inr ⟨_, rfl⟩, .inr (.inl ⟨_, rfl⟩), .inr (.inl ⟨_, rfl⟩), h12', rfl⟩
    rcases h9 with rfl | ⟨d9, rfl⟩ <;> simp [bindT, bindR, mayBind, slOf]) ⟨.no, .no, .no, .no, .inl rfl, .inl rfl, .inl rfl, .inl rfl, rfl⟩
  exact ⟨s9, s10, s11, s12, h12, q⟩

end
theorem comp_words {F : Nat → Fn} {Ld : Nat → Bool} {g : Nat} {x : E} {st : Stand} {Γ0 : Gm} (hx : ∀ s ∈ st, evE F Ld x (Γ0 ++ [.sh (shD s)]) = some (.val (woD (wordOf s)), Γ0 ++ [.sh (shD s)])) (hl : Γ0.length = 14) (h7 : Γ0[7]? = some (.sh (stD st))) (hs : st.length ≤ 1000) :
    evE F Ld (.comp x (.nm 14) (.seq (.var 7)) [] [14]) (Γ0 ++ [.no]) = some (.new (.lst (st.map fun s => woD (wordOf s))), Γ0 ++ [.no]) := by
  have g7 : (Γ0 ++ [Sl.no])[7]? = some (.sh (stD st)) := by rw [List.getElem?_append_left (by omega), h7]
  have hI : evI F Ld (.seq (.var 7)) (Γ0 ++ [.no]) = some (st.map shD, Γ0 ++ [.no]) := by
    simp only [evI, evE, Sv.bound, g7, if_true, takeR, stD, seqD]
  have hw : wipeG (Γ0 ++ [Sl.no]) [14] = Γ0 ++ [.no] := by
    simp [wipeG, hl]
  have hc := compL_map (vs := [14]) (fg := bindT (.nm 14)) (ft := evCs F Ld []) (fe := fun Γ => match evE F Ld x Γ with
      | none => none
      | some (r, Γ') => takeR r Γ') (f := fun d => match d with | .tup xs => .tup (xs.map fun y => match y with | .tup (z :: _) => z | _ => .non) | _ => .non) (Γ := Γ0 ++ [.no]) (st.map shD) (fun d hd => by
        obtain ⟨s, hs, rfl⟩ := List.mem_map.1 hd
        refine ⟨Γ0 ++ [.sh (shD s)], Γ0 ++ [.sh (shD s)], Γ0 ++ [.sh (shD s)], ?_, rfl, ?_, ?_⟩
        · simp [bindT, bindR, mayBind, slOf, hl, List.getElem?_append_right, List.set_append]
        · rw [hx s hs]
          simp only [takeR, woD, wordOf, shD, List.map_map]
          rfl
        · simp [wipeG, hl]) (by rw [List.length_map]; omega)
  have := ev_comp (F := F) (Ld := Ld) (e := x) (t := .nm 14) (cs := []) (vs := [14]) hI (by simp [notIo, hl]) (by rw [hw]; exact hc)
  rw [this]
  have hm : (st.map shD).map (fun d => match d with | .tup xs => D.tup (xs.map fun y => match y with | .tup (z :: _) => z | _ => .non) | _ => .non) = st.map fun s => woD (wordOf s) := by
    rw [List.map_map]
    apply List.map_congr_left
    intro s _
    simp only [Function.comp_apply, woD, wordOf, shD, List.map_map]
    rfl
  rw [hm]
  congr 2
  simp [restore, hl]
end K02

namespace K02
open PySem PySem.Spec PyProof.Rows L2 Sv
theorem flat_le {n : Nat} : ∀ {st : Stand}, (∀ s ∈ st, s.length ≤ n) → st.flatten.length ≤ n * st.length
  | [], _ => by simp
  | s :: st, h => by
    have a := h s List.mem_cons_self
    have b := flat_le (n := n) (st := st) fun t ht => h t (List.mem_cons_of_mem _ ht)
    rw [List.flatten_cons, List.length_append, List.length_cons, Nat.mul_add]
    omega
abbrev Γi (l : List Sl) : Gm := l ++ List.replicate (15 - l.length) .no
theorem fRight (n : Nat) : RightFn (prg.FT 100000 (n + 12) 16) := by
  rw [Prg.ft (d := d__law_right) rfl]
  have hJ := fJoined (n + 10)
  have hW := fWord (n + 10)
  have hK := fKinds (n + 10)
  have hM := fMany (n + 10)
  have hSp := fSpots (n + 9)
  have hT := fTake (n + 10)
  have hP := fPick (n + 9)
  have hS : SameAt (prg.FT 100000 (n + 11) 9) 8 := fun d p q => fSame (n + 11) d p (by omega)
  have hN := fNames (n + 9)
  have hPt := fPut (n + 10)
  have hSt := fStand (n + 8)
  have hSu := fSums (n + 10)
  have hLS := fLSpots (n + 10)
  have hLW := fLWord (n + 10)
  generalize prg.FT 100000 (n + 11) = F at hJ hW hK hM hSp hT hP hS hN hPt hSt hSu hLS hLW
  have l0 : prg.ld 0 = false := rfl
  have l1 : prg.ld 1 = false := rfl
  have l2 : prg.ld 2 = false := rfl
  have l3 : prg.ld 3 = false := rfl
  have l5 : prg.ld 5 = false := rfl
  have l7 : prg.ld 7 = true := rfl
  have l8 : prg.ld 8 = true := rfl
  have l9 : prg.ld 9 = false := rfl
  have l10 : prg.ld 10 = true := rfl
  have l11 : prg.ld 11 = false := rfl
  have l12 : prg.ld 12 = true := rfl
  have l13 : prg.ld 13 = false := rfl
  have l14 : prg.ld 14 = false := rfl
  have l15 : prg.ld 15 = false := rfl
  generalize prg.ld = Ld at l0 l1 l2 l3 l5 l7 l8 l9 l10 l11 l12 l13 l14 l15
  intro b hb
  obtain ⟨q, b1, e1, q0, q1, hb1⟩ := hT 0 3 b hb (by omega) (by omega) (by omega)
  obtain ⟨ss, b2, e2, hlen, hnd, hok, hb2⟩ := hN (0 + 1) (q.toNat + 1) b1 hb1 (by omega) (by omega)
  have e2' : F 10 [.io b1, .sh (.int (1 + q))] = some (.new (.lst (ss.map .str)), some b2) := by
    rw [show (1 + q : Int) = ((q.toNat + 1 : Nat) : Int) by omega]
    exact e2
  obtain ⟨i, b3, e3, i0, i1, hb3⟩ := hT _ 3 b2 hb2 (by omega) (by omega) (by omega)
  obtain ⟨top, ht, t0, t1⟩ : ∃ top : Int, ixD (.lst [.int 2, .int 4, .int 10000000000]) (.int i) = some (.int top) ∧ 0 < top ∧ top < 100000000000 := by
    have : i = 0 ∨ i = 1 ∨ i = 2 := by omega
    rcases this with rfl | rfl | rfl
    · exact ⟨2, rfl, by decide, by decide⟩
    · exact ⟨4, rfl, by decide, by decide⟩
    · exact ⟨10000000000, rfl, by decide, by decide⟩
  have st1 : evSs F Ld 100000 (ir__law_right.take 2) (Γi [.io b]) = some (.nx, nos [.io b3, .ow (.lst (ss.map .str)), .ow (.lst []), .sh (.int top), .no]) := by
    generalize D.lst (ss.map .str) = l at *
    simp [Γi, nos, ir__law_right, evSs, evS, evE, evEs, Sv.bound, takeRs, takeR, readR, binD, settleRs, settleR, bindRs, bindR, mayBind, slOf, callE, l7, l10, ownAt, setOwn, e1, e2', e3, notSlot, lim, ht, fits64]
  have hb3' : Bx 100 b3 := hb3.mono (by omega)
  obtain ⟨rows, b4, s1, s4, hr, hrl, h5, h4, hb4, st3⟩ := rows_loop (F := F) (Ld := Ld) (W := 100000) hT hP l7 l8 hb3' (by omega) (by omega) (by omega) t0 t1 (s1 := .ow (.lst (ss.map .str))) (.inl rfl)
  have rk := rep_rows (rows := rows) (by omega) fun r h => ⟨hok _ (hr r h).1, (hr r h).2.1, by have := (hr r h).2.2; omega⟩
  obtain ⟨j1, j2⟩ := hJ rows (by omega)
  obtain ⟨p1, _⟩ := hPt rows (by omega)
  have jl : (joinR rows).length ≤ 1000000 := by have := joinR_len rows; omega
  have js := hS (.lst [shD (joinR rows), shD (joinR rows)]) (by simp only [pl, pls, pl_sh jl]; rfl) (by have := dep_sh (joinR rows); simp only [dep, depL]; omega)
  have j2' : F 0 ((gPD [0] [.tup (rows.map runD)]).map .sh) = some (.val (shD (joinR rows)), none) := j2
  have st4 : ∃ sh : Str, evSs F Ld 100000 ((ir__law_right.drop 3).take 2) (nos [.io b4, s1, .ow (.lst (rows.map runD)), .sh (.int top), s4]) = some (.nx, [.io b4, s1, .sh (.lst (rows.map runD)), .sh (.int top), s4, .sh (shD (joinR rows)), .sh (.str sh), .no, .no, .no, .no, .no, .no, .no, .no]) := by
    generalize shD (joinR rows) = due at *
    generalize rows.map runD = rr at *
    refine ⟨(toPy (.lst rr)).shown, ?_⟩
    simp [nos, ir__law_right, evSs, evS, evE, evEs, evT, Sv.bound, takeRs, takeR, readR, readRs, binD, biD, settleRs, settleR, bindRs, bindR, mayBind, slOf, callE, l0, l9, l11, ownAt, setOwn, p1, j1, j2', js, notSlot, lim, rk, cmpD, dep, eqD]
  obtain ⟨rep, st4⟩ := st4
  obtain ⟨st, names, b5, e12, so, hb5⟩ := hSt _ b4 4 8 4 top hb4 (by omega) (by omega) (by omega) (by omega) (by omega) (by omega) t0 (by omega)
  have sm : Sm 40 st := ⟨by have := so.len; omega, fun s hs => by have := (so.each s hs).1; omega⟩
  have fl : st.flatten.length ≤ 36 := by
    have := flat_le (n := 9) (st := st) fun s hs => (so.each s hs).1
    have := so.len
    omega
  obtain ⟨acc, good, e13⟩ := hSu st sm
  have hacc := good.len
  have hso : sortD (.dK (acc.map encK)) = some ((kinds st).map .str) := by
    have ha : ((acc.map (·.1)).all PyData.strOk) = true := by
      rw [List.all_eq_true]
      intro x hx
      obtain ⟨r, hr', hrx⟩ := (good.mem x).1 hx
      obtain ⟨s, hs, hrs⟩ := List.mem_flatten.1 hr'
      have := so.names _ ((so.each s hs).2 r hrs).1
      rw [hrx] at this
      exact (okN_Ch this).ok
    simp only [sortD, keys_enc, List.length_map, ha, and_true]
    rw [if_pos (by omega), good.sorted]

  have e12' : F 12 [.io b4, .sh (.int 4), .sh (.int 8), .sh (.int 4), .sh (.int top)] = some (.val (stD st), some b5) := e12
  have e2k := hK st sm
  have kl : (kinds st).length ≤ 36 := by
    have h1 : (kinds st).length = acc.length := by rw [← good.sorted, (sortBy_perm _).length_eq, List.length_map]
    omega
  have ks := hS (.lst [.lst ((kinds st).map .str), .lst ((kinds st).map .str)]) (by simp only [pl, pls, List.length_map, decide_eq_true (show (kinds st).length ≤ 1000000 by omega), Bool.true_and]; rw [pls_map fun x _ => by simp [pl]]; rfl) (by have := dep_strs (kinds st); simp only [dep, depL] at this ⊢; omega)
  have e2k' : F 2 ((gPD [0] [stD st]).map .sh) = some (.new (.lst ((kinds st).map .str)), none) := e2k
  have st5 : evSs F Ld 100000 ((ir__law_right.drop 5).take 4) [.io b4, s1, .sh (.lst (rows.map runD)), .sh (.int top), s4, .sh (shD (joinR rows)), .sh (.str rep), .no, .no, .no, .no, .no, .no, .no, .no] = some (.nx, [.io b5, s1, .sh (.lst (rows.map runD)), .sh (.int top), s4, .sh (shD (joinR rows)), .sh (.str rep), .sh (stD st), .sh (.lst ((kinds st).map .str)), .no, .no, .no, .no, .no, .no]) := by
    have kl' : ((kinds st).map D.str).length < 1000000 := by rw [List.length_map]; omega
    clear hJ hW hK hM hSp hT hP hS hN hPt hSt hSu hLS hLW
    generalize shD (joinR rows) = due at *
    generalize rows.map runD = rr at *
    generalize stD st = S at *
    generalize (kinds st).map D.str = kk at *
    generalize acc.map encK = aa at *
    simp [ir__law_right, evSs, evS, evE, evEs, evT, Sv.bound, takeRs, takeR, readR, readRs, binD, biD, settleRs, settleR, bindRs, bindR, mayBind, slOf, callE, l2, l9, l12, l13, ownAt, setOwn, e12', e13, hso, e2k, e2k', ks, notSlot, lim, kl']

  -- each kind, and one that stands nowhere
  have zz : ∃ z : Str, ∀ {s1 s2 s3 s4 s5 s6 : Sl}, evI F Ld (.seq (.bin .add (.var 8) (.lst [(.ite (.val (.cmp .nin (.cst (.str ("zzzzzz" : Str))) (.var 8))) (.cst (.str ("zzzzzz" : Str))) (.cst (.str ("zzzzzy" : Str))))]))) (G15 b5 s1 s2 s3 s4 s5 s6 (stD st) (.sh (.lst ((kinds st).map .str))) .no .no .no .no) = some ((kinds st ++ [z]).map .str, G15 b5 s1 s2 s3 s4 s5 s6 (stD st) (.sh (.lst ((kinds st).map .str))) .no .no .no .no) := by
    have hd : ∃ kk, cmpD .nin (.str ("zzzzzz" : Str)) (.lst ((kinds st).map .str)) = some kk := by
      have := dep_strs (kinds st)
      have h0 : dep (.str ("zzzzzz" : Str)) ≤ 64 := by simp [dep]
      simp only [cmpD, memD]
      rw [if_pos ⟨h0, by omega⟩]
      exact ⟨_, rfl⟩
    obtain ⟨kk, hkk⟩ := hd
    refine ⟨if kk then "zzzzzz" else "zzzzzy", fun {s1 s2 s3 s4 s5 s6} => ?_⟩
    have kl' : ((kinds st).map D.str).length + 1 ≤ 1000000 := by rw [List.length_map]; omega
    rw [List.map_append]
    generalize stD st = S at *
    generalize (kinds st).map D.str = xx at *
    cases kk <;> simp [G15, evI, evE, evEs, evT, Sv.bound, takeRs, takeR, readR, readRs, binD, hkk, lim, seqD, kl']

  obtain ⟨z, zz⟩ := zz
  obtain ⟨s9, s10, s11, s12, h12, lp⟩ := sort_loop (F := F) (Ld := Ld) (W := 100000) (b := b5) (S := stD st) (s1 := s1) (s2 := .sh (.lst (rows.map runD))) (s3 := .sh (.int top)) (s4 := s4) (s5 := .sh (shD (joinR rows))) (s6 := .sh (.str rep)) (s8 := .sh (.lst ((kinds st).map .str))) (kinds st ++ [z]) (fun k _ => by
    have hp : (spots st k).length ≤ 1000000 := by
      have h1 : (spots st k).length ≤ (allSpots st).length := List.length_filter_le _ _
      have h2 := allSpots_len st
      omega
    exact ⟨acc.map encK, many st k, (spots st k).map spotD, e13, good.get k, hLS st k sm, hM st k sm, hSp st k sm, hS _ (by
      have := pl_spots hp
      simp only [pl] at this
      simp only [pl, pls, this, Bool.and_true]; rfl) (by have := dep_spots (spots st k); simp only [dep, depL] at this ⊢; omega)⟩) l13 l14 l3 l5 l9
  have st6 := ev_for (F := F) (Ld := Ld) (W := 100000) (t := .nm 9) (b := sortB) zz lp

  have sl : st.length ≤ 1000 := by have := so.len; omega
  have slen : ∀ s ∈ st, s.length ≤ 1000 := fun s hs => by have := sm.each s hs; omega
  have hx : ∀ {x : E} {f : Nat}, WordFn (F f) → Ld f = false → (x = .call f [(.var 14)] ∨ x = .callk f [0] [(.var 14)]) → ∀ (s9 s10 s11 s12 s13 : Sl), evE F Ld (.comp x (.nm 14) (.seq (.var 7)) [] [14]) [.io b5, s1, .sh (.lst (rows.map runD)), .sh (.int top), s4, .sh (shD (joinR rows)), .sh (.str rep), .sh (stD st), .sh (.lst ((kinds st).map .str)), s9, s10, s11, s12, s13, .no] = some (.new (.lst (st.map fun s => woD (wordOf s))), [.io b5, s1, .sh (.lst (rows.map runD)), .sh (.int top), s4, .sh (shD (joinR rows)), .sh (.str rep), .sh (stD st), .sh (.lst ((kinds st).map .str)), s9, s10, s11, s12, s13, .no]) := by
    intro x f hf lf hx s9 s10 s11 s12 s13
    refine comp_words (g := 0) (F := F) (Ld := Ld) (x := x) (st := st) (Γ0 := [.io b5, s1, .sh (.lst (rows.map runD)), .sh (.int top), s4, .sh (shD (joinR rows)), .sh (.str rep), .sh (stD st), .sh (.lst ((kinds st).map .str)), s9, s10, s11, s12, s13]) (fun s hs => ?_) rfl rfl sl
    have e := hf s (slen s hs)
    have e' : F f ((gPD [0] [shD s]).map .sh) = some (.val (woD (wordOf s)), none) := e
    generalize shD s = ds at *
    generalize woD (wordOf s) = dw at *
    generalize shD (joinR rows) = due at *
    generalize rows.map runD = rr at *
    generalize stD st = S at *
    generalize (kinds st).map D.str = kk at *
    rcases hx with rfl | rfl <;> simp [evE, evEs, Sv.bound, takeRs, takeR, callE, lf, e, e', notSlot]
  have c15 := hx hLW l15 (.inl rfl)
  have c1 := hx hW l1 (.inl rfl)
  have c1' := hx hW l1 (.inr rfl)
  have wl : (st.map fun s => woD (wordOf s)).length ≤ 1000000 := by rw [List.length_map]; omega
  have wp : pls (st.map fun s => woD (wordOf s)) = true := pls_map fun s hs => by
    simp only [woD, pl, List.length_map, wordOf, decide_eq_true (show s.length ≤ 1000000 by have := slen s hs; omega), Bool.true_and]
    exact pls_map fun y _ => by simp [pl]
  have wd : depL (st.map fun s => woD (wordOf s)) ≤ 1 := depL_map fun s _ => by
    simp only [woD, dep]
    have := depL_map (f := D.str) (n := 0) (l := wordOf s) fun x _ => by simp [dep]
    omega
  have kp := pl_strs (ss := kinds st) (by omega)
  have kd := dep_strs (kinds st)
  have last := hS (.lst [.lst (st.map fun s => woD (wordOf s)), .lst (st.map fun s => woD (wordOf s)), .lst ((kinds st).map .str)]) (by
    simp only [pl] at kp
    simp only [pl, pls, wl, wp, kp, decide_true, Bool.and_true]; rfl) (by simp only [dep, depL] at kd ⊢; omega)
  have key : ∃ Γ, evSs F Ld 100000 (ir__law_right.drop 10) [.io b5, s1, .sh (.lst (rows.map runD)), .sh (.int top), s4, .sh (shD (joinR rows)), .sh (.str rep), .sh (stD st), .sh (.lst ((kinds st).map .str)), s9, s10, s11, s12, .no, .no] = some (.rt (.val (.bl true)), .io b5 :: Γ) := by
    clear hJ hW hK hM hSp hT hP hS hN hPt hSt hSu hLS hLW
    generalize (st.map fun s => woD (wordOf s)) = ww at *
    generalize shD (joinR rows) = due at *
    generalize rows.map runD = rr at *
    generalize stD st = S at *
    generalize (kinds st).map D.str = kk at *
    rcases h12 with rfl | ⟨d12, rfl⟩ | ⟨d12, rfl⟩ <;>
    simp [ir__law_right, evSs, evS, ↓c15, ↓c1, ↓c1', evE, evEs, Sv.bound, takeRs, takeR, callE, l2, l9, e2k, last, notSlot, lim, settleR, bindR, mayBind, slOf]
  obtain ⟨Γ, key⟩ := key
  refine ⟨b5, runF_rt (f := ⟨1, 15, ir__law_right⟩) (as := [.io b]) (Γ0 := Γi [.io b]) rfl rfl (Γ := .io b5 :: Γ) ?_⟩
  refine (evSs_cut _ _ _ 2 _ _ _ st1).trans ?_
  refine (evSs_nx st3).trans ?_
  refine (evSs_cut _ _ _ 2 _ _ _ st4).trans ?_
  refine (evSs_cut _ _ _ 4 _ _ _ st5).trans ?_
  refine (evSs_nx st6).trans ?_
  exact key
theorem law_true (ns : List Int) (h : ns.length ≤ 63) : prg.FT 100000 40 17 [.sh (.scr ns)] = some (.val (.bl true), none) := by
  rw [Prg.ft (d := d_law) rfl]
  exact law_fn (m := 4) (by decide) (by decide) (bx := 6) (s := 16) (fBox 38) (fRight 27) rfl rfl ns h
end K02

namespace K02
open PySem PySem.Spec PyProof.Rows L2 Sv
theorem ok_joined : DefOk prg d_joined := ⟨⟨rfl, rfl, rfl, by decide +kernel, rfl, by decide +kernel, by decide +kernel⟩, by kernel_rfl, by decide +kernel, fun _ _ _ _ _ _ us hl => match us, hl with | [_], _ => rfl⟩
theorem ok_word_of : DefOk prg d_word_of := ⟨⟨rfl, rfl, rfl, by decide +kernel, rfl, by decide +kernel, by decide +kernel⟩, by kernel_rfl, by decide +kernel, fun _ _ _ _ _ _ us hl => match us, hl with | [_], _ => rfl⟩
theorem ok_kinds_in : DefOk prg d_kinds_in := ⟨⟨rfl, rfl, rfl, by decide +kernel, rfl, by decide +kernel, by decide +kernel⟩, by kernel_rfl, by decide +kernel, fun _ _ _ _ _ _ us hl => match us, hl with | [_], _ => rfl⟩
theorem ok_many_of : DefOk prg d_many_of := ⟨⟨rfl, rfl, rfl, by decide +kernel, rfl, by decide +kernel, by decide +kernel⟩, by kernel_rfl, by decide +kernel, fun _ _ _ _ _ _ us hl => match us, hl with | [_, _], _ => rfl⟩
theorem ok_all_spots : DefOk prg d_all_spots := ⟨⟨rfl, rfl, rfl, by decide +kernel, rfl, by decide +kernel, by decide +kernel⟩, by kernel_rfl, by decide +kernel, fun _ _ _ _ _ _ us hl => match us, hl with | [_], _ => rfl⟩
theorem ok_spots_of : DefOk prg d_spots_of := ⟨⟨rfl, rfl, rfl, by decide +kernel, rfl, by decide +kernel, by decide +kernel⟩, by kernel_rfl, by decide +kernel, fun _ _ _ _ _ _ us hl => match us, hl with | [_, _], _ => rfl⟩
theorem ok__law_box : DefOk prg d__law_box := ⟨⟨rfl, rfl, rfl, by decide +kernel, rfl, by decide +kernel, by decide +kernel⟩, by kernel_rfl, by decide +kernel, fun _ _ _ _ _ _ us hl => match us, hl with | [_, _], _ => rfl⟩
theorem ok__law_take : DefOk prg d__law_take := ⟨⟨rfl, rfl, rfl, by decide +kernel, rfl, by decide +kernel, by decide +kernel⟩, by kernel_rfl, by decide +kernel, fun _ _ _ _ _ _ us hl => match us, hl with | [_, _], _ => rfl⟩
theorem ok__law_pick : DefOk prg d__law_pick := ⟨⟨rfl, rfl, rfl, by decide +kernel, rfl, by decide +kernel, by decide +kernel⟩, by kernel_rfl, by decide +kernel, fun _ _ _ _ _ _ us hl => match us, hl with | [_, _], _ => rfl⟩
theorem ok__law_same : DefOk prg d__law_same := ⟨⟨rfl, rfl, rfl, by decide +kernel, rfl, by decide +kernel, by decide +kernel⟩, by kernel_rfl, by decide +kernel, fun _ _ _ _ _ _ us hl => match us, hl with | [_, _], _ => rfl⟩
theorem ok__law_names : DefOk prg d__law_names := ⟨⟨rfl, rfl, rfl, by decide +kernel, rfl, by decide +kernel, by decide +kernel⟩, by kernel_rfl, by decide +kernel, fun _ _ _ _ _ _ us hl => match us, hl with | [_, _], _ => rfl⟩
theorem ok__law_put_together : DefOk prg d__law_put_together := ⟨⟨rfl, rfl, rfl, by decide +kernel, rfl, by decide +kernel, by decide +kernel⟩, by kernel_rfl, by decide +kernel, fun _ _ _ _ _ _ us hl => match us, hl with | [_], _ => rfl⟩
theorem ok__law_stand : DefOk prg d__law_stand := ⟨⟨rfl, rfl, rfl, by decide +kernel, rfl, by decide +kernel, by decide +kernel⟩, by kernel_rfl, by decide +kernel, fun _ _ _ _ _ _ us hl => match us, hl with | [_, _, _, _, _], _ => rfl⟩
theorem ok__law_sums : DefOk prg d__law_sums := ⟨⟨rfl, rfl, rfl, by decide +kernel, rfl, by decide +kernel, by decide +kernel⟩, by kernel_rfl, by decide +kernel, fun _ _ _ _ _ _ us hl => match us, hl with | [_], _ => rfl⟩
theorem ok__law_spots : DefOk prg d__law_spots := ⟨⟨rfl, rfl, rfl, by decide +kernel, rfl, by decide +kernel, by decide +kernel⟩, by kernel_rfl, by decide +kernel, fun _ _ _ _ _ _ us hl => match us, hl with | [_, _], _ => rfl⟩
theorem ok__law_word : DefOk prg d__law_word := ⟨⟨rfl, rfl, rfl, by decide +kernel, rfl, by decide +kernel, by decide +kernel⟩, by kernel_rfl, by decide +kernel, fun _ _ _ _ _ _ us hl => match us, hl with | [_], _ => rfl⟩
theorem ok__law_right : DefOk prg d__law_right := ⟨⟨rfl, rfl, rfl, by decide +kernel, rfl, by decide +kernel, by decide +kernel⟩, by kernel_rfl, by decide +kernel, fun _ _ _ _ _ _ us hl => match us, hl with | [_], _ => rfl⟩
theorem ok_law : DefOk prg d_law := ⟨⟨rfl, rfl, rfl, by decide +kernel, rfl, by decide +kernel, by decide +kernel⟩, by kernel_rfl, by decide +kernel, fun _ _ _ _ _ _ us hl => match us, hl with | [_], _ => rfl⟩
theorem defs_ok : ∀ d ∈ prg.defs, DefOk prg d := by
  intro d hd
  simp only [prg, List.mem_cons, List.not_mem_nil, or_false] at hd
  rcases hd with rfl | rfl | rfl | rfl | rfl | rfl | rfl | rfl | rfl | rfl | rfl | rfl | rfl | rfl | rfl | rfl | rfl | rfl
  · exact ok_joined
  · exact ok_word_of
  · exact ok_kinds_in
  · exact ok_many_of
  · exact ok_all_spots
  · exact ok_spots_of
  · exact ok__law_box
  · exact ok__law_take
  · exact ok__law_pick
  · exact ok__law_same
  · exact ok__law_names
  · exact ok__law_put_together
  · exact ok__law_stand
  · exact ok__law_sums
  · exact ok__law_spots
  · exact ok__law_word
  · exact ok__law_right
  · exact ok_law
theorem kw_ok : KwOk prg := by
  refine ⟨fun i ks perm h d hd => ?_⟩
  simp only [prg, List.mem_cons, List.not_mem_nil, or_false, Prod.mk.injEq] at h
  rcases h with ⟨rfl, rfl, rfl⟩ | ⟨rfl, rfl, rfl⟩ | ⟨rfl, rfl, rfl⟩ | ⟨rfl, rfl, rfl⟩ | ⟨rfl, rfl, rfl⟩
  · obtain rfl : d_many_of = d := Option.some.inj hd
    exact ⟨rfl, fun _ _ _ _ _ _ ws hl => match ws, hl with | [_, _], _ => rfl⟩
  · obtain rfl : d_word_of = d := Option.some.inj hd
    exact ⟨rfl, fun _ _ _ _ _ _ ws hl => match ws, hl with | [_], _ => rfl⟩
  · obtain rfl : d_kinds_in = d := Option.some.inj hd
    exact ⟨rfl, fun _ _ _ _ _ _ ws hl => match ws, hl with | [_], _ => rfl⟩
  · obtain rfl : d_joined = d := Option.some.inj hd
    exact ⟨rfl, fun _ _ _ _ _ _ ws hl => match ws, hl with | [_], _ => rfl⟩
  · obtain rfl : d_spots_of = d := Option.some.inj hd
    exact ⟨rfl, fun _ _ _ _ _ _ ws hl => match ws, hl with | [_, _], _ => rfl⟩
def dD (d : DefI) : He.DefD := ⟨(d.name, none), d.name, d.name, defArgs d.st, defBody d.st, defScope d.st, [], []⟩
def fnD : List He.DefD := prg.defs.map dD
def faD : List He.Fa := [.glo "joined", .glo "word_of", .glo "kinds_in", .glo "many_of", .glo "all_spots", .glo "spots_of", .glo "_law_box", .glo "_law_take", .glo "_law_pick", .glo "_law_same", .glo "_law_names", .glo "_law_put_together", .glo "_law_stand", .glo "_law_sums", .glo "_law_spots", .glo "_law_word", .glo "_law_right", .glo "law", .free "len", .free "abs", .free "min", .free "max", .free "sum", .free "all", .free "any", .free "tuple", .free "list", .free "int", .free "str", .free "bool", .free "dict", .free "isinstance", .free "range", .free "zip", .free "enumerate", .free "sorted", .free "repr"]
abbrev R : PySem.W.OpenRow := PySem.W.OpenLaw.row PySem.Challenge.rw_shelflikes_k02_shelves_put_together
abbrev hk : PySem.W.Hook := He.hookD 4 faD fnD
def ob (s : PySem.W.SharedT) : He.AlD := He.obsDG 4 faD fnD (HandSHeadRun.getT s)
theorem ob_eq (s : PySem.W.SharedT) : ob s = hk.obs s.abs := He.obsDG_eq (HandSHeadRun.getT_eq s)
def looseL : List Str := ["joined", "word_of", "kinds_in", "many_of", "all_spots", "spots_of", "_law_box", "_law_take", "_law_pick", "_law_same", "_law_names", "_law_put_together", "_law_stand", "_law_sums", "_law_spots", "_law_word", "_law_right"]
theorem run (w : World) : HandSHeadRun.RunEq R (PySem.W.view R.prog [19]) hk ob 1280 looseL w := by
  intro os
  kernel_rfl
theorem top_ok {K : PySem.W.Frag} {h : Heap} {mg : Str → Option Value} (X : K.In h) (G : h.Ns mainGlobals mg) (c : He.SaysD faD fnD K) : TopOk prg K mg where
  defs := fun d hd => by
    obtain ⟨i, hi⟩ := List.mem_iff_getElem?.1 hd
    have lt : i < 18 := by
      have := (List.getElem?_eq_some_iff.1 hi).1
      exact this
    obtain ⟨fd, F⟩ := c.def_ i (d := dD d) (by unfold fnD; rw [List.getElem?_map, hi]; rfl)
    refine ⟨_, fd, He.glo_ok X G (c.fact i (f := .glo d.name) ?_), F⟩
    have e : faD.take 18 = prg.defs.map (fun d => He.Fa.glo d.name) := rfl
    have this : faD[i]? = (prg.defs[i]?).map fun d => He.Fa.glo d.name := by rw [← List.getElem?_map, ← e, List.getElem?_take_of_lt lt]
    rw [this, hi]
    rfl
  cons := fun x d h => by cases h
  blt := fun x hx => by
    simp only [bltNames, List.mem_cons, List.not_mem_nil, or_false] at hx
    rcases hx with rfl | rfl | rfl | rfl | rfl | rfl | rfl | rfl | rfl | rfl | rfl | rfl | rfl | rfl | rfl | rfl | rfl | rfl | rfl
    · exact He.free_ok X G (c.fact 18 (f := .free "len") rfl)
    · exact He.free_ok X G (c.fact 19 (f := .free "abs") rfl)
    · exact He.free_ok X G (c.fact 20 (f := .free "min") rfl)
    · exact He.free_ok X G (c.fact 21 (f := .free "max") rfl)
    · exact He.free_ok X G (c.fact 22 (f := .free "sum") rfl)
    · exact He.free_ok X G (c.fact 23 (f := .free "all") rfl)
    · exact He.free_ok X G (c.fact 24 (f := .free "any") rfl)
    · exact He.free_ok X G (c.fact 25 (f := .free "tuple") rfl)
    · exact He.free_ok X G (c.fact 26 (f := .free "list") rfl)
    · exact He.free_ok X G (c.fact 27 (f := .free "int") rfl)
    · exact He.free_ok X G (c.fact 28 (f := .free "str") rfl)
    · exact He.free_ok X G (c.fact 29 (f := .free "bool") rfl)
    · exact He.free_ok X G (c.fact 30 (f := .free "dict") rfl)
    · exact He.free_ok X G (c.fact 31 (f := .free "isinstance") rfl)
    · exact He.free_ok X G (c.fact 32 (f := .free "range") rfl)
    · exact He.free_ok X G (c.fact 33 (f := .free "zip") rfl)
    · exact He.free_ok X G (c.fact 34 (f := .free "enumerate") rfl)
    · exact He.free_ok X G (c.fact 35 (f := .free "sorted") rfl)
    · exact He.free_ok X G (c.fact 36 (f := .free "repr") rfl)
theorem law_end {P : Program} {w : World} {K : PySem.W.Frag} {h : Heap} {mg : Str → Option Value} {f : Addr} (X : K.In h) (G : h.Ns mainGlobals mg) (hfa : mg ("law" : Str) = some (.ref f)) (c : He.SaysD faD fnD K) :
    ∃ (K : PySem.W.Frag) (fd : FuncData) (sp : Sp), K.In h ∧ (∀ (s : Shared) (u : Value), BindsTo s fd ⟨[u], []⟩ [("_law_script", u)]) ∧
        (∀ (H : Hp) (a : Addr) (ns : List Int), ns.length ≤ 63 → Only H → SqL K H a (ns.map V.int) → sp [.ref a] H (fun v _ => v = .bl true) fun _ _ _ => False) ∧
        ∀ base : Heap, K.In base → base.Ns mainGlobals mg → Tx.FnG P w K mg base CX0 40 f fd ["_law_script"] sp := by
  have T := top_ok X G c
  have Fu : ∃ fd, FunD K "law" "law" (defArgs d_law.st) (defBody d_law.st) (defScope d_law.st) [] [] (He.fAd K ("law", none)) fd := c.def_ 17 (d := dD d_law) rfl
  obtain ⟨fd, F⟩ := Fu
  have e := hfa.symm.trans (He.glo_ok X G (c.fact 17 (f := .glo "law") rfl))
  cases e
  have b := FunD.bindsA (ps := ["_law_script"]) F fun kV doc pm an cdv ct us hl => ok_law.bi kV doc pm an cdv ct us hl
  refine ⟨K, fd, spOf K 1 (prg.FT 100000 40 17), X, fun s v => b s [v] rfl, fun H a ns hl hO hS => law_sp rfl law_true H a ns hl hO hS, fun base hK hB => ?_⟩
  exact one_ok (P := P) (w := w) (base := base) (W := 100000) defs_ok kw_ok T (by decide +kernel) 39 17 (d := d_law) rfl F
end K02
open PySem PySem.W PySem.Calls PyProof.Rows
theorem PySem.Challenge.cw_shelflikes_k02_shelves_put_together_holds : PySem.Challenge.rw_shelflikes_k02_shelves_put_together.Holds := by
  w_on; o_law
  refine HandSHeadRun.head_any (r := OpenLaw.row PySem.Challenge.rw_shelflikes_k02_shelves_put_together) (q := view (OpenLaw.row PySem.Challenge.rw_shelflikes_k02_shelves_put_together).prog [19]) (H := K02.hk) (ob := K02.ob) (M := 1280) (loose := K02.looseL) (d := HandSHeadRun.topDef (OpenLaw.row PySem.Challenge.rw_shelflikes_k02_shelves_put_together).prog 19) (kwd := []) K02.ob_eq
    (by kernel_rfl) (fun s => by kernel_rfl) K02.run (by kernel_rfl) (by kernel_rfl) (by kernel_rfl) (by rfl) (by first | assumption | decide +kernel) (by decide +kernel) ⟨rfl, rfl, rfl, rfl, rfl, by decide +kernel⟩ ?hw ?hc
  case hw => w_witness2
  case hc =>
    refine Tx.walk_ofEG (l := PySem.Challenge.rw_shelflikes_k02_shelves_put_together) (n := 63) (k := 40) (x := "_law_script") (CX := L2.CX0) rfl (by decide) (by kernel_rfl) ⟨⟨rfl, by decide, by decide⟩, rfl⟩ ?F (fun _ _ _ _ z => z)
    intro w mg fa h Y G hmg0
    obtain ⟨K, KX, c⟩ := Y
    have hmg : mg ("law" : PySem.Str) = some (.ref fa) := by
      have e : (HandSHeadRun.topDef (OpenLaw.row PySem.Challenge.rw_shelflikes_k02_shelves_put_together).prog 19).name = ("law" : PySem.Str) := by kernel_rfl
      rw [← e]
      exact hmg0
    exact K02.law_end KX G hmg c

