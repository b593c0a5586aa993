import PyProof.Rows.All
import Wide.All
import OpenK.AllK
import Wide.FinOn
import HandS.ForMost
import HandS.IsInst
import HandS.TupAny
import HandS.TupMul
import HandS.Style
import HandS.Zip
import HandS.Deep
import HandS.NoneIn
import HandS.Conv
import KE.KStateDown
import HandS.Defaults
import HandS.Head0
import HandS.Head1
import HandS.Head2
import HandS.HeadEnd
import HandS.HeadHook1
import HandS.HeadHook2
import PySem.Challenge.RW_shelflikes_k08_known_parts
set_option Elab.async false
set_option linter.all false
set_option autoImplicit false
set_option maxRecDepth 100000
set_option maxHeartbeats 0
namespace Sv
open PySem PySem.Spec PyProof.Rows L2
inductive D where
  | non | bl (b : Bool) | int (i : Int) | str (x : Str) | tup (xs : List D) | lst (xs : List D) | dK (kvs : List (Key × D)) | dT (kvs : List (List Key × D)) | scr (ns : List Int)
  deriving Inhabited
def SqF (K : PySem.W.Frag) (H : Hp) (a : Addr) (xs : List V) : Prop := ∃ o, H a = some (.frz o (.lst xs))
/-- the script: locked, or an object of the module -/
def SqS (K : PySem.W.Frag) (H : Hp) (a : Addr) (xs : List V) : Prop :=
  (∃ o, H a = some (.frz o (.lst xs))) ∨
    ∃ (o : Obj) (its : Array Value) (n : Nat), K.lookup a = some o ∧ o.cls = .type "list" ∧ o.dict = none ∧ o.data = .seq its n ∧ its.size ≤ sizeLine ∧ Vals xs its.toList
mutual
def Rp (K : PySem.W.Frag) (H : Hp) : D → V → Prop
  | .non, v => v = .non
  | .bl b, v => v = .bl b
  | .int i, v => v = .int i
  | .str x, v => v = .str x ∧ PyData.strOk x = true
  | .tup ds, v => ∃ a vs, v = .ref a ∧ SqT K H a vs ∧ RpL K H ds vs
  | .lst ds, v => ∃ a vs, v = .ref a ∧ SqF K H a vs ∧ RpL K H ds vs
  | .dK kvs, v => ∃ a o ws, v = .ref a ∧ H a = some (.frz o (.dK ws)) ∧ RpK K H kvs ws
  | .dT kvs, v => ∃ a o ws, v = .ref a ∧ H a = some (.frz o (.dT ws)) ∧ RpT K H kvs ws
  | .scr ns, v => ∃ a, v = .ref a ∧ SqS K H a (ns.map V.int)
def RpL (K : PySem.W.Frag) (H : Hp) : List D → List V → Prop
  | [], vs => vs = []
  | d :: ds, vs => ∃ v r, vs = v :: r ∧ Rp K H d v ∧ RpL K H ds r
def RpK (K : PySem.W.Frag) (H : Hp) : List (Key × D) → List (Key × V) → Prop
  | [], vs => vs = []
  | (k, d) :: ds, vs => ∃ v r, vs = (k, v) :: r ∧ Rp K H d v ∧ RpK K H ds r
def RpT (K : PySem.W.Frag) (H : Hp) : List (List Key × D) → List (List Key × V) → Prop
  | [], vs => vs = []
  | (k, d) :: ds, vs => ∃ v r, vs = (k, v) :: r ∧ Rp K H d v ∧ RpT K H ds r
end
end Sv

namespace Sv
open PySem PySem.Spec PyProof.Rows L2
/-! what never changes -/
def Imm : HO → Prop
  | .tup _ => True
  | .frz _ _ => True
  | _ => False
def Per (H H' : Hp) : Prop := ∀ a o, Imm o → H a = some o → H' a = some o
theorem Per.refl (H : Hp) : Per H H := fun _ _ _ h => h
theorem Per.trans {H H1 H2 : Hp} (a : Per H H1) (b : Per H1 H2) : Per H H2 := fun x o i h => b x o i (a x o i h)
theorem Per.of_same {H H' : Hp} (s : ∀ a o, H a = some o → H' a = some o) : Per H H' := fun a o _ h => s a o h
section
variable {K : PySem.W.Frag} {H H' : Hp}
theorem sqT_per {a : Addr} {xs : List V} (p : Per H H') (h : SqT K H a xs) : SqT K H' a xs := by
  rcases h with (h | ⟨o, h⟩) | h
  · exact .inl (.inl (p _ _ trivial h))
  · exact .inl (.inr ⟨o, p _ _ trivial h⟩)
  · exact .inr h
theorem sqF_per {a : Addr} {xs : List V} (p : Per H H') (h : SqF K H a xs) : SqF K H' a xs := by
  obtain ⟨o, h⟩ := h
  exact ⟨o, p _ _ trivial h⟩
theorem sqF_sq {a : Addr} {xs : List V} (h : SqF K H a xs) : SqL K H a xs := by
  obtain ⟨o, h⟩ := h
  exact .inl (.inr ⟨o, h⟩)
theorem sqS_per {a : Addr} {xs : List V} (p : Per H H') (h : SqS K H a xs) : SqS K H' a xs := by
  rcases h with ⟨o, h⟩ | h
  · exact .inl ⟨o, p _ _ trivial h⟩
  · exact .inr h
theorem sqS_sq {a : Addr} {xs : List V} (h : SqS K H a xs) : SqL K H a xs := by
  rcases h with ⟨o, h⟩ | h
  · exact .inl (.inr ⟨o, h⟩)
  · exact .inr h
mutual
theorem Rp.per (p : Per H H') : ∀ (d : D) (v : V), Rp K H d v → Rp K H' d v
  | .non, _, h => by simpa only [Rp] using h
  | .bl _, _, h => by simpa only [Rp] using h
  | .int _, _, h => by simpa only [Rp] using h
  | .str _, _, h => by simpa only [Rp] using h
  | .tup ds, v, h => by
    simp only [Rp] at h ⊢
    obtain ⟨a, vs, e, hs, hl⟩ := h
    exact ⟨a, vs, e, sqT_per p hs, RpL.per p ds vs hl⟩
  | .lst ds, v, h => by
    simp only [Rp] at h ⊢
    obtain ⟨a, vs, e, hs, hl⟩ := h
    exact ⟨a, vs, e, sqF_per p hs, RpL.per p ds vs hl⟩
  | .dK ds, v, h => by
    simp only [Rp] at h ⊢
    obtain ⟨a, o, vs, e, hs, hl⟩ := h
    exact ⟨a, o, vs, e, p _ _ trivial hs, RpK.per p ds vs hl⟩
  | .dT ds, v, h => by
    simp only [Rp] at h ⊢
    obtain ⟨a, o, vs, e, hs, hl⟩ := h
    exact ⟨a, o, vs, e, p _ _ trivial hs, RpT.per p ds vs hl⟩
  | .scr ns, v, h => by
    simp only [Rp] at h ⊢
    obtain ⟨a, e, hs⟩ := h
    exact ⟨a, e, sqS_per p hs⟩
theorem RpL.per (p : Per H H') : ∀ (ds : List D) (vs : List V), RpL K H ds vs → RpL K H' ds vs
  | [], vs, h => by simpa only [RpL] using h
  | d :: ds, vs, h => by
    simp only [RpL] at h ⊢
    obtain ⟨v, r, e, h1, h2⟩ := h
    exact ⟨v, r, e, Rp.per p d v h1, RpL.per p ds r h2⟩
theorem RpK.per (p : Per H H') : ∀ (ds : List (Key × D)) (vs : List (Key × V)), RpK K H ds vs → RpK K H' ds vs
  | [], vs, h => by simpa only [RpK] using h
  | (k, d) :: ds, vs, h => by
    simp only [RpK] at h ⊢
    obtain ⟨v, r, e, h1, h2⟩ := h
    exact ⟨v, r, e, Rp.per p d v h1, RpK.per p ds r h2⟩
theorem RpT.per (p : Per H H') : ∀ (ds : List (List Key × D)) (vs : List (List Key × V)), RpT K H ds vs → RpT K H' ds vs
  | [], vs, h => by simpa only [RpT] using h
  | (k, d) :: ds, vs, h => by
    simp only [RpT] at h ⊢
    obtain ⟨v, r, e, h1, h2⟩ := h
    exact ⟨v, r, e, Rp.per p d v h1, RpT.per p ds r h2⟩
end
end
/-! a cell of one's own -/
def Cel (K : PySem.W.Frag) (H : Hp) : D → Addr → Prop
  | .lst ds, a => ∃ vs, H a = some (.lst vs) ∧ RpL K H ds vs
  | .dK kvs, a => ∃ ws, H a = some (.dK ws) ∧ RpK K H kvs ws
  | .dT kvs, a => ∃ ws, H a = some (.dT ws) ∧ RpT K H kvs ws
  | _, _ => False
/-- what is there of a cell: tracked, may change -/
theorem Cel.mut {K : PySem.W.Frag} {H : Hp} {d : D} {a : Addr} (h : Cel K H d a) : ∃ u, H a = some u ∧ ¬ Imm u := by
  cases d <;> simp only [Cel] at h
  · obtain ⟨vs, e, _⟩ := h; exact ⟨_, e, id⟩
  · obtain ⟨vs, e, _⟩ := h; exact ⟨_, e, id⟩
  · obtain ⟨vs, e, _⟩ := h; exact ⟨_, e, id⟩
theorem Cel.keep {K : PySem.W.Frag} {H H' : Hp} {d : D} {a : Addr} (p : Per H H') (k : ∀ o, H a = some o → H' a = some o) (h : Cel K H d a) : Cel K H' d a := by
  cases d <;> simp only [Cel] at h ⊢
  · obtain ⟨vs, e, r⟩ := h; exact ⟨vs, k _ e, RpL.per p _ _ r⟩
  · obtain ⟨vs, e, r⟩ := h; exact ⟨vs, k _ e, RpK.per p _ _ r⟩
  · obtain ⟨vs, e, r⟩ := h; exact ⟨vs, k _ e, RpT.per p _ _ r⟩
/-- readable: what never changes, or a cell as it stands -/
def RpR (K : PySem.W.Frag) (H : Hp) (d : D) (v : V) : Prop := Rp K H d v ∨ ∃ a, v = .ref a ∧ Cel K H d a
theorem RpR.lst {K : PySem.W.Frag} {H : Hp} {ds : List D} {v : V} (h : RpR K H (.lst ds) v) : ∃ a vs, v = .ref a ∧ SqL K H a vs ∧ RpL K H ds vs := by
  rcases h with h | ⟨a, e, h⟩
  · simp only [Rp] at h
    obtain ⟨a, vs, e, hs, hl⟩ := h
    exact ⟨a, vs, e, sqF_sq hs, hl⟩
  · simp only [Cel] at h
    obtain ⟨vs, e', r⟩ := h
    exact ⟨a, vs, e, SqL.of e', r⟩
theorem RpR.rd {K : PySem.W.Frag} {H : Hp} {ds : List D} {v : V} (h : RpR K H (.lst ds) v) : ∃ a vs, v = .ref a ∧ Rd H a (.lst vs) ∧ RpL K H ds vs := by
  rcases h with h | ⟨a, e, h⟩
  · simp only [Rp] at h
    obtain ⟨a, vs, e, ⟨o, hs⟩, hl⟩ := h
    exact ⟨a, vs, e, .inr ⟨o, hs⟩, hl⟩
  · simp only [Cel] at h
    obtain ⟨vs, e', r⟩ := h
    exact ⟨a, vs, e, .inl e', r⟩
theorem RpR.scr {K : PySem.W.Frag} {H : Hp} {ns : List Int} {v : V} (h : RpR K H (.scr ns) v) : ∃ a, v = .ref a ∧ SqL K H a (ns.map V.int) := by
  rcases h with h | ⟨a, e, h⟩
  · simp only [Rp] at h
    obtain ⟨a, e, hs⟩ := h
    exact ⟨a, e, sqS_sq hs⟩
  · exact absurd h (by simp [Cel])
theorem RpR.tup {K : PySem.W.Frag} {H : Hp} {ds : List D} {v : V} (h : RpR K H (.tup ds) v) : ∃ a vs, v = .ref a ∧ SqT K H a vs ∧ RpL K H ds vs := by
  rcases h with h | ⟨a, e, h⟩
  · simpa only [Rp] using h
  · exact absurd h (by simp [Cel])
theorem RpR.int {K : PySem.W.Frag} {H : Hp} {i : Int} {v : V} (h : RpR K H (.int i) v) : v = .int i := by
  rcases h with h | ⟨a, e, h⟩
  · simpa only [Rp] using h
  · exact absurd h (by simp [Cel])
theorem RpR.str {K : PySem.W.Frag} {H : Hp} {i : Str} {v : V} (h : RpR K H (.str i) v) : v = .str i ∧ PyData.strOk i = true := by
  rcases h with h | ⟨a, e, h⟩
  · simpa only [Rp] using h
  · exact absurd h (by simp [Cel])
theorem RpR.bl {K : PySem.W.Frag} {H : Hp} {i : Bool} {v : V} (h : RpR K H (.bl i) v) : v = .bl i := by
  rcases h with h | ⟨a, e, h⟩
  · simpa only [Rp] using h
  · exact absurd h (by simp [Cel])
theorem RpR.non {K : PySem.W.Frag} {H : Hp} {v : V} (h : RpR K H .non v) : v = .non := by
  rcases h with h | ⟨a, e, h⟩
  · simpa only [Rp] using h
  · exact absurd h (by simp [Cel])

/-! the slots -/
inductive Sl where
  | no | sh (d : D) | ow (d : D) | io (d : D)
  deriving Inhabited
abbrev Gm := List Sl
def Own (Γ : Gm) (i : Nat) (d : D) : Prop := Γ[i]? = some (.ow d) ∨ Γ[i]? = some (.io d)
def Cell (Γ : Gm) (σ : L2.St) (a : Addr) : Prop := ∃ i d, Own Γ i d ∧ σ[i]? = some (some (.ref a))
structure EnvOk (K : PySem.W.Frag) (Γ : Gm) (σ : L2.St) (H : Hp) : Prop where
  sh : ∀ (i : Nat) (d : D), Γ[i]? = some (Sl.sh d) → ∃ v, σ[i]? = some (some v) ∧ Rp K H d v
  mu : ∀ (i : Nat) (d : D), Own Γ i d → ∃ a, σ[i]? = some (some (.ref a)) ∧ Cel K H d a
  df : ∀ (i j : Nat) (d e : D) (a : Addr), Own Γ i d → Own Γ j e → σ[i]? = some (some (.ref a)) → σ[j]? = some (some (.ref a)) → i = j
  len : σ.length = Γ.length
section
variable {K : PySem.W.Frag} {Γ Γ' Γ1 Γ2 : Gm} {σ σ' σ1 σ2 : L2.St} {H H' H1 H2 : Hp} {a : Addr}
theorem EnvOk.cell (e : EnvOk K Γ σ H) (c : Cell Γ σ a) : ∃ d, Cel K H d a := by
  obtain ⟨i, d, o, h⟩ := c
  obtain ⟨b, h', c⟩ := e.mu i d o
  rw [h] at h'
  injection h' with h'
  injection h' with h'
  injection h' with h'
  subst h'
  exact ⟨d, c⟩
theorem EnvOk.cellMut (e : EnvOk K Γ σ H) (c : Cell Γ σ a) : ∃ u, H a = some u ∧ ¬ Imm u := by
  obtain ⟨d, c⟩ := e.cell c
  exact c.mut
/-- from one state to a later one -/
structure Ste (K : PySem.W.Frag) (Γ : Gm) (σ : L2.St) (H : Hp) (Γ' : Gm) (σ' : L2.St) (H' : Hp) : Prop where
  e0 : EnvOk K Γ σ H
  env : EnvOk K Γ' σ' H'
  keep : ∀ (a : Addr) (o : HO), H a = some o → ¬ Cell Γ σ a → H' a = some o
  live : ∀ a, H' a = none → H a = none
  sub : ∀ a, Cell Γ' σ' a → Cell Γ σ a ∨ H a = none
  io : ∀ (i : Nat) (d : D), Γ[i]? = some (Sl.io d) → (∃ d' : D, Γ'[i]? = some (Sl.io d')) ∧ σ'[i]? = σ[i]?
  gl : Γ'.length = Γ.length
  sl : σ'.length = σ.length
theorem Ste.refl (e : EnvOk K Γ σ H) : Ste K Γ σ H Γ σ H := ⟨e, e, fun _ _ h _ => h, fun _ h => h, fun _ h => .inl h, fun i d h => ⟨⟨d, h⟩, rfl⟩, rfl, rfl⟩
theorem Ste.trans (A : Ste K Γ σ H Γ1 σ1 H1) (B : Ste K Γ1 σ1 H1 Γ2 σ2 H2) : Ste K Γ σ H Γ2 σ2 H2 where
  e0 := A.e0
  env := B.env
  keep := fun a o h n => B.keep a o (A.keep a o h n) fun c => by
    rcases A.sub a c with c | c
    · exact n c
    · rw [c] at h; cases h
  live := fun a h => A.live a (B.live a h)
  sub := fun a c => by
    rcases B.sub a c with c | c
    · exact A.sub a c
    · exact .inr (A.live a c)
  io := fun i d h => by
    obtain ⟨⟨d1, h1⟩, e1⟩ := A.io i d h
    obtain ⟨h2, e2⟩ := B.io i d1 h1
    exact ⟨h2, e2.trans e1⟩
  gl := B.gl.trans A.gl
  sl := B.sl.trans A.sl
theorem Ste.per (A : Ste K Γ σ H Γ' σ' H') : Per H H' := fun a o i h => A.keep a o h fun c => by
  obtain ⟨u, e, n⟩ := A.e0.cellMut c
  rw [h] at e
  cases e
  exact n i
/-- the heap has only grown -/
theorem EnvOk.same (e : EnvOk K Γ σ H) (s : Same H H') : EnvOk K Γ σ H' where
  sh := fun i d h => by
    obtain ⟨v, h1, h2⟩ := e.sh i d h
    exact ⟨v, h1, Rp.per (Per.of_same s) d v h2⟩
  mu := fun i d h => by
    obtain ⟨a, h1, h2⟩ := e.mu i d h
    exact ⟨a, h1, h2.keep (Per.of_same s) (s a)⟩
  df := e.df
  len := e.len
theorem Ste.same (e : EnvOk K Γ σ H) (s : Same H H') : Ste K Γ σ H Γ σ H' where
  e0 := e
  env := e.same s
  keep := fun a o h _ => s a o h
  live := fun a h => by
    cases h1 : H a with
    | none => rfl
    | some o => rw [s a o h1] at h; cases h
  sub := fun _ c => .inl c
  io := fun i d h => ⟨⟨d, h⟩, rfl⟩
  gl := rfl
  sl := rfl
end
end Sv

namespace Sv
open PySem PySem.Spec PyProof.Rows L2
inductive Rs where
  | val (d : D) | new (d : D) | slot (i : Nat)
  deriving Inhabited
/-- a value that waits -/
def Pd (K : PySem.W.Frag) (Γ : Gm) (σ : L2.St) (H : Hp) : Rs → V → Prop
  | .val d, v => Rp K H d v
  | .new d, v => ∃ a, v = .ref a ∧ Cel K H d a ∧ ¬ Cell Γ σ a
  | .slot i, v => σ[i]? = some (some v)
def Orig (Γ : Gm) (σ : L2.St) (H : Hp) : Rs → V → Prop
  | .new _, v => ∀ a, v = .ref a → Cell Γ σ a ∨ H a = none
  | _, _ => True
section
variable {K : PySem.W.Frag} {Γ Γ' Γ0 Γ1 Γ2 : Gm} {σ σ' σ0 σ1 σ2 : L2.St} {H H' H0 H1 H2 : Hp} {a : Addr} {r : Rs} {v : V}
theorem Ste.noCell (A : Ste K Γ σ H Γ' σ' H') {u : HO} (h : H a = some u) (n : ¬ Cell Γ σ a) : ¬ Cell Γ' σ' a := fun c => by
  rcases A.sub a c with c | c
  · exact n c
  · rw [c] at h; cases h
theorem Pd.ste (A : Ste K Γ σ H Γ' σ H') (h : Pd K Γ σ H r v) : Pd K Γ' σ H' r v := by
  cases r with
  | val d => exact Rp.per A.per d v h
  | new d =>
    obtain ⟨a, e, c, n⟩ := h
    obtain ⟨u, hu, _⟩ := c.mut
    exact ⟨a, e, c.keep A.per (fun o ho => A.keep a o ho n), A.noCell hu n⟩
  | slot i => exact h
theorem Orig.ste (A : Ste K Γ0 σ0 H0 Γ σ H) (h : Orig Γ σ H r v) : Orig Γ0 σ0 H0 r v := by
  cases r with
  | val d => trivial
  | slot i => trivial
  | new d =>
    intro a e
    rcases h a e with c | c
    · exact A.sub a c
    · exact .inr (A.live a c)
def isNew : Rs → Bool
  | .new _ => true
  | _ => false
/-- values that wait, in a row; the new ones apart -/
def Pds (K : PySem.W.Frag) (Γ : Gm) (σ : L2.St) (H : Hp) : List Rs → List V → Prop
  | [], vs => vs = []
  | r :: rs, vs => ∃ v ws, vs = v :: ws ∧ Pd K Γ σ H r v ∧ Pds K Γ σ H rs ws ∧ (isNew r = true → ∀ p ∈ rs.zip ws, isNew p.1 = true → p.2 ≠ v)
def Origs (Γ : Gm) (σ : L2.St) (H : Hp) (rs : List Rs) (vs : List V) : Prop := ∀ p ∈ rs.zip vs, Orig Γ σ H p.1 p.2
theorem Pds.ste (A : Ste K Γ σ H Γ' σ H') : ∀ (rs : List Rs) (vs : List V), Pds K Γ σ H rs vs → Pds K Γ' σ H' rs vs
  | [], _, h => h
  | r :: rs, vs, h => by
    obtain ⟨v, ws, e, h1, h2, h3⟩ := h
    exact ⟨v, ws, e, h1.ste A, Pds.ste A rs ws h2, h3⟩
theorem Pds.length : ∀ (rs : List Rs) (vs : List V), Pds K Γ σ H rs vs → vs.length = rs.length
  | [], _, h => by cases h; rfl
  | r :: rs, vs, h => by
    obtain ⟨v, ws, e, h1, h2, h3⟩ := h
    rw [e, List.length_cons, List.length_cons, Pds.length rs ws h2]
/-! the readings -/
def rdE (K : PySem.W.Frag) (Γ : Gm) (r : Rs) (Γ' : Gm) : TE := fun σ H Q => EnvOk K Γ σ H ∧ ∀ v H', Ste K Γ σ H Γ' σ H' → Pd K Γ' σ H' r v → Orig Γ σ H r v → Q v H'
def rdA (K : PySem.W.Frag) (Γ : Gm) (rs : List Rs) (Γ' : Gm) : TA := fun σ H Q => EnvOk K Γ σ H ∧ ∀ vs H', Ste K Γ σ H Γ' σ H' → Pds K Γ' σ H' rs vs → Origs Γ σ H rs vs → Q vs H'
def rdC (K : PySem.W.Frag) (Γ : Gm) (ds : List D) (Γ' : Gm) : TA := fun σ H Q => EnvOk K Γ σ H ∧ ∀ vs H', Ste K Γ σ H Γ' σ H' → RpL K H' ds vs → Q vs H'
def rdT (K : PySem.W.Frag) (Γ : Gm) (b : Bool) (Γ' : Gm) : TT := fun σ H Q => EnvOk K Γ σ H ∧ ∀ H', Ste K Γ σ H Γ' σ H' → Q b H'
def DE (X : Cx) (e : Expr) (Γ : Gm) (r : Rs) (Γ' : Gm) : Prop := PE X e (rdE X.K Γ r Γ')
def DA (X : Cx) (es : List Expr) (Γ : Gm) (rs : List Rs) (Γ' : Gm) : Prop := PA X es (rdA X.K Γ rs Γ')
def DC (X : Cx) (es : List Expr) (Γ : Gm) (ds : List D) (Γ' : Gm) : Prop := PA X es (rdC X.K Γ ds Γ')
def DT (X : Cx) (e : Expr) (Γ : Gm) (b : Bool) (Γ' : Gm) : Prop := PT X e (rdT X.K Γ b Γ')
/-- the reading may be made weaker -/
theorem pe_sub {X : Cx} {e : Expr} {t t' : TE} (h : PE X e t) (w : ∀ σ H Q, t' σ H Q → t σ H Q) : PE X e t' := ⟨fun pins s σ H Q I q => h.run pins s σ H Q I (w σ H Q q)⟩
theorem pt_sub {X : Cx} {e : Expr} {t t' : TT} (h : PT X e t) (w : ∀ σ H Q, t' σ H Q → t σ H Q) : PT X e t' := ⟨fun pins s σ H Q I q => h.run pins s σ H Q I (w σ H Q q)⟩
theorem pa_sub {X : Cx} {e : List Expr} {t t' : TA} (h : PA X e t) (w : ∀ σ H Q, t' σ H Q → t σ H Q) : PA X e t' := ⟨fun pos pins s σ H Q I q => h.run pos pins s σ H Q I (w σ H Q q)⟩
theorem ps_sub {X : Cx} {e : Stmt} {t t' : TS} (h : PS X e t) (w : ∀ D σ H, t' D σ H → t D σ H) : PS X e t' := ⟨fun pins s σ H D I q => h.run pins s σ H D I (w D σ H q)⟩
theorem pss_sub {X : Cx} {e : List Stmt} {t t' : TS} (h : PSs X e t) (w : ∀ D σ H, t' D σ H → t D σ H) : PSs X e t' := ⟨fun pins s σ H D I q => h.run pins s σ H D I (w D σ H q)⟩
theorem da_nil {X : Cx} {Γ : Gm} : DA X [] Γ [] Γ := pa_sub pa_nil fun σ H Q q => q.2 [] H (Ste.refl q.1) rfl (fun _ h => by simp at h)
theorem da_cons {X : Cx} {e : Expr} {es : List Expr} {Γ Γ1 Γ2 : Gm} {r : Rs} {rs : List Rs} (h : DE X e Γ r Γ1) (hs : DA X es Γ1 rs Γ2)
    (st : starEach (e :: es) X.env = (false, eval e X.env) :: starEach es X.env) : DA X (e :: es) Γ (r :: rs) Γ2 := by
  refine pa_sub (pa_cons h hs st) fun σ H Q q => ⟨q.1, fun v H1 s1 p1 o1 => ⟨s1.env, fun vs H2 s2 p2 o2 => q.2 (v :: vs) H2 (s1.trans s2) ⟨v, vs, rfl, p1.ste s2, p2, fun n p hp np e => ?_⟩ fun p hp => ?_⟩⟩
  · cases r with
    | val d => cases n
    | slot i => cases n
    | new d =>
      obtain ⟨a, ea, c, nc⟩ := p1
      obtain ⟨u, hu, _⟩ := c.mut
      have oo := o2 p hp
      cases hr : p.1 with
      | val d => rw [hr] at np; cases np
      | slot i => rw [hr] at np; cases np
      | new d' =>
        rw [hr] at oo
        rcases oo a (e.trans ea) with c | c
        · exact nc c
        · rw [c] at hu; cases hu
  · rw [List.zip_cons_cons, List.mem_cons] at hp
    rcases hp with rfl | hp
    · exact o1
    · exact (o2 p hp).ste s1
end
end Sv

namespace Sv
open PySem PySem.Spec PyProof.Rows L2
section
variable {K : PySem.W.Frag} {Γ Γ' Γ0 Γ1 Γ2 : Gm} {σ σ' σ0 σ1 σ2 : L2.St} {H H' H0 H1 H2 : Hp} {a : Addr} {r : Rs} {v : V}
theorem per_frz {u : HO} {o : Obj} (h : H a = some u) (n : ¬ Imm u) : Per H (upd H a (.frz o u)) := fun b w i e => by
  by_cases z : b = a
  · subst z
    rw [h] at e
    cases e
    exact absurd i n
  · rw [upd_ne z]
    exact e
theorem Cel.frz {d : D} (c : Cel K H d a) : ∃ u, H a = some u ∧ L2.Mut (some u) ∧ ¬ Imm u ∧ ∀ o, Rp K (upd H a (.frz o u)) d (.ref a) := by
  cases d with
  | lst ds =>
    obtain ⟨vs, e, r⟩ := c
    refine ⟨_, e, trivial, id, fun o => ?_⟩
    simp only [Rp]
    exact ⟨a, vs, rfl, ⟨o, upd_same⟩, RpL.per (per_frz e id) _ _ r⟩
  | dK ds =>
    obtain ⟨vs, e, r⟩ := c
    refine ⟨_, e, trivial, id, fun o => ?_⟩
    simp only [Rp]
    exact ⟨a, o, vs, rfl, upd_same, RpK.per (per_frz e id) _ _ r⟩
  | dT ds =>
    obtain ⟨vs, e, r⟩ := c
    refine ⟨_, e, trivial, id, fun o => ?_⟩
    simp only [Rp]
    exact ⟨a, o, vs, rfl, upd_same, RpT.per (per_frz e id) _ _ r⟩
  | _ => exact absurd c (by simp [Cel])
/-- a cell elsewhere -/
theorem Cel.other {d : D} {b : Addr} {u : HO} {o : Obj} (h : H a = some u) (n : ¬ Imm u) (c : Cel K H d b) (ne : b ≠ a) : Cel K (upd H a (.frz o u)) d b :=
  c.keep (per_frz h n) fun w e => by rw [upd_ne ne]; exact e
/-- a new cell frozen -/
theorem Ste.frzNew {u : HO} {o : Obj} (A : Ste K Γ0 σ0 H0 Γ σ H) (h : H a = some u) (n : ¬ Imm u) (nc : ¬ Cell Γ σ a) (og : Cell Γ0 σ0 a ∨ H0 a = none) : Ste K Γ0 σ0 H0 Γ σ (upd H a (.frz o u)) where
  e0 := A.e0
  env := {
    sh := fun i d e => by
      obtain ⟨v, h1, h2⟩ := A.env.sh i d e
      exact ⟨v, h1, Rp.per (per_frz h n) d v h2⟩
    mu := fun i d e => by
      obtain ⟨b, h1, h2⟩ := A.env.mu i d e
      exact ⟨b, h1, h2.other h n fun z => nc (by subst z; exact ⟨i, d, e, h1⟩)⟩
    df := A.env.df
    len := A.env.len }
  keep := fun b w e nb => by
    have := A.keep b w e nb
    by_cases z : b = a
    · subst z
      rcases og with c | c
      · exact absurd c nb
      · rw [c] at e; cases e
    · rw [upd_ne z]; exact this
  live := fun b e => by
    by_cases z : b = a
    · subst z; rw [upd_same] at e; cases e
    · rw [upd_ne z] at e; exact A.live b e
  sub := A.sub
  io := A.io
  gl := A.gl
  sl := A.sl
theorem get_set_self {α : Type} {l : List α} {i : Nat} {x y : α} (h : l[i]? = some x) : (l.set i y)[i]? = some y := by
  rw [List.getElem?_set_self]
  exact (List.getElem?_eq_some_iff.1 h).1
theorem get_set_ne {α : Type} {l : List α} {i j : Nat} {y : α} (h : i ≠ j) : (l.set i y)[j]? = l[j]? := List.getElem?_set_ne h
theorem own_set_ne {i j : Nat} {s : Sl} {d : D} (h : i ≠ j) : Own (Γ.set i s) j d ↔ Own Γ j d := by
  unfold Own
  rw [get_set_ne h]
/-- a slot's own cell frozen -/
theorem Ste.frzSlot {u : HO} {o : Obj} {i : Nat} {d : D} (A : Ste K Γ0 σ0 H0 Γ σ H) (hg : Γ[i]? = some (.ow d)) (hs : σ[i]? = some (some (.ref a))) (h : H a = some u) (n : ¬ Imm u) (rp : Rp K (upd H a (.frz o u)) d (.ref a))
    : Ste K Γ0 σ0 H0 (Γ.set i (.sh d)) σ (upd H a (.frz o u)) where
  e0 := A.e0
  env := {
    sh := fun j e hj => by
      by_cases z : i = j
      · subst z
        rw [get_set_self hg] at hj
        cases hj
        exact ⟨_, hs, rp⟩
      · rw [get_set_ne z] at hj
        obtain ⟨v, h1, h2⟩ := A.env.sh j e hj
        exact ⟨v, h1, Rp.per (per_frz h n) e v h2⟩
    mu := fun j e hj => by
      by_cases z : i = j
      · subst z
        rcases hj with hj | hj
        · rw [get_set_self hg] at hj; cases hj
        · rw [get_set_self hg] at hj; cases hj
      · rw [own_set_ne z] at hj
        obtain ⟨b, h1, h2⟩ := A.env.mu j e hj
        refine ⟨b, h1, h2.other h n fun y => z ?_⟩
        subst y
        exact A.env.df i j d e b (.inl hg) hj hs h1
    df := fun j k e f b hj hk => by
      by_cases z : i = j
      · subst z
        rcases hj with hj | hj
        · rw [get_set_self hg] at hj; cases hj
        · rw [get_set_self hg] at hj; cases hj
      · by_cases y : i = k
        · subst y
          rcases hk with hk | hk
          · rw [get_set_self hg] at hk; cases hk
          · rw [get_set_self hg] at hk; cases hk
        · rw [own_set_ne z] at hj
          rw [own_set_ne y] at hk
          exact A.env.df j k e f b hj hk
    len := by rw [List.length_set]; exact A.env.len }
  keep := fun b w e nb => by
    have := A.keep b w e nb
    by_cases z : b = a
    · subst z
      rcases A.sub b ⟨i, d, .inl hg, hs⟩ with c | c
      · exact absurd c nb
      · rw [c] at e; cases e
    · rw [upd_ne z]; exact this
  live := fun b e => by
    by_cases z : b = a
    · subst z; rw [upd_same] at e; cases e
    · rw [upd_ne z] at e; exact A.live b e
  sub := fun b c => by
    obtain ⟨j, e, hj, hb⟩ := c
    by_cases z : i = j
    · subst z
      rcases hj with hj | hj
      · rw [get_set_self hg] at hj; cases hj
      · rw [get_set_self hg] at hj; cases hj
    · rw [own_set_ne z] at hj
      exact A.sub b ⟨j, e, hj, hb⟩
  io := fun j e hj => by
    obtain ⟨⟨e', h1⟩, h2⟩ := A.io j e hj
    have z : i ≠ j := fun z => by subst z; rw [hg] at h1; cases h1
    exact ⟨⟨e', by rw [get_set_ne z]; exact h1⟩, h2⟩
  gl := by rw [List.length_set]; exact A.gl
  sl := A.sl
/-! taking what waits -/
def takeR : Rs → Gm → Option (D × Gm)
  | .val d, Γ => some (d, Γ)
  | .new d, Γ => some (d, Γ)
  | .slot i, Γ => match Γ[i]? with
    | some (.sh d) => some (d, Γ)
    | some (.ow d) => some (d, Γ.set i (.sh d))
    | _ => none
def takeRs : List Rs → Gm → Option (List D × Gm)
  | [], Γ => some ([], Γ)
  | r :: rs, Γ => match takeR r Γ with
    | none => none
    | some (d, Γ1) => match takeRs rs Γ1 with
      | none => none
      | some (ds, Γ2) => some (d :: ds, Γ2)
/-- the other waiting ones stay, behind a slot's or a new cell's freezing -/
theorem Pds.frz {u : HO} {o : Obj} (h : H a = some u) (n : ¬ Imm u) (hc : ∀ b, Cell Γ' σ b → Cell Γ σ b) : ∀ (rs : List Rs) (vs : List V), (∀ p ∈ rs.zip vs, isNew p.1 = true → p.2 ≠ .ref a) → Pds K Γ σ H rs vs → Pds K Γ' σ (upd H a (.frz o u)) rs vs
  | [], _, _, q => q
  | r :: rs, vs, hn, q => by
    obtain ⟨v, ws, e, h1, h2, h3⟩ := q
    subst e
    refine ⟨v, ws, rfl, ?_, Pds.frz h n hc rs ws (fun p hp => hn p (by rw [List.zip_cons_cons]; exact List.mem_cons_of_mem _ hp)) h2, h3⟩
    cases r with
    | val d => exact Rp.per (per_frz h n) d v h1
    | slot i => exact h1
    | new d =>
      obtain ⟨b, e, c, nb⟩ := h1
      exact ⟨b, e, c.other h n (fun z => hn (.new d, v) (by rw [List.zip_cons_cons]; exact List.mem_cons_self) rfl (by rw [e, z])), fun cc => nb (hc b cc)⟩
end
section
variable {X : Cx} {pins : List (Addr × Obj)} {s : Shared} {K : PySem.W.Frag} {Γ Γ' Γ0 Γ1 Γ2 : Gm} {σ σ' σ0 σ1 σ2 : L2.St} {H H' H0 H1 H2 : Hp} {a : Addr} {r : Rs} {v : V}
theorem take_ok {d : D} {rs : List Rs} {vs : List V} (I : Inv X pins σ H s) (A : Ste K Γ0 σ0 H0 Γ σ H) (p : Pd K Γ σ H r v) (og : Orig Γ0 σ0 H0 r v) (ps : Pds K Γ σ H rs vs)
    (hd : isNew r = true → ∀ p ∈ rs.zip vs, isNew p.1 = true → p.2 ≠ v) (h : takeR r Γ = some (d, Γ')) :
    ∃ H', Inv X pins σ H' s ∧ Ste K Γ0 σ0 H0 Γ' σ H' ∧ Rp K H' d v ∧ Pds K Γ' σ H' rs vs ∧ Per H H' := by
  cases r with
  | val e =>
    simp only [takeR, Option.some.injEq, Prod.mk.injEq] at h
    obtain ⟨rfl, rfl⟩ := h
    exact ⟨H, I, A, p, ps, Per.refl H⟩
  | new e =>
    simp only [takeR, Option.some.injEq, Prod.mk.injEq] at h
    obtain ⟨rfl, rfl⟩ := h
    obtain ⟨a, rfl, c, nc⟩ := p
    obtain ⟨u, hu, mu, ni, rp⟩ := c.frz
    obtain ⟨o, I1⟩ := I.lock hu mu
    exact ⟨_, I1, A.frzNew hu ni nc (og a rfl), rp o, Pds.frz hu ni (fun _ h => h) rs vs (hd rfl) ps, per_frz hu ni⟩
  | slot i =>
    simp only [takeR] at h
    cases hg : Γ[i]? with
    | none => rw [hg] at h; cases h
    | some sl =>
      rw [hg] at h
      cases sl with
      | no => cases h
      | io e => cases h
      | sh e =>
        simp only [Option.some.injEq, Prod.mk.injEq] at h
        obtain ⟨rfl, rfl⟩ := h
        obtain ⟨w, h1, h2⟩ := A.env.sh i e hg
        rw [show σ[i]? = some (some v) from p] at h1
        cases h1
        exact ⟨H, I, A, h2, ps, Per.refl H⟩
      | ow e =>
        simp only [Option.some.injEq, Prod.mk.injEq] at h
        obtain ⟨rfl, rfl⟩ := h
        obtain ⟨a, h1, c⟩ := A.env.mu i e (.inl hg)
        have p' : σ[i]? = some (some v) := p
        rw [p'] at h1
        cases h1
        obtain ⟨u, hu, mu, ni, rp⟩ := c.frz
        obtain ⟨o, I1⟩ := I.lock hu mu
        have B := A.frzSlot hg p' hu ni (rp o)
        refine ⟨_, I1, B, rp o, Pds.frz hu ni (fun b cc => ?_) rs vs (fun p hp np z => ?_) ps, per_frz hu ni⟩
        · obtain ⟨j, f, hj, hb⟩ := cc
          by_cases z : i = j
          · subst z
            rcases hj with hj | hj
            · rw [get_set_self hg] at hj; cases hj
            · rw [get_set_self hg] at hj; cases hj
          · rw [own_set_ne z] at hj
            exact ⟨j, f, hj, hb⟩
        · have key : ∀ (rs : List Rs) (vs : List V), Pds K Γ σ H rs vs → ∀ q ∈ rs.zip vs, isNew q.1 = true → ∃ b, q.2 = .ref b ∧ ¬ Cell Γ σ b := by
            intro rs
            induction rs with
            | nil => intro vs _ q hq; simp at hq
            | cons r rs ih =>
              intro vs hh q hq nq
              obtain ⟨w, ws, e, h1, h2, h3⟩ := hh
              subst e
              rw [List.zip_cons_cons, List.mem_cons] at hq
              rcases hq with rfl | hq
              · cases r with
                | val d => cases nq
                | slot i => cases nq
                | new d =>
                  obtain ⟨b, e, _, nb⟩ := h1
                  exact ⟨b, e, nb⟩
              · exact ih ws h2 q hq nq
          obtain ⟨b, e, nb⟩ := key rs vs ps p hp np
          rw [z] at e
          cases e
          exact nb ⟨i, _, .inl hg, p'⟩
theorem takes_ok : ∀ {ds : List D} {rs : List Rs} {vs : List V} {Γ Γ' : Gm} {H : Hp}, Inv X pins σ H s → Ste K Γ0 σ0 H0 Γ σ H → Pds K Γ σ H rs vs → Origs Γ0 σ0 H0 rs vs → takeRs rs Γ = some (ds, Γ') →
    ∃ H', Inv X pins σ H' s ∧ Ste K Γ0 σ0 H0 Γ' σ H' ∧ RpL K H' ds vs ∧ Per H H' := by
  intro ds rs
  induction rs generalizing ds with
  | nil =>
    intro vs Γ Γ' H I A p og h
    simp only [takeRs, Option.some.injEq, Prod.mk.injEq] at h
    obtain ⟨rfl, rfl⟩ := h
    exact ⟨H, I, A, by simp only [RpL]; exact p, Per.refl H⟩
  | cons r rs ih =>
    intro vs Γ Γ' H I A p og h
    obtain ⟨v, ws, e, h1, h2, h3⟩ := p
    subst e
    simp only [takeRs] at h
    cases ht : takeR r Γ with
    | none => rw [ht] at h; cases h
    | some q =>
      obtain ⟨d, Γ1⟩ := q
      rw [ht] at h
      simp only at h
      cases ht2 : takeRs rs Γ1 with
      | none => rw [ht2] at h; cases h
      | some q =>
        obtain ⟨ds', Γ2⟩ := q
        rw [ht2] at h
        simp only [Option.some.injEq, Prod.mk.injEq] at h
        obtain ⟨rfl, rfl⟩ := h
        obtain ⟨H1, I1, A1, rp, ps1, pr1⟩ := take_ok I A h1 (og _ (by rw [List.zip_cons_cons]; exact List.mem_cons_self)) h2 h3 ht
        obtain ⟨H2, I2, A2, rps, pr2⟩ := ih I1 A1 ps1 (fun p hp => og p (by rw [List.zip_cons_cons]; exact List.mem_cons_of_mem _ hp)) ht2
        refine ⟨H2, I2, A2, ?_, pr1.trans pr2⟩
        simp only [RpL]
        exact ⟨v, ws, rfl, Rp.per pr2 d v rp, rps⟩
end
/-- what waits is taken: an argument list -/
theorem dc_take {X : Cx} {es : List Expr} {Γ Γ1 Γ2 : Gm} {rs : List Rs} {ds : List D} (h : DA X es Γ rs Γ1) (ht : takeRs rs Γ1 = some (ds, Γ2)) : DC X es Γ ds Γ2 := by
  refine ⟨fun pos pins s σ H Q I q => ?_⟩
  refine thn (h.run pos pins s σ H (fun vs H1 => Ste X.K Γ σ H Γ1 σ H1 ∧ Pds X.K Γ1 σ H1 rs vs ∧ Origs Γ σ H rs vs) I ⟨q.1, fun vs H1 a b c => ⟨a, b, c⟩⟩) fun us s' hh => ?_
  obtain ⟨vs, H1, I1, rv, A, p, og⟩ := hh
  obtain ⟨H2, I2, B, rp, _⟩ := takes_ok I1 A p og ht
  exact ⟨vs, H2, I2, rv, q.2 vs H2 B rp⟩
/-- .. one expression -/
theorem de_take {X : Cx} {e : Expr} {Γ Γ1 Γ2 : Gm} {r : Rs} {d : D} (h : DE X e Γ r Γ1) (ht : takeR r Γ1 = some (d, Γ2)) : DE X e Γ (.val d) Γ2 := by
  refine ⟨fun pins s σ H Q I q => ?_⟩
  refine thn (h.run pins s σ H (fun v H1 => Ste X.K Γ σ H Γ1 σ H1 ∧ Pd X.K Γ1 σ H1 r v ∧ Orig Γ σ H r v) I ⟨q.1, fun vs H1 a b c => ⟨a, b, c⟩⟩) fun us s' hh => ?_
  obtain ⟨v, H1, I1, rv, A, p, og⟩ := hh
  obtain ⟨H2, I2, B, rp, _, _⟩ := take_ok I1 A p og (rs := []) (vs := []) rfl (fun _ _ h => by simp at h) ht
  exact ⟨v, H2, I2, rv, q.2 v H2 B rp trivial⟩
end Sv

namespace Sv
open PySem PySem.Spec PyProof.Rows L2
def readR : Rs → Gm → Option D
  | .val d, _ => some d
  | .new d, _ => some d
  | .slot i, Γ => match Γ[i]? with
    | some (.sh d) => some d
    | some (.ow d) => some d
    | some (.io d) => some d
    | _ => none
def readRs : List Rs → Gm → Option (List D)
  | [], _ => some []
  | r :: rs, Γ => match readR r Γ with
    | none => none
    | some d => match readRs rs Γ with
      | none => none
      | some ds => some (d :: ds)
def RpRL (K : PySem.W.Frag) (H : Hp) : List D → List V → Prop
  | [], vs => vs = []
  | d :: ds, vs => ∃ v r, vs = v :: r ∧ RpR K H d v ∧ RpRL K H ds r
section
variable {K : PySem.W.Frag} {Γ Γ' Γ0 Γ1 Γ2 : Gm} {σ σ' σ0 σ1 σ2 : L2.St} {H H' H0 H1 H2 : Hp} {a : Addr} {r : Rs} {v : V}
theorem read_ok {d : D} (e : EnvOk K Γ σ H) (p : Pd K Γ σ H r v) (h : readR r Γ = some d) : RpR K H d v := by
  cases r with
  | val d' =>
    simp only [readR, Option.some.injEq] at h
    subst h
    exact .inl p
  | new d' =>
    simp only [readR, Option.some.injEq] at h
    subst h
    obtain ⟨a, e, c, _⟩ := p
    exact .inr ⟨a, e, c⟩
  | slot i =>
    simp only [readR] at h
    have p' : σ[i]? = some (some v) := p
    cases hg : Γ[i]? with
    | none => rw [hg] at h; cases h
    | some sl =>
      rw [hg] at h
      cases sl with
      | no => cases h
      | sh e1 =>
        cases h
        obtain ⟨w, h1, h2⟩ := e.sh i _ hg
        rw [p'] at h1
        cases h1
        exact .inl h2
      | ow e1 =>
        cases h
        obtain ⟨w, h1, h2⟩ := e.mu i _ (.inl hg)
        rw [p'] at h1
        cases h1
        exact .inr ⟨w, rfl, h2⟩
      | io e1 =>
        cases h
        obtain ⟨w, h1, h2⟩ := e.mu i _ (.inr hg)
        rw [p'] at h1
        cases h1
        exact .inr ⟨w, rfl, h2⟩
theorem reads_ok (e : EnvOk K Γ σ H) : ∀ {rs : List Rs} {vs : List V} {ds : List D}, Pds K Γ σ H rs vs → readRs rs Γ = some ds → RpRL K H ds vs
  | [], vs, ds, p, h => by
    simp only [readRs, Option.some.injEq] at h
    subst h
    exact p
  | r :: rs, vs, ds, p, h => by
    obtain ⟨v, ws, ev, h1, h2, h3⟩ := p
    simp only [readRs] at h
    cases hr : readR r Γ with
    | none => rw [hr] at h; cases h
    | some d =>
      rw [hr] at h
      simp only at h
      cases hrs : readRs rs Γ with
      | none => rw [hrs] at h; cases h
      | some ds' =>
        rw [hrs] at h
        cases h
        exact ⟨v, ws, ev, read_ok e h1 hr, reads_ok e h2 hrs⟩
/-- what an operation on values hands back, the heap having grown -/
def Fr (K : PySem.W.Frag) (H : Hp) : Rs → V → Hp → Prop
  | .val d, v, H' => Rp K H' d v
  | .new d, v, H' => ∃ a, v = .ref a ∧ H a = none ∧ Cel K H' d a
  | .slot _, _, _ => False
theorem Fr.lift (e : EnvOk K Γ σ H) (s : Same H H') (f : Fr K H r v H') : Ste K Γ σ H Γ σ H' ∧ Pd K Γ σ H' r v ∧ Orig Γ σ H r v := by
  refine ⟨Ste.same e s, ?_⟩
  cases r with
  | val d => exact ⟨f, trivial⟩
  | slot i => exact f.elim
  | new d =>
    obtain ⟨a, rfl, hn, c⟩ := f
    refine ⟨⟨a, rfl, c, fun cc => ?_⟩, fun b eb => .inr (by cases eb; exact hn)⟩
    obtain ⟨u, hu, _⟩ := e.cellMut cc
    rw [hn] at hu
    cases hu
theorem same_new {p : Addr} {o : HO} (h : H p = none) : Same H (upd H p o) := fun b x e => by
  rw [upd_ne (ne_of_none e h)]
  exact e
theorem same_refl (H : Hp) : Same H H := fun _ _ h => h
/-- two-place operations, one-place ones, calls: by data -/
def OpS (K : PySem.W.Frag) (o : R2) (d1 d2 : D) (r : Rs) : Prop := ∀ (H : Hp) (x y : V) (Q : VK), RpR K H d1 x → RpR K H d2 y → (∀ v H', Same H H' → Fr K H r v H' → Q v H') → o x y H Q
def UnS (K : PySem.W.Frag) (o : V → Hp → VK → Prop) (d1 : D) (r : Rs) : Prop := ∀ (H : Hp) (x : V) (Q : VK), RpR K H d1 x → (∀ v H', Same H H' → Fr K H r v H' → Q v H') → o x H Q
def CaS (K : PySem.W.Frag) (o : List V → Hp → VK → Prop) (ds : List D) (r : Rs) : Prop := ∀ (H : Hp) (xs : List V) (Q : VK), RpRL K H ds xs → (∀ v H', Same H H' → Fr K H r v H' → Q v H') → o xs H Q
end
section
variable {X : Cx} {Γ Γ1 Γ2 Γ3 : Gm} {a b c : Expr} {r r1 r2 r3 : Rs} {d d1 d2 d3 : D} {pos : Pos} {op op' : CmpOp}
theorem de_bin {op : Operator} {o : R2} (ho : OpR X (binaryOp op) o) (ha : DE X a Γ r1 Γ1) (hb : DE X b Γ1 r2 Γ2) (h1 : readR r1 Γ2 = some d1) (h2 : readR r2 Γ2 = some d2) (hs : OpS X.K o d1 d2 r) : DE X (.BinOp a op b pos) Γ r Γ2 :=
  pe_sub (pe_op ho ha hb) fun σ H Q q => ⟨q.1, fun x H1 s1 p1 o1 => ⟨s1.env, fun y H2 s2 p2 o2 => hs H2 x y _ (read_ok s2.env (p1.ste s2) h1) (read_ok s2.env p2 h2) fun v H3 sm f => by
    obtain ⟨s3, p3, o3⟩ := f.lift s2.env sm
    exact q.2 v H3 ((s1.trans s2).trans s3) p3 (o3.ste (s1.trans s2))⟩⟩
theorem de_cmp {o : R2} (ho : OpR X (compareOp op) o) (ha : DE X a Γ r1 Γ1) (hb : DE X b Γ1 r2 Γ2) (hm : behindInMarks op b = false) (h1 : readR r1 Γ2 = some d1) (h2 : readR r2 Γ2 = some d2) (hs : OpS X.K o d1 d2 r) : DE X (.Compare a [op] [b] pos) Γ r Γ2 :=
  pe_sub (pe_cmpR ho ha hb hm) fun σ H Q q => ⟨q.1, fun x H1 s1 p1 o1 => ⟨s1.env, fun y H2 s2 p2 o2 => hs H2 x y _ (read_ok s2.env (p1.ste s2) h1) (read_ok s2.env p2 h2) fun v H3 sm f => by
    obtain ⟨s3, p3, o3⟩ := f.lift s2.env sm
    exact q.2 v H3 ((s1.trans s2).trans s3) p3 (o3.ste (s1.trans s2))⟩⟩
theorem dt_cmp {o : R2} {k : Bool} (ho : OpR X (compareOp op) o) (ha : DE X a Γ r1 Γ1) (hb : DE X b Γ1 r2 Γ2) (hm : behindInMarks op b = false) (h1 : readR r1 Γ2 = some d1) (h2 : readR r2 Γ2 = some d2) (hs : OpS X.K o d1 d2 (.val (.bl k))) : DT X (.Compare a [op] [b] pos) Γ k Γ2 :=
  pt_sub (pt_cmpR ho ha hb hm) fun σ H Q q => ⟨q.1, fun x H1 s1 p1 o1 => ⟨s1.env, fun y H2 s2 p2 o2 => hs H2 x y _ (read_ok s2.env (p1.ste s2) h1) (read_ok s2.env p2 h2) fun v H3 sm f => by
    obtain ⟨s3, p3, o3⟩ := f.lift s2.env sm
    have e : v = .bl k := by simpa only [Fr, Rp] using f
    exact ⟨k, e, q.2 H3 ((s1.trans s2).trans s3)⟩⟩⟩
theorem de_un {op : UnaryOp} {o : V → Hp → VK → Prop} (ho : UnR X (unaryOp op) o) (ha : DE X a Γ r1 Γ1) (h1 : readR r1 Γ1 = some d1) (hs : UnS X.K o d1 r) : DE X (.UnaryOp op a pos) Γ r Γ1 :=
  pe_sub (pe_un ho ha) fun σ H Q q => ⟨q.1, fun x H1 s1 p1 o1 => hs H1 x _ (read_ok s1.env p1 h1) fun v H3 sm f => by
    obtain ⟨s3, p3, o3⟩ := f.lift s1.env sm
    exact q.2 v H3 (s1.trans s3) p3 (o3.ste s1)⟩
theorem de_ix {o : R2} (ho : IxR X o) (ha : DE X a Γ r1 Γ1) (hb : DE X b Γ1 r2 Γ2) (hp : PlainIx b) (h1 : readR r1 Γ2 = some d1) (h2 : readR r2 Γ2 = some d2) (hs : OpS X.K o d1 d2 r) : DE X (.Subscript a b pos) Γ r Γ2 :=
  pe_sub (pe_ix ho ha hb hp) fun σ H Q q => ⟨q.1, fun x H1 s1 p1 o1 => ⟨s1.env, fun y H2 s2 p2 o2 => hs H2 x y _ (read_ok s2.env (p1.ste s2) h1) (read_ok s2.env p2 h2) fun v H3 sm f => by
    obtain ⟨s3, p3, o3⟩ := f.lift s2.env sm
    exact q.2 v H3 ((s1.trans s2).trans s3) p3 (o3.ste (s1.trans s2))⟩⟩
/-- a op b op' c -/
theorem de_chain {o o' : R2} {k : Bool} (ho : OpR X (compareOp op) o) (ho' : OpR X (compareOp op') o') (ha : DE X a Γ r1 Γ1) (hb : DE X b Γ1 r2 Γ2) (hm : lastMarks [op, op'] [b, c] = false)
    (h1 : readR r1 Γ2 = some d1) (h2 : readR r2 Γ2 = some d2) (hs : OpS X.K o d1 d2 (.val (.bl k)))
    (hc : DE X c Γ2 r3 Γ3) (h2' : k = true → readR r2 Γ3 = some d2) (h3 : k = true → readR r3 Γ3 = some d3) (hs' : k = true → OpS X.K o' d2 d3 r) (hf : k = false → r = .val (.bl false)) : DE X (.Compare a [op, op'] [b, c] pos) Γ r (if k then Γ3 else Γ2) :=
  pe_sub (pe_chain ho ho' ha hb hc hm) fun σ H Q q => ⟨q.1, fun x H1 s1 p1 o1 => ⟨s1.env, fun y H2 s2 p2 o2 => hs H2 x y _ (read_ok s2.env (p1.ste s2) h1) (read_ok s2.env p2 h2) fun v H3 sm f => by
    obtain ⟨s3, p3, o3⟩ := f.lift s2.env sm
    have e : v = .bl k := by simpa only [Fr, Rp] using f
    refine ⟨k, e, ?_⟩
    cases k with
    | false =>
      rw [hf rfl] at q
      exact q.2 _ H3 ((s1.trans s2).trans s3) (by simp only [Pd, Rp]) trivial
    | true =>
      refine ⟨s3.env, fun w H4 s4 p4 o4 => hs' rfl H4 y w _ (read_ok s4.env ((p2.ste s3).ste s4) (h2' rfl)) (read_ok s4.env p4 (h3 rfl)) fun v H5 sm5 f5 => ?_⟩
      obtain ⟨s5, p5, o5⟩ := f5.lift s4.env sm5
      exact q.2 v H5 ((((s1.trans s2).trans s3).trans s4).trans s5) p5 (o5.ste (((s1.trans s2).trans s3).trans s4))⟩⟩
/-- any expression whose value is a bool, as a test -/
theorem dt_of_bl {e : Expr} {k : Bool} (h : DE X e Γ r Γ1) (hr : readR r Γ1 = some (.bl k)) (he : ∀ whole, isTrue e X.env whole = (do let v ← whole; standAt e.pos; holding [v] (truthy v))) : DT X e Γ k Γ1 :=
  pt_sub (pt_val h he) fun σ H Q q => ⟨q.1, fun x H1 s1 p1 o1 => ⟨k, (read_ok s1.env p1 hr).bl, q.2 H1 s1⟩⟩
theorem dt_not {k : Bool} (h : DT X a Γ k Γ1) : DT X (.UnaryOp .Not a pos) Γ (!k) Γ1 :=
  pt_sub (pt_not h) fun σ H Q q => ⟨q.1, fun H1 s1 => q.2 H1 s1⟩
theorem de_not {k : Bool} (h : DE X a Γ r Γ1) (hr : readR r Γ1 = some (.bl k)) : DE X (.UnaryOp .Not a pos) Γ (.val (.bl (!k))) Γ1 :=
  pe_sub (pe_not h) fun σ H Q q => ⟨q.1, fun x H1 s1 p1 o1 => ⟨k, (read_ok s1.env p1 hr).bl, q.2 _ H1 s1 (by simp only [Pd, Rp]) trivial⟩⟩
theorem de_if {k : Bool} (hc : DT X c Γ k Γ1) (ha : k = true → DE X a Γ1 r Γ2) (hb : k = false → DE X b Γ1 r Γ2) : DE X (.IfExp c a b pos) Γ r Γ2 := by
  cases k with
  | true =>
    refine pe_sub (pe_ifExp hc (ha rfl) (tb := fun _ _ _ => False) ⟨fun _ _ _ _ _ _ f => f.elim⟩) fun σ H Q q => ⟨q.1, fun H1 s1 => ?_⟩
    exact ⟨s1.env, fun v H2 s2 p2 o2 => q.2 v H2 (s1.trans s2) p2 (o2.ste s1)⟩
  | false =>
    refine pe_sub (pe_ifExp hc (ta := fun _ _ _ => False) ⟨fun _ _ _ _ _ _ f => f.elim⟩ (hb rfl)) fun σ H Q q => ⟨q.1, fun H1 s1 => ?_⟩
    exact ⟨s1.env, fun v H2 s2 p2 o2 => q.2 v H2 (s1.trans s2) p2 (o2.ste s1)⟩
/-! constants, names, displays -/
theorem de_c {v : V} {d : D} {e : Expr} (h : PE X e (tC v)) (hd : ∀ K H, Rp K H d v) : DE X e Γ (.val d) Γ := pe_sub h fun σ H Q q => q.2 v H (Ste.refl q.1) (hd _ _) trivial
theorem de_var {i : Nat} {e : Expr} {s : Sl} (h : PE X e (tVar i)) (hg : Γ[i]? = some s) (hs : s ≠ .no) : DE X e Γ (.slot i) Γ := pe_sub h fun σ H Q q => by
  have : ∃ v, σ[i]? = some (some v) := by
    cases s with
    | no => exact absurd rfl hs
    | sh d => obtain ⟨v, h1, _⟩ := q.1.sh i d hg; exact ⟨v, h1⟩
    | ow d => obtain ⟨v, h1, _⟩ := q.1.mu i d (.inl hg); exact ⟨_, h1⟩
    | io d => obtain ⟨v, h1, _⟩ := q.1.mu i d (.inr hg); exact ⟨_, h1⟩
  obtain ⟨v, hv⟩ := this
  exact ⟨v, hv, q.2 v H (Ste.refl q.1) hv trivial⟩
theorem RpL.length {K : PySem.W.Frag} {H : Hp} : ∀ {ds : List D} {vs : List V}, RpL K H ds vs → vs.length = ds.length
  | [], vs, h => by simp only [RpL] at h; subst h; rfl
  | d :: ds, vs, h => by
    simp only [RpL] at h
    obtain ⟨v, r, rfl, _, h2⟩ := h
    rw [List.length_cons, List.length_cons, RpL.length h2]
theorem de_tup {es : List Expr} {ds : List D} {k : Nat} (h : DC X es Γ ds Γ1) (hl : ds.length ≤ sizeLine) : DE X (.Tuple es k pos) Γ (.val (.tup ds)) Γ1 :=
  pe_sub (pe_tup h) fun σ H Q q => ⟨q.1, fun vs H1 s1 rp => ⟨by rw [rp.length]; exact hl, fun p hp => by
    refine q.2 _ _ (s1.trans (Ste.same s1.env (same_new hp))) ?_ trivial
    simp only [Pd, Rp]
    exact ⟨p, vs, rfl, SqT.of upd_same, RpL.per (Per.of_same (same_new hp)) _ _ rp⟩⟩⟩
theorem de_lst {es : List Expr} {ds : List D} (h : DC X es Γ ds Γ1) (hl : ds.length ≤ sizeLine) : DE X (.List es pos) Γ (.new (.lst ds)) Γ1 :=
  pe_sub (pe_lst h) fun σ H Q q => ⟨q.1, fun vs H1 s1 rp => ⟨by rw [rp.length]; exact hl, fun p hp => by
    have f : Fr X.K H1 (.new (.lst ds)) (.ref p) (upd H1 p (.lst vs)) := ⟨p, rfl, hp, vs, upd_same, RpL.per (Per.of_same (same_new hp)) _ _ rp⟩
    obtain ⟨s2, p2, o2⟩ := f.lift s1.env (same_new hp)
    exact q.2 _ _ (s1.trans s2) p2 (o2.ste s1)⟩⟩
/-- a built-in function, a built-in type -/
theorem de_callB {o : List V → Hp → VK → Prop} {x : Str} {p : Pos} {e : Expr} {es : List Expr} {id : String} {rs : List Rs} {ds : List D} (hc : CallR X (.builtin id) o) (hg : Gl X x) (hm : X.mg x = none) (hv : bootBuiltins x = some (.builtin id)) (ha : DA X (e :: es) Γ rs Γ1)
    (hr : readRs rs Γ1 = some ds) (hs : CaS X.K o ds r) (hn : x ≠ "__name__") (hdb : (x == ("__debug__" : Str)) = false)
    (he : starEach (e :: es) X.env = (false, eval e X.env) :: starEach es X.env) (hpl : (backTo pos (starEach es X.env)).any (·.1) = false) : DE X (.Call (.Name x p) (e :: es) [] pos) Γ r Γ1 :=
  pe_sub (pe_callB hc hg hm hv ha hn hdb he hpl) fun σ H Q q => ⟨q.1, fun vs H1 s1 p1 o1 => hs H1 vs _ (reads_ok s1.env p1 hr) fun v H2 sm f => by
    obtain ⟨s2, p2, o2⟩ := f.lift s1.env sm
    exact q.2 v H2 (s1.trans s2) p2 (o2.ste s1)⟩
theorem de_callTy {o : List V → Hp → VK → Prop} {x : Str} {p : Pos} {e : Expr} {es : List Expr} {T : String} {rs : List Rs} {ds : List D} (hc : CallR X (.type T) o) (hg : Gl X x) (hm : X.mg x = none) (hv : bootBuiltins x = some (.type T)) (ha : DA X (e :: es) Γ rs Γ1)
    (hr : readRs rs Γ1 = some ds) (hs : CaS X.K o ds r) (hn : x ≠ "__name__") (hdb : (x == ("__debug__" : Str)) = false)
    (he : starEach (e :: es) X.env = (false, eval e X.env) :: starEach es X.env) (hpl : (backTo pos (starEach es X.env)).any (·.1) = false) : DE X (.Call (.Name x p) (e :: es) [] pos) Γ r Γ1 :=
  pe_sub (pe_callTy hc hg hm hv ha hn hdb he hpl) fun σ H Q q => ⟨q.1, fun vs H1 s1 p1 o1 => hs H1 vs _ (reads_ok s1.env p1 hr) fun v H2 sm f => by
    obtain ⟨s2, p2, o2⟩ := f.lift s1.env sm
    exact q.2 v H2 (s1.trans s2) p2 (o2.ste s1)⟩
end
end Sv

namespace Sv
open PySem PySem.Spec PyProof.Rows L2
def ownAt (Γ : Gm) (i : Nat) : Option D := match Γ[i]? with
  | some (.ow d) => some d
  | some (.io d) => some d
  | _ => none
def setOwn (Γ : Gm) (i : Nat) (d : D) : Gm := match Γ[i]? with
  | some (.ow _) => Γ.set i (.ow d)
  | some (.io _) => Γ.set i (.io d)
  | _ => Γ
section
variable {K : PySem.W.Frag} {Γ Γ' Γ0 Γ1 Γ2 : Gm} {σ σ' σ0 σ1 σ2 : L2.St} {H H' H0 H1 H2 : Hp} {a : Addr} {r : Rs} {v : V} {i j : Nat} {d d' : D}
theorem ownAt_iff : ownAt Γ i = some d ↔ Own Γ i d := by
  unfold ownAt Own
  cases h : Γ[i]? with
  | none => simp
  | some s => cases s <;> simp
theorem setOwn_own (h : ownAt Γ i = some d) : Own (setOwn Γ i d') i d' := by
  unfold ownAt at h
  unfold setOwn
  cases hg : Γ[i]? with
  | none => rw [hg] at h; cases h
  | some s =>
    rw [hg] at h
    cases s with
    | no => cases h
    | sh e => cases h
    | ow e => exact .inl (get_set_self hg)
    | io e => exact .inr (get_set_self hg)
theorem setOwn_ne (h : i ≠ j) : (setOwn Γ i d')[j]? = Γ[j]? := by
  unfold setOwn
  split
  · exact get_set_ne h
  · exact get_set_ne h
  · rfl
theorem setOwn_length : (setOwn Γ i d').length = Γ.length := by
  unfold setOwn
  split
  · exact List.length_set
  · exact List.length_set
  · rfl
theorem own_setOwn_ne (h : i ≠ j) : Own (setOwn Γ i d') j d ↔ Own Γ j d := by
  unfold Own
  rw [setOwn_ne h]
theorem Own.uniq {e : D} (h : Own Γ i d) (h' : Own Γ i e) : d = e := by
  rcases h with h | h <;> rcases h' with h' | h' <;> rw [h] at h' <;> cases h' <;> rfl
theorem cell_setOwn (h : ownAt Γ i = some d) (b : Addr) : Cell (setOwn Γ i d') σ b ↔ Cell Γ σ b := by
  constructor
  · rintro ⟨j, e, hj, hb⟩
    by_cases z : i = j
    · subst z
      exact ⟨i, d, ownAt_iff.1 h, hb⟩
    · exact ⟨j, e, (own_setOwn_ne z).1 hj, hb⟩
  · rintro ⟨j, e, hj, hb⟩
    by_cases z : i = j
    · subst z
      exact ⟨i, d', setOwn_own h, hb⟩
    · exact ⟨j, e, (own_setOwn_ne z).2 hj, hb⟩
/-- the own cell of slot i has another content; all else that stood stands -/
theorem Ste.own (e : EnvOk K Γ σ H) (ho : ownAt Γ i = some d) (hs : σ[i]? = some (some (.ref a))) (kp : ∀ b o, b ≠ a → H b = some o → H' b = some o) (hc : Cel K H' d' a) : Ste K Γ σ H (setOwn Γ i d') σ H' := by
  have cl : Cell Γ σ a := ⟨i, d, ownAt_iff.1 ho, hs⟩
  have pr : Per H H' := fun b o im hb => kp b o (fun z => by
    subst z
    obtain ⟨u, hu, nu⟩ := e.cellMut cl
    rw [hb] at hu
    cases hu
    exact nu im) hb
  refine ⟨e, ⟨fun j f hj => ?_, fun j f hj => ?_, fun j k f g b hj hk h1 h2 => ?_, by rw [setOwn_length]; exact e.len⟩, fun b o hb nb => kp b o (fun z => nb (z ▸ cl)) hb, fun b hb => ?_, fun b cb => .inl ((cell_setOwn ho b).1 cb), fun j f hj => ?_, setOwn_length, rfl⟩
  · have z : i ≠ j := fun z => by
      subst z
      rcases setOwn_own (d' := d') ho with q | q <;> rw [hj] at q <;> cases q
    rw [setOwn_ne z] at hj
    obtain ⟨v, h1, h2⟩ := e.sh j f hj
    exact ⟨v, h1, Rp.per pr f v h2⟩
  · by_cases z : i = j
    · subst z
      have := (setOwn_own ho).uniq hj
      subst this
      exact ⟨a, hs, hc⟩
    · rw [own_setOwn_ne z] at hj
      obtain ⟨b, h1, h2⟩ := e.mu j f hj
      refine ⟨b, h1, h2.keep pr fun o ho' => kp b o (fun y => z ?_) ho'⟩
      subst y
      exact e.df i j d f b (ownAt_iff.1 ho) hj hs h1
  · have t1 : ∃ f', Own Γ j f' := by
      by_cases z : i = j
      · subst z; exact ⟨d, ownAt_iff.1 ho⟩
      · exact ⟨f, (own_setOwn_ne z).1 hj⟩
    have t2 : ∃ f', Own Γ k f' := by
      by_cases z : i = k
      · subst z; exact ⟨d, ownAt_iff.1 ho⟩
      · exact ⟨g, (own_setOwn_ne z).1 hk⟩
    obtain ⟨f1, q1⟩ := t1
    obtain ⟨f2, q2⟩ := t2
    exact e.df j k f1 f2 b q1 q2 h1 h2
  · by_cases z : b = a
    · subst z
      obtain ⟨u, hu, _⟩ := hc.mut
      rw [hb] at hu
      cases hu
    · cases hh : H b with
      | none => rfl
      | some o => rw [kp b o z hh] at hb; cases hb
  · refine ⟨?_, rfl⟩
    by_cases z : i = j
    · subst z
      refine ⟨d', ?_⟩
      unfold setOwn
      rw [hj]
      exact get_set_self hj
    · exact ⟨f, by rw [setOwn_ne z]; exact hj⟩
end
/-! the call of a def of one's own -/
abbrev Fn := List Sl → Option (Rs × Option D)
def outA : List Sl → Option D → List Sl
  | .io _ :: as, some d => .io d :: as
  | as, _ => as
def okA : List Sl → Bool
  | [] => true
  | .io _ :: as => as.all fun s => match s with | .sh _ => true | _ => false
  | as => as.all fun s => match s with | .sh _ => true | _ => false
def notSlot : Rs → Bool
  | .slot _ => false
  | _ => true
def spOf (K : PySem.W.Frag) (n : Nat) (sem : Fn) : Sp := fun vs H Q _ => ∃ as r o, vs.length = n ∧ as.length = n ∧ okA as = true ∧ EnvOk K as (vs.map some) H ∧ sem as = some (r, o) ∧ notSlot r = true ∧
  ∀ v H', Ste K as (vs.map some) H (outA as o) (vs.map some) H' → Pd K (outA as o) (vs.map some) H' r v → Orig as (vs.map some) H r v → Q v H'
section
variable {K : PySem.W.Frag} {Γ Γ' Γ0 Γ1 Γ2 : Gm} {σ σ' σ0 σ1 σ2 : L2.St} {H H' H0 H1 H2 : Hp} {a : Addr} {r : Rs} {v : V} {i j : Nat} {d d' : D}
theorem get_map_sh {ds : List D} {s : Sl} (h : (ds.map Sl.sh)[i]? = some s) : ∃ e, s = .sh e ∧ ds[i]? = some e := by
  rw [List.getElem?_map] at h
  cases hh : ds[i]? with
  | none => rw [hh] at h; cases h
  | some e => rw [hh] at h; cases h; exact ⟨e, rfl, rfl⟩
theorem RpL.get : ∀ {ds : List D} {vs : List V} {i : Nat} {e : D}, RpL K H ds vs → ds[i]? = some e → ∃ v, vs[i]? = some v ∧ Rp K H e v
  | [], _, i, e, _, h => by simp at h
  | d :: ds, vs, 0, e, h, g => by
    simp only [RpL] at h
    obtain ⟨v, r, rfl, h1, h2⟩ := h
    simp only [List.getElem?_cons_zero, Option.some.injEq] at g
    subst g
    exact ⟨v, rfl, h1⟩
  | d :: ds, vs, i + 1, e, h, g => by
    simp only [RpL] at h
    obtain ⟨v, r, rfl, h1, h2⟩ := h
    rw [List.getElem?_cons_succ] at g ⊢
    exact RpL.get h2 g
theorem env_shs {ds : List D} {vs : List V} (h : RpL K H ds vs) : EnvOk K (ds.map .sh) (vs.map some) H := by
  refine ⟨fun i e he => ?_, fun i e he => ?_, fun i j e f a hi => ?_, by rw [List.length_map, List.length_map, h.length]⟩
  · obtain ⟨e', h1, h2⟩ := get_map_sh he
    cases h1
    obtain ⟨v, h3, h4⟩ := h.get h2
    exact ⟨v, by rw [List.getElem?_map, h3]; rfl, h4⟩
  · rcases he with he | he <;> (obtain ⟨e', h1, _⟩ := get_map_sh he; cases h1)
  · rcases hi with he | he <;> (obtain ⟨e', h1, _⟩ := get_map_sh he; cases h1)
theorem env_io {ds : List D} {vs : List V} (h : RpL K H ds vs) (c : Cel K H d a) : EnvOk K (.io d :: ds.map .sh) ((V.ref a :: vs).map some) H := by
  have E := env_shs h
  refine ⟨fun i e he => ?_, fun i e he => ?_, fun i j e f b hi hj _ _ => ?_, by simp [h.length]⟩
  · cases i with
    | zero => cases he
    | succ i => exact E.sh i e he
  · cases i with
    | zero =>
      rcases he with he | he
      · cases he
      · cases he; exact ⟨a, rfl, c⟩
    | succ i => exact E.mu i e he
  · cases i with
    | zero =>
      cases j with
      | zero => rfl
      | succ j =>
        exfalso
        rcases hj with hj | hj <;> (rw [List.getElem?_cons_succ] at hj; obtain ⟨e', h1, _⟩ := get_map_sh hj; cases h1)
    | succ i =>
      exfalso
      rcases hi with hj | hj <;> (rw [List.getElem?_cons_succ] at hj; obtain ⟨e', h1, _⟩ := get_map_sh hj; cases h1)
theorem okA_shs (ds : List D) : okA (ds.map .sh) = true := by
  cases ds with
  | nil => rfl
  | cons d ds => simp [okA, List.all_eq_true]
theorem okA_io (d : D) (ds : List D) : okA (.io d :: ds.map .sh) = true := by
  show ((ds.map Sl.sh).all _) = true
  rw [List.all_eq_true]
  intro s hs
  rw [List.mem_map] at hs
  obtain ⟨e, _, rfl⟩ := hs
  rfl
theorem noCell_shs {ds : List D} {b : Addr} : ¬ Cell (ds.map .sh) σ b := by
  rintro ⟨i, e, he, _⟩
  rcases he with he | he <;> (obtain ⟨e', h1, _⟩ := get_map_sh he; cases h1)
theorem cell_io {ds : List D} {vs : List V} {b : Addr} (c : Cell (.io d :: ds.map .sh) ((V.ref a :: vs).map some) b) : b = a := by
  obtain ⟨i, e, he, hb⟩ := c
  cases i with
  | zero => cases hb; rfl
  | succ i => rcases he with he | he <;> (rw [List.getElem?_cons_succ] at he; obtain ⟨e', h1, _⟩ := get_map_sh he; cases h1)
end
/-- arguments whose first is lent -/
def rdL (K : PySem.W.Frag) (Γ : Gm) (i : Nat) (ds : List D) (Γ' : Gm) : TA := fun σ H Q => EnvOk K Γ σ H ∧ ∀ v vs H', Ste K Γ σ H Γ' σ H' → σ[i]? = some (some v) → RpL K H' ds vs → Q (v :: vs) H'
theorem dl_take {X : Cx} {es : List Expr} {Γ Γ1 Γ2 : Gm} {i : Nat} {rs : List Rs} {ds : List D} (h : DA X es Γ (.slot i :: rs) Γ1) (ht : takeRs rs Γ1 = some (ds, Γ2)) : PA X es (rdL X.K Γ i ds Γ2) := by
  refine ⟨fun pos pins s σ H Q I q => ?_⟩
  refine thn (h.run pos pins s σ H (fun vs H1 => Ste X.K Γ σ H Γ1 σ H1 ∧ Pds X.K Γ1 σ H1 (.slot i :: rs) vs ∧ Origs Γ σ H (.slot i :: rs) vs) I ⟨q.1, fun vs H1 a b c => ⟨a, b, c⟩⟩) fun us s' hh => ?_
  obtain ⟨vs, H1, I1, rv, A, p, og⟩ := hh
  obtain ⟨v, ws, rfl, p1, p2, _⟩ := p
  obtain ⟨H2, I2, B, rp, _⟩ := takes_ok I1 A p2 (fun p hp => og p (by rw [List.zip_cons_cons]; exact List.mem_cons_of_mem _ hp)) ht
  exact ⟨v :: ws, H2, I2, rv, q.2 v ws H2 B p1 rp⟩
section
variable {X : Cx} {Γ Γ1 Γ2 : Gm} {k n : Nat} {f : Addr} {fd : FuncData} {ps : List Str} {sem : Fn} {x : Str} {p pos : Pos} {e : Expr} {es : List Expr} {r : Rs} {o : Option D} {ds : List D}
theorem de_call (F : FnOk X.prog X.w X.K X.mg X.base CX0 k f fd ps (spOf X.K n sem)) (hr : Room k X.A) (hg : Gl X x) (hm : X.mg x = some (.ref f)) (hk : PySem.W.keepIn X.K (.ref f) = true) (hb : Binds X.K fd ps [])
    (ha : DC X (e :: es) Γ ds Γ1) (hl : ds.length = n) (hs : sem (ds.map .sh) = some (r, o)) (ns : notSlot r = true) (hd : (x == ("__debug__" : Str)) = false) (he : starEach (e :: es) X.env = (false, eval e X.env) :: starEach es X.env) (hpl : (backTo pos (starEach es X.env)).any (·.1) = false) :
    DE X (.Call (.Name x p) (e :: es) [] pos) Γ r Γ1 := by
  refine pe_sub (pe_call F hr hg hm hk hb .nil (E := fun _ _ _ => False) (fun _ _ _ _ _ _ _ h => h.elim) ha hd he hpl) fun σ H Q q => ⟨q.1, fun vs H1 s1 rp => ?_⟩
  show spOf X.K n sem (vs ++ []) H1 Q _
  rw [List.append_nil]
  have oe : outA (ds.map .sh) o = ds.map .sh := by cases ds <;> rfl
  refine ⟨ds.map .sh, r, o, by rw [rp.length]; exact hl, by rw [List.length_map]; exact hl, okA_shs ds, env_shs rp, hs, ns, fun v H2 s2 p2 o2 => ?_⟩
  rw [oe] at s2 p2
  have sm : Same H1 H2 := fun b u hb => s2.keep b u hb noCell_shs
  have fr : Fr X.K H1 r v H2 := by
    cases r with
    | val d => exact p2
    | slot i => cases ns
    | new d =>
      obtain ⟨a, ea, c, _⟩ := p2
      refine ⟨a, ea, ?_, c⟩
      rcases o2 a ea with c' | c'
      · exact absurd c' noCell_shs
      · exact c'
  obtain ⟨s3, p3, o3⟩ := fr.lift s1.env sm
  exact q.2 v H2 (s1.trans s3) p3 (o3.ste s1)
theorem de_callL {i : Nat} {d d' : D} (F : FnOk X.prog X.w X.K X.mg X.base CX0 k f fd ps (spOf X.K n sem)) (hr : Room k X.A) (hg : Gl X x) (hm : X.mg x = some (.ref f)) (hk : PySem.W.keepIn X.K (.ref f) = true) (hb : Binds X.K fd ps [])
    (ha : PA X (e :: es) (rdL X.K Γ i ds Γ1)) (ho : ownAt Γ1 i = some d) (hl : ds.length + 1 = n) (hs : sem (.io d :: ds.map .sh) = some (r, some d')) (ns : notSlot r = true) (hd : (x == ("__debug__" : Str)) = false) (he : starEach (e :: es) X.env = (false, eval e X.env) :: starEach es X.env) (hpl : (backTo pos (starEach es X.env)).any (·.1) = false) :
    DE X (.Call (.Name x p) (e :: es) [] pos) Γ r (setOwn Γ1 i d') := by
  refine pe_sub (pe_call F hr hg hm hk hb .nil (E := fun _ _ _ => False) (fun _ _ _ _ _ _ _ h => h.elim) ha hd he hpl) fun σ H Q q => ⟨q.1, fun v0 vs H1 s1 hv rp => ?_⟩
  show spOf X.K n sem (v0 :: vs ++ []) H1 Q _
  rw [List.append_nil]
  obtain ⟨a, ha', c⟩ := s1.env.mu i d (ownAt_iff.1 ho)
  rw [hv] at ha'
  cases ha'
  refine ⟨.io d :: ds.map .sh, r, some d', by rw [List.length_cons, rp.length]; exact hl, by rw [List.length_cons, List.length_map]; exact hl, okA_io d ds, env_io rp c, hs, ns, fun v H2 s2 p2 o2 => ?_⟩
  simp only [outA] at s2 p2
  have kp : ∀ b u, b ≠ a → H1 b = some u → H2 b = some u := fun b u nb hb => s2.keep b u hb fun cc => nb (cell_io cc)
  obtain ⟨a', ea, c'⟩ := s2.env.mu 0 d' (.inr rfl)
  cases ea
  have st := Ste.own s1.env ho hv kp c'
  refine q.2 v H2 (s1.trans st) ?_ ?_
  · cases r with
    | val e => exact p2
    | slot i => cases ns
    | new e =>
      obtain ⟨b, eb, cb, nb⟩ := p2
      refine ⟨b, eb, cb, fun cc => ?_⟩
      rcases o2 b eb with c2 | c2
      · have := cell_io c2
        subst this
        exact nb ⟨0, d', .inr rfl, rfl⟩
      · obtain ⟨u, hu, _⟩ := s1.env.cellMut ((cell_setOwn ho b).1 cc)
        rw [c2] at hu
        cases hu
  · cases r with
    | val e => trivial
    | slot i => cases ns
    | new e =>
      intro b eb
      obtain ⟨b', eb', cb, nb⟩ := p2
      rw [eb] at eb'
      cases eb'
      rcases o2 b eb with c2 | c2
      · have := cell_io c2
        subst this
        exact absurd ⟨0, d', .inr rfl, rfl⟩ nb
      · exact .inr (s1.live b c2)
end
end Sv

namespace Sv
open PySem PySem.Spec PyProof.Rows L2
/-! binding a name -/
def slOf : Rs → Option Sl
  | .val d => some (.sh d)
  | .new d => some (.ow d)
  | .slot _ => none
def mayBind (Γ : Gm) (i : Nat) : Bool := match Γ[i]? with
  | none => false
  | some (.io _) => false
  | some _ => true
def bindR (i : Nat) (r : Rs) (Γ : Gm) : Option Gm := if mayBind Γ i then (slOf r).map fun s => Γ.set i s else none
section
variable {K : PySem.W.Frag} {Γ Γ' Γ0 Γ1 Γ2 : Gm} {σ σ' σ0 σ1 σ2 : L2.St} {H H' H0 H1 H2 : Hp} {a : Addr} {r : Rs} {v : V} {i j : Nat} {d d' : D}
theorem mayBind_lt (h : mayBind Γ i = true) : i < Γ.length ∧ ∀ d, Γ[i]? ≠ some (.io d) := by
  unfold mayBind at h
  cases hg : Γ[i]? with
  | none => rw [hg] at h; cases h
  | some s =>
    refine ⟨(List.getElem?_eq_some_iff.1 hg).1, fun d e => ?_⟩
    cases e
    rw [hg] at h
    cases h
theorem bindR_some (h : bindR i r Γ = some Γ') : mayBind Γ i = true ∧ ∃ s, slOf r = some s ∧ Γ' = Γ.set i s := by
  unfold bindR at h
  cases hm : mayBind Γ i with
  | false => rw [hm] at h; cases h
  | true =>
    rw [hm] at h
    cases hs : slOf r with
    | none => rw [hs] at h; cases h
    | some s => rw [hs] at h; cases h; exact ⟨rfl, s, rfl, rfl⟩
theorem set_lt {α : Type} {l : List α} {x : α} (h : i < l.length) : (l.set i x)[i]? = some x := by
  rw [List.getElem?_set_self h]
theorem Ste.bind (A : Ste K Γ0 σ0 H0 Γ σ H) (hl : σ.length = Γ.length) (hb : bindR i r Γ = some Γ') (p : Pd K Γ σ H r v) (og : Orig Γ0 σ0 H0 r v) : Ste K Γ0 σ0 H0 Γ' (σ.set i (some v)) H := by
  obtain ⟨hm, s, hs, rfl⟩ := bindR_some hb
  obtain ⟨lt, nio⟩ := mayBind_lt hm
  have ltσ : i < σ.length := by rw [hl]; exact lt
  have nown : ∀ j d, j ≠ i → (Own (Γ.set i s) j d ↔ Own Γ j d) := fun j d z => own_set_ne (Ne.symm z)
  have sub' : ∀ b, Cell (Γ.set i s) (σ.set i (some v)) b → Cell Γ σ b ∨ (∃ d, r = .new d ∧ v = .ref b) := by
    rintro b ⟨j, e, hj, hb'⟩
    by_cases z : j = i
    · subst z
      rw [set_lt ltσ] at hb'
      have hv : v = .ref b := by injection hb' with q; injection q
      right
      cases r with
      | val d =>
        cases hs
        rcases hj with hj | hj <;> (rw [set_lt lt] at hj; cases hj)
      | new d => exact ⟨d, rfl, hv⟩
      | slot k => cases hs
    · left
      rw [get_set_ne (Ne.symm z)] at hb'
      exact ⟨j, e, (nown j e z).1 hj, hb'⟩
  refine ⟨A.e0, ⟨fun j e hj => ?_, fun j e hj => ?_, fun j k e f b hj hk h1 h2 => ?_, by rw [List.length_set, List.length_set]; exact hl⟩, A.keep, A.live, fun b cb => ?_, fun j e hj => ?_, by rw [List.length_set]; exact A.gl, by rw [List.length_set]; exact A.sl⟩
  · by_cases z : j = i
    · subst z
      rw [set_lt lt] at hj
      cases hj
      refine ⟨v, set_lt ltσ, ?_⟩
      cases r with
      | val d => cases hs; exact p
      | new d => cases hs
      | slot k => cases hs
    · rw [get_set_ne (Ne.symm z)] at hj ⊢
      exact A.env.sh j e hj
  · by_cases z : j = i
    · subst z
      cases r with
      | val d =>
        cases hs
        rcases hj with hj | hj <;> (rw [set_lt lt] at hj; cases hj)
      | slot k => cases hs
      | new d =>
        cases hs
        obtain ⟨a, rfl, c, nc⟩ := p
        have : e = d := by rcases hj with hj | hj <;> (rw [set_lt lt] at hj; cases hj); rfl
        subst this
        exact ⟨a, set_lt ltσ, c⟩
    · rw [nown j e z] at hj
      rw [get_set_ne (Ne.symm z)]
      exact A.env.mu j e hj
  · have key : ∀ j e, Own (Γ.set i s) j e → (σ.set i (some v))[j]? = some (some (.ref b)) → j = i → ∀ k f, Own (Γ.set i s) k f → (σ.set i (some v))[k]? = some (some (.ref b)) → k = i := by
      intro j e hj h1 z k f hk h2
      subst z
      apply Classical.byContradiction
      intro y
      rw [set_lt ltσ] at h1
      have hv : v = .ref b := by injection h1 with q; injection q
      cases r with
      | val d =>
        cases hs
        rcases hj with hj | hj <;> (rw [set_lt lt] at hj; cases hj)
      | slot k => cases hs
      | new d =>
        obtain ⟨a, ea, c, nc⟩ := p
        rw [hv] at ea
        cases ea
        rw [get_set_ne (Ne.symm y)] at h2
        exact nc ⟨k, f, (nown k f y).1 hk, h2⟩
    by_cases z : j = i
    · rw [z, key j e hj h1 z k f hk h2]
    · by_cases y : k = i
      · exact absurd (key k f hk h2 y j e hj h1) z
      · rw [get_set_ne (Ne.symm z)] at h1
        rw [get_set_ne (Ne.symm y)] at h2
        exact A.env.df j k e f b ((nown j e z).1 hj) ((nown k f y).1 hk) h1 h2
  · rcases sub' b cb with c | ⟨d, hr, hv⟩
    · exact A.sub b c
    · subst hr
      exact og b hv
  · obtain ⟨⟨e', h1⟩, h2⟩ := A.io j e hj
    have z : i ≠ j := fun z => by subst z; exact nio _ h1
    exact ⟨⟨e', by rw [get_set_ne z]; exact h1⟩, by rw [get_set_ne z]; exact h2⟩
theorem bindR_length (hb : bindR i r Γ = some Γ') : Γ'.length = Γ.length := by
  obtain ⟨hm, s, hs, rfl⟩ := bindR_some hb
  exact List.length_set
end
/-! statements -/
inductive Fl where
  | nx | bk | ct | rt (r : Rs)
  deriving Inhabited
def rdS (K : PySem.W.Frag) (Γ : Gm) (fl : Fl) (Γ' : Gm) : TS := fun D σ H => EnvOk K Γ σ H ∧ σ.length = Γ.length ∧ match fl with
  | .nx => ∀ σ' H', Ste K Γ σ H Γ' σ' H' → D.nx σ' H'
  | .bk => ∀ σ' H', Ste K Γ σ H Γ' σ' H' → D.bk σ' H'
  | .ct => ∀ σ' H', Ste K Γ σ H Γ' σ' H' → D.ct σ' H'
  | .rt r => ∀ v σ' H', Ste K Γ σ H Γ' σ' H' → Pd K Γ' σ' H' r v → Orig Γ σ H r v → notSlot r = true → D.rt v H'
def DS (X : Cx) (st : Stmt) (Γ : Gm) (fl : Fl) (Γ' : Gm) : Prop := PS X st (rdS X.K Γ fl Γ')
def DSs (X : Cx) (sts : List Stmt) (Γ : Gm) (fl : Fl) (Γ' : Gm) : Prop := PSs X sts (rdS X.K Γ fl Γ')
theorem Ste.lens {K : PySem.W.Frag} {Γ Γ' : Gm} {σ σ' : L2.St} {H H' : Hp} (s : Ste K Γ σ H Γ' σ' H') (l : σ.length = Γ.length) : σ'.length = Γ'.length := by rw [s.sl, s.gl, l]
section
variable {X : Cx} {Γ Γ1 Γ2 : Gm} {st : Stmt} {rest : List Stmt} {fl : Fl} {e c : Expr} {r : Rs} {pos : Pos} {i : Nat} {d : D}
theorem rdS_seq {K : PySem.W.Frag} {D : Ends} {σ σ1 : L2.St} {H H1 : Hp} (s : Ste K Γ σ H Γ1 σ1 H1) (q : rdS K Γ fl Γ2 D σ H) : rdS K Γ1 fl Γ2 D σ1 H1 := by
  refine ⟨s.env, s.lens q.2.1, ?_⟩
  cases fl with
  | nx => exact fun σ' H' s' => q.2.2 σ' H' (s.trans s')
  | bk => exact fun σ' H' s' => q.2.2 σ' H' (s.trans s')
  | ct => exact fun σ' H' s' => q.2.2 σ' H' (s.trans s')
  | rt r => exact fun v σ' H' s' p' o' n' => q.2.2 v σ' H' (s.trans s') p' (o'.ste s) n'
theorem dss_nil : DSs X [] Γ .nx Γ := pss_sub pss_nil fun D σ H q => q.2.2 σ H (Ste.refl q.1)
theorem dss_cons (h : DS X st Γ .nx Γ1) (hs : DSs X rest Γ1 fl Γ2) : DSs X (st :: rest) Γ fl Γ2 :=
  pss_sub (pss_cons h hs) fun D σ H q => ⟨q.1, q.2.1, fun σ1 H1 s1 => rdS_seq s1 q⟩
theorem dss_stop (h : DS X st Γ fl Γ1) (hn : fl ≠ .nx) : DSs X (st :: rest) Γ fl Γ1 :=
  pss_sub (pss_cons h pss_never) fun D σ H q => ⟨q.1, q.2.1, by
    cases fl with
    | nx => exact absurd rfl hn
    | bk => exact q.2.2
    | ct => exact q.2.2
    | rt r => exact q.2.2⟩
theorem ds_if {k : Bool} {a b : List Stmt} (hc : DT X c Γ k Γ1) (ha : k = true → DSs X a Γ1 fl Γ2) (hb : k = false → DSs X b Γ1 fl Γ2) : DS X (.If c a b pos) Γ fl Γ2 := by
  cases k with
  | true => exact ps_sub (ps_if hc (ha rfl) pss_never) fun D σ H q => ⟨q.1, fun H1 s1 => rdS_seq s1 q⟩
  | false => exact ps_sub (ps_if hc pss_never (hb rfl)) fun D σ H q => ⟨q.1, fun H1 s1 => rdS_seq s1 q⟩
theorem ds_pass : DS X (.Pass pos) Γ .nx Γ := ps_sub ps_pass fun D σ H q => q.2.2 σ H (Ste.refl q.1)
theorem ds_break : DS X (.Break pos) Γ .bk Γ := ps_sub ps_break fun D σ H q => q.2.2 σ H (Ste.refl q.1)
theorem ds_continue : DS X (.Continue pos) Γ .ct Γ := ps_sub ps_continue fun D σ H q => q.2.2 σ H (Ste.refl q.1)
theorem ds_retN : DS X (.Return none pos) Γ (.rt (.val .non)) Γ := ps_sub ps_retN fun D σ H q => q.2.2 .non σ H (Ste.refl q.1) (by simp only [Pd, Rp]) trivial rfl
theorem ds_ret (h : DE X e Γ r Γ1) (hn : notSlot r = true) : DS X (.Return (some e) pos) Γ (.rt r) Γ1 :=
  ps_sub (ps_ret h) fun D σ H q => ⟨q.1, fun v H1 s1 p1 o1 => q.2.2 v σ H1 s1 p1 o1 hn⟩
/-- the own cell of a slot handed back -/
theorem Ste.moved {K : PySem.W.Frag} {Γ0 Γ : Gm} {σ0 σ : L2.St} {H0 H : Hp} {v : V} (A : Ste K Γ0 σ0 H0 Γ σ H) (hg : Γ[i]? = some (.ow d)) (hv : σ[i]? = some (some v)) :
    Ste K Γ0 σ0 H0 (Γ.set i .no) σ H ∧ Pd K (Γ.set i .no) σ H (.new d) v ∧ Orig Γ0 σ0 H0 (.new d) v := by
  have no : ∀ j e, Own (Γ.set i .no) j e → j ≠ i ∧ Own Γ j e := fun j e hj => by
    have z : j ≠ i := fun z => by
      subst z
      rcases hj with hj | hj <;> (rw [get_set_self hg] at hj; cases hj)
    exact ⟨z, (own_set_ne (Ne.symm z)).1 hj⟩
  obtain ⟨a, h1, c⟩ := A.env.mu i d (.inl hg)
  rw [hv] at h1
  cases h1
  refine ⟨⟨A.e0, ⟨fun j e hj => ?_, fun j e hj => A.env.mu j e (no j e hj).2, fun j k e f b hj hk => A.env.df j k e f b (no j e hj).2 (no k f hk).2, by rw [List.length_set]; exact A.env.len⟩, A.keep, A.live, fun b cb => ?_, fun j e hj => ?_, by rw [List.length_set]; exact A.gl, A.sl⟩, ⟨a, rfl, c, ?_⟩, fun b eb => ?_⟩
  · have z : i ≠ j := fun z => by subst z; rw [get_set_self hg] at hj; cases hj
    rw [get_set_ne z] at hj
    exact A.env.sh j e hj
  · obtain ⟨j, e, hj, hb⟩ := cb
    exact A.sub b ⟨j, e, (no j e hj).2, hb⟩
  · obtain ⟨⟨e', h1⟩, h2⟩ := A.io j e hj
    have z : i ≠ j := fun z => by subst z; rw [hg] at h1; cases h1
    exact ⟨⟨e', by rw [get_set_ne z]; exact h1⟩, h2⟩
  · rintro ⟨j, e, hj, hb⟩
    exact (no j e hj).1 (A.env.df j i e d a (no j e hj).2 (.inl hg) hb hv)
  · cases eb
    exact A.sub _ ⟨i, d, .inl hg, hv⟩
theorem ds_retM (h : DE X e Γ (.slot i) Γ1) (hg : Γ1[i]? = some (.ow d)) : DS X (.Return (some e) pos) Γ (.rt (.new d)) (Γ1.set i .no) :=
  ps_sub (ps_ret h) fun D σ H q => ⟨q.1, fun v H1 s1 p1 o1 => by
    obtain ⟨a, b, c⟩ := s1.moved hg p1
    exact q.2.2 v σ H1 a b c rfl⟩
theorem ds_drop (h : DE X e Γ r Γ1) (hs : swapsWith e none pos.line X.env = pure false) : DS X (.Expr e pos) Γ .nx Γ1 :=
  ps_sub (ps_expr h hs) fun D σ H q => ⟨q.1, fun v H1 s1 p1 o1 => q.2.2 σ H1 s1⟩
theorem ds_doc {x : Str} {j : Nat} {pos' : Pos} : DS X (.Expr (.Constant (.str x) j pos) pos') Γ .nx Γ := ps_sub ps_doc fun D σ H q => q.2.2 σ H (Ste.refl q.1)
/-- x = e -/
theorem ds_set {x : Str} {pos' : Pos} (hN : X.N.Nodup) (hi : X.N[i]? = some x) (hx : Loc X.env.scope x) (he : DE X e Γ r Γ1) (hb : bindR i r Γ1 = some Γ2) (hs : swapsWith e (some (.Name x pos')) pos.line X.env = pure false) (hf : X.fn x = true ∨ X.env.scope.names.lookup x = some .local) :
    DS X (.Assign [.Name x pos'] e pos) Γ .nx Γ2 :=
  ps_sub (ps_set hN hi hx he hs hf) fun D σ H q => ⟨q.1, fun v H1 s1 p1 o1 => q.2.2 _ H1 (s1.bind (s1.lens q.2.1) hb p1 o1)⟩
/-- while -/
def whileL (c : Gm → Option (Bool × Gm)) (b : Gm → Option (Fl × Gm)) : Nat → Gm → Option (Fl × Gm)
  | 0, _ => none
  | n + 1, Γ => match c Γ with
    | none => none
    | some (false, Γ1) => some (.nx, Γ1)
    | some (true, Γ1) => match b Γ1 with
      | none => none
      | some (.nx, Γ2) => whileL c b n Γ2
      | some (.ct, Γ2) => whileL c b n Γ2
      | some (.bk, Γ2) => some (.nx, Γ2)
      | some (.rt r, Γ2) => some (.rt r, Γ2)
theorem ds_while {body : List Stmt} {fc : Gm → Option (Bool × Gm)} {fb : Gm → Option (Fl × Gm)} {n : Nat} (hp : PassesOwn (model X.prog X.w) X.A X.env X.xe) (hc : ∀ Γ k Γ1, fc Γ = some (k, Γ1) → DT X c Γ k Γ1) (hb : ∀ Γ fl Γ1, fb Γ = some (fl, Γ1) → DSs X body Γ fl Γ1)
    (h : whileL fc fb n Γ = some (fl, Γ2)) : DS X (.While c body [] pos) Γ fl Γ2 := by
  refine ps_sub (ps_while (tc := fun σ H Q => ∃ Γ k Γ1, fc Γ = some (k, Γ1) ∧ rdT X.K Γ k Γ1 σ H Q) (tb := fun D σ H => ∃ Γ fl Γ1, fb Γ = some (fl, Γ1) ∧ rdS X.K Γ fl Γ1 D σ H) hp
    ⟨fun pins s σ H Q I q => by obtain ⟨Γ, k, Γ1, e, q⟩ := q; exact (hc Γ k Γ1 e).run pins s σ H Q I q⟩ ⟨fun pins s σ H D I q => by obtain ⟨Γ, k, Γ1, e, q⟩ := q; exact (hb Γ k Γ1 e).run pins s σ H D I q⟩) fun D σ H q => ?_
  refine ⟨fun m σ' H' => ∃ Γ', whileL fc fb m Γ' = some (fl, Γ2) ∧ rdS X.K Γ' fl Γ2 D σ' H', ⟨n, Γ, h, q⟩, fun m σ' H' hw => ?_⟩
  obtain ⟨Γ', hm, q'⟩ := hw
  cases m with
  | zero => cases hm
  | succ m =>
    simp only [whileL] at hm
    cases hf : fc Γ' with
    | none => rw [hf] at hm; cases hm
    | some p =>
      obtain ⟨k, Γ1⟩ := p
      rw [hf] at hm
      refine ⟨Γ', k, Γ1, hf, q'.1, fun H1 s1 => ?_⟩
      cases k with
      | false =>
        simp only [Option.some.injEq, Prod.mk.injEq] at hm
        obtain ⟨rfl, rfl⟩ := hm
        rw [if_neg (by decide)]
        exact q'.2.2 σ' H1 s1
      | true =>
        rw [if_pos rfl]
        simp only at hm
        cases hg : fb Γ1 with
        | none => rw [hg] at hm; cases hm
        | some p =>
          obtain ⟨f, Γ3⟩ := p
          rw [hg] at hm
          have q1 := rdS_seq s1 q'
          refine ⟨fun σ'' H'' => ∃ m', m' < m + 1 ∧ ∃ Γ', whileL fc fb m' Γ' = some (fl, Γ2) ∧ rdS X.K Γ' fl Γ2 D σ'' H'', fun σ'' H'' hh => hh, Γ1, f, Γ3, hg, q1.1, q1.2.1, ?_⟩
          cases f with
          | nx => exact fun σ2 H2 s2 => ⟨m, Nat.lt_succ_self m, Γ3, hm, rdS_seq s2 q1⟩
          | ct => exact fun σ2 H2 s2 => ⟨m, Nat.lt_succ_self m, Γ3, hm, rdS_seq s2 q1⟩
          | bk =>
            simp only [Option.some.injEq, Prod.mk.injEq] at hm
            obtain ⟨rfl, rfl⟩ := hm
            exact fun σ2 H2 s2 => q1.2.2 σ2 H2 s2
          | rt r =>
            simp only [Option.some.injEq, Prod.mk.injEq] at hm
            obtain ⟨rfl, rfl⟩ := hm
            exact fun v σ2 H2 s2 p2 o2 n2 => q1.2.2 v σ2 H2 s2 p2 o2 n2
end
end Sv

namespace Sv
open PySem PySem.Spec PyProof.Rows L2
inductive Tg where
  | nm (i : Nat) | tp (ts : List Tg)
  deriving Inhabited
mutual
def bindT : Tg → D → Gm → Option Gm
  | .nm i, d, Γ => bindR i (.val d) Γ
  | .tp ts, .tup ds, Γ => bindTs ts ds Γ
  | .tp ts, .lst ds, Γ => bindTs ts ds Γ
  | _, _, _ => none
def bindTs : List Tg → List D → Gm → Option Gm
  | [], [], Γ => some Γ
  | t :: ts, d :: ds, Γ => match bindT t d Γ with
    | none => none
    | some Γ1 => bindTs ts ds Γ1
  | _, _, _ => none
end
mutual
def Tg.slots : Tg → List Nat
  | .nm i => [i]
  | .tp ts => Tg.slotss ts
def Tg.slotss : List Tg → List Nat
  | [] => []
  | t :: ts => t.slots ++ Tg.slotss ts
end
def rdG (K : PySem.W.Frag) (sl : List Nat) (Γ : Gm) (d : D) (Γ' : Gm) : TG := fun v σ H Q => EnvOk K Γ σ H ∧ σ.length = Γ.length ∧ Rp K H d v ∧ ∀ σ', Ste K Γ σ H Γ' σ' H → (∀ j, j ∉ sl → σ'[j]? = σ[j]?) → Q σ' H
def rdGs (K : PySem.W.Frag) (sl : List Nat) (Γ : Gm) (ds : List D) (Γ' : Gm) : TGs := fun vs σ H Q => EnvOk K Γ σ H ∧ σ.length = Γ.length ∧ RpL K H ds vs ∧ ∀ σ', Ste K Γ σ H Γ' σ' H → (∀ j, j ∉ sl → σ'[j]? = σ[j]?) → Q σ' H
def DG (X : Cx) (t : Expr) (sl : List Nat) (Γ : Gm) (d : D) (Γ' : Gm) : Prop := PG X t (rdG X.K sl Γ d Γ')
def DGs (X : Cx) (ts : List Expr) (sl : List Nat) (Γ : Gm) (ds : List D) (Γ' : Gm) : Prop := PGs X ts (rdGs X.K sl Γ ds Γ')
theorem pg_sub' {X : Cx} {e : Expr} {t t' : TG} (h : PG X e t) (w : ∀ v σ H Q, t' v σ H Q → t v σ H Q) : PG X e t' := ⟨fun pins s σ H v u Q I r q => h.run pins s σ H v u Q I r (w v σ H Q q)⟩
theorem pgs_sub' {X : Cx} {e : List Expr} {t t' : TGs} (h : PGs X e t) (w : ∀ v σ H Q, t' v σ H Q → t v σ H Q) : PGs X e t' := ⟨fun pins s σ H v u Q I r q => h.run pins s σ H v u Q I r (w v σ H Q q)⟩
section
variable {X : Cx} {Γ Γ1 Γ2 : Gm} {i k : Nat} {x : Str} {pos : Pos} {d : D} {ds : List D} {e : Expr} {es : List Expr} {sl sl1 sl2 : List Nat}
theorem dg_name (hN : X.N.Nodup) (hi : X.N[i]? = some x) (hx : Loc X.env.scope x) (hf : X.fn x = true ∨ X.env.scope.names.lookup x = some .local) (hb : bindR i (.val d) Γ = some Γ1) : DG X (.Name x pos) [i] Γ d Γ1 :=
  pg_sub' (pg_name hN hi hx hf) fun v σ H Q q => q.2.2.2 _ ((Ste.refl q.1).bind q.2.1 hb (r := .val d) q.2.2.1 trivial) fun j hj => get_set_ne (by
    intro z
    subst z
    exact hj (List.mem_singleton.2 rfl))
theorem dgs_nil : DGs X [] [] Γ [] Γ := pgs_sub' pgs_nil fun vs σ H Q q => ⟨by have := q.2.2.1; simpa only [RpL] using this, q.2.2.2 σ (Ste.refl q.1) fun _ _ => rfl⟩
theorem dgs_cons (h : DG X e sl1 Γ d Γ1) (hs : DGs X es sl2 Γ1 ds Γ2) (ha : (assignEach (e :: es) X.env).map (·.2) = assign e X.env :: (assignEach es X.env).map (·.2)) : DGs X (e :: es) (sl1 ++ sl2) Γ (d :: ds) Γ2 :=
  pgs_sub' (pgs_cons h hs ha) fun vs σ H Q q => by
    obtain ⟨q1, q2, q3, q4⟩ := q
    simp only [RpL] at q3
    obtain ⟨v, r, e1, h1, h2⟩ := q3
    exact ⟨v, r, e1, q1, q2, h1, fun σ1 s1 n1 => ⟨s1.env, s1.lens q2, h2, fun σ2 s2 n2 => q4 σ2 (s1.trans s2) fun j hj => (n2 j fun z => hj (List.mem_append_right _ z)).trans (n1 j fun z => hj (List.mem_append_left _ z))⟩⟩
theorem dg_tup {n : Nat} (hc : X.calm = true) (h : DGs X es sl Γ ds Γ1) (hl : ds.length = n) (hn : (assignEach es X.env).length = n) (hst : (assignEach es X.env).findIdx? (·.1) = none) : DG X (.Tuple es k pos) sl Γ (.tup ds) Γ1 :=
  pg_sub' (pg_tup hc h hn hst) fun v σ H Q q => by
    obtain ⟨q1, q2, q3, q4⟩ := q
    simp only [Rp] at q3
    obtain ⟨a, vs, e1, h1, h2⟩ := q3
    exact ⟨a, vs, e1, h1, by rw [h2.length, hl], q1, q2, h2, q4⟩
theorem dg_unl {n : Nat} (hc : X.calm = true) (h : DGs X es sl Γ ds Γ1) (hl : ds.length = n) (hn : (assignEach es X.env).length = n) (hst : (assignEach es X.env).findIdx? (·.1) = none) : DG X (.Tuple es k pos) sl Γ (.lst ds) Γ1 :=
  pg_sub' (pg_unl hc h hn hst) fun v σ H Q q => by
    obtain ⟨q1, q2, q3, q4⟩ := q
    simp only [Rp] at q3
    obtain ⟨a, vs, e1, h1, h2⟩ := q3
    exact ⟨a, vs, e1, sqF_sq h1, by rw [h2.length, hl], q1, q2, h2, q4⟩
/-- target = e -/
theorem ds_asg {tg : Expr} (he : DE X e Γ (.val d) Γ1) (hg : DG X tg sl Γ1 d Γ2) (hs : swapsWithSole [tg] e pos.line X.env = pure false) (hw : swappedStores [tg] e X.env = pure none) (h1 : (assignEach [tg] X.env).map (·.2) = [assign tg X.env]) :
    DS X (.Assign [tg] e pos) Γ .nx Γ2 :=
  ps_sub (ps_asg he hg hs hw h1) fun D σ H q => ⟨q.1, fun v H1 s1 p1 o1 => ⟨s1.env, s1.lens q.2.1, p1, fun σ2 s2 _ => q.2.2 σ2 H1 (s1.trans s2)⟩⟩
end
/-! what is walked -/
structure Wk (K : PySem.W.Frag) (J : It) (ds : List D) (S : Hp → Prop) : Prop where
  go : ∀ i H, S H → i < ds.length → J.go i H
  yld : ∀ i H x H', S H → J.yld i H x H' → i < ds.length → Same H H' ∧ ∃ d, ds[i]? = some d ∧ Rp K H' d x
  stop : ∀ i H, S H → ds.length ≤ i → J.stop i H
  per : ∀ H H', S H → Per H H' → S H'
def rdI (K : PySem.W.Frag) (Γ : Gm) (ds : List D) (Γ' : Gm) : TI := fun σ H R => EnvOk K Γ σ H ∧ ∀ J S H', Ste K Γ σ H Γ' σ H' → Wk K J ds S → S H' → R J H'
def DI (X : Cx) (tg iter : Expr) (Γ : Gm) (ds : List D) (Γ' : Gm) : Prop := PI X tg iter (rdI X.K Γ ds Γ')
theorem pi_sub {X : Cx} {tg e : Expr} {t t' : TI} (h : PI X tg e t) (w : ∀ σ H Q, t' σ H Q → t σ H Q) : PI X tg e t' := ⟨fun pins s σ H Q I q => h.run pins s σ H Q I (w σ H Q q)⟩
/-- over the items, one by one -/
def forL (g : D → Gm → Option Gm) (b : Gm → Option (Fl × Gm)) : List D → Gm → Option (Fl × Gm)
  | [], Γ => some (.nx, Γ)
  | d :: ds, Γ => match g d Γ with
    | none => none
    | some Γ1 => match b Γ1 with
      | none => none
      | some (.nx, Γ2) => forL g b ds Γ2
      | some (.ct, Γ2) => forL g b ds Γ2
      | some (.bk, Γ2) => some (.nx, Γ2)
      | some (.rt r, Γ2) => some (.rt r, Γ2)
section
variable {X : Cx} {Γ Γ1 Γ2 : Gm} {tg iter : Expr} {body : List Stmt} {pos : Pos} {fl : Fl} {ds : List D} {sl : List Nat}
theorem ds_for {fg : D → Gm → Option Gm} {fb : Gm → Option (Fl × Gm)} (hp : PassesOwn (model X.prog X.w) X.A X.env X.xe) (hc : X.calm = true) (hi : DI X tg iter Γ ds Γ1) (hg : ∀ d Γ Γ1, fg d Γ = some Γ1 → DG X tg sl Γ d Γ1) (hb : ∀ Γ fl Γ1, fb Γ = some (fl, Γ1) → DSs X body Γ fl Γ1)
    (h : forL fg fb ds Γ1 = some (fl, Γ2)) (hs : ∀ x, foldedSetIterable iter X.env x = pure x) : DS X (.For tg iter body [] pos) Γ fl Γ2 := by
  refine ps_sub (ps_for (g := fun v σ H Q => ∃ d Γ Γ1, fg d Γ = some Γ1 ∧ rdG X.K sl Γ d Γ1 v σ H Q) (tb := fun D σ H => ∃ Γ fl Γ1, fb Γ = some (fl, Γ1) ∧ rdS X.K Γ fl Γ1 D σ H) hp hc hi
    ⟨fun pins s σ H v u Q I r q => by obtain ⟨d, Γ, Γ1, e, q⟩ := q; exact (hg d Γ Γ1 e).run pins s σ H v u Q I r q⟩ ⟨fun pins s σ H D I q => by obtain ⟨Γ, k, Γ1, e, q⟩ := q; exact (hb Γ k Γ1 e).run pins s σ H D I q⟩ hs) fun D σ H q => ?_
  refine ⟨q.1, fun J S H1 s1 wk sH => ?_⟩
  refine ⟨fun i m σ' H' => i + m = ds.length ∧ S H' ∧ ∃ Γ', forL fg fb (ds.drop i) Γ' = some (fl, Γ2) ∧ rdS X.K Γ' fl Γ2 D σ' H', ⟨ds.length, by omega, sH, Γ1, h, rdS_seq s1 q⟩, fun i m σ' H' hw => ?_⟩
  obtain ⟨him, sH', Γ', hf, q'⟩ := hw
  by_cases hi : i < ds.length
  · right
    refine ⟨wk.go i H' sH' hi, ?_⟩
    rw [List.drop_eq_getElem_cons hi] at hf
    simp only [forL] at hf
    cases hgd : fg ds[i] Γ' with
    | none => rw [hgd] at hf; cases hf
    | some Γ3 =>
      rw [hgd] at hf
      simp only at hf
      cases hbd : fb Γ3 with
      | none => rw [hbd] at hf; cases hf
      | some p =>
        obtain ⟨f, Γ4⟩ := p
        rw [hbd] at hf
        refine ⟨fun σ'' H'' => ∃ m', m' < m ∧ i + 1 + m' = ds.length ∧ S H'' ∧ ∃ Γ', forL fg fb (ds.drop (i + 1)) Γ' = some (fl, Γ2) ∧ rdS X.K Γ' fl Γ2 D σ'' H'', fun σ'' H'' hh => hh, fun x H2 hy => ?_⟩
        obtain ⟨sm, d, hd, rp⟩ := wk.yld i H' x H2 sH' hy hi
        have ed : ds[i] = d := by rw [List.getElem?_eq_getElem hi] at hd; injection hd
        have s2 : Ste X.K Γ' σ' H' Γ' σ' H2 := Ste.same q'.1 sm
        have q2 := rdS_seq s2 q'
        refine ⟨d, Γ', Γ3, by rw [← ed]; exact hgd, q2.1, q2.2.1, rp, fun σ3 s3 _ => ?_⟩
        have q3 := rdS_seq s3 q2
        refine ⟨Γ3, f, Γ4, hbd, q3.1, q3.2.1, ?_⟩
        have sH2 : S H2 := wk.per H' H2 sH' (Per.of_same sm)
        cases f with
        | nx => exact fun σ4 H4 s4 => ⟨m - 1, by omega, by omega, wk.per H2 H4 sH2 s4.per, Γ4, hf, rdS_seq s4 q3⟩
        | ct => exact fun σ4 H4 s4 => ⟨m - 1, by omega, by omega, wk.per H2 H4 sH2 s4.per, Γ4, hf, rdS_seq s4 q3⟩
        | bk =>
          simp only [Option.some.injEq, Prod.mk.injEq] at hf
          obtain ⟨rfl, rfl⟩ := hf
          exact fun σ4 H4 s4 => q3.2.2 σ4 H4 s4
        | rt r =>
          simp only [Option.some.injEq, Prod.mk.injEq] at hf
          obtain ⟨rfl, rfl⟩ := hf
          exact fun v σ4 H4 s4 p4 o4 n4 => q3.2.2 v σ4 H4 s4 p4 o4 n4
  · left
    refine ⟨wk.stop i H' sH' (by omega), ?_⟩
    rw [List.drop_eq_nil_of_le (by omega)] at hf
    simp only [forL, Option.some.injEq, Prod.mk.injEq] at hf
    obtain ⟨rfl, rfl⟩ := hf
    exact q'.2.2 σ' H' (Ste.refl q'.1)
end
end Sv

namespace Sv
open PySem PySem.Spec PyProof.Rows L2
def wipeG (Γ : Gm) : List Nat → Gm
  | [] => Γ
  | v :: vs => (wipeG Γ vs).set v .no
def restore (Γ1 Γe : Gm) : List Nat → Gm
  | [] => Γe
  | v :: vs => match Γ1[v]? with
    | some s => (restore Γ1 Γe vs).set v s
    | none => restore Γ1 Γe vs
section
variable {K : PySem.W.Frag} {Γ Γ' Γ0 Γ1 Γ2 Γe : Gm} {σ σ' σ0 σ1 σ2 : L2.St} {H H' H0 H1 H2 : Hp} {a : Addr} {r : Rs} {v : V} {i j : Nat} {d d' : D} {vs : List Nat}
theorem wipeG_length : ∀ vs : List Nat, (wipeG Γ vs).length = Γ.length
  | [] => rfl
  | v :: vs => by rw [wipeG, List.length_set, wipeG_length vs]
theorem wipeG_out : ∀ {vs : List Nat}, j ∉ vs → (wipeG Γ vs)[j]? = Γ[j]?
  | [], _ => rfl
  | v :: vs, h => by
    rw [wipeG, get_set_ne (fun z => h (by rw [z]; exact List.mem_cons_self))]
    exact wipeG_out fun z => h (List.mem_cons_of_mem _ z)
theorem wipeG_in {s : Sl} : ∀ {vs : List Nat}, j ∈ vs → (wipeG Γ vs)[j]? = some s → s = .no
  | v :: vs, h, g => by
    rw [wipeG] at g
    by_cases z : v = j
    · subst z
      by_cases lt : v < (wipeG Γ vs).length
      · rw [set_lt lt] at g; cases g; rfl
      · rw [List.getElem?_eq_none (by rw [List.length_set]; omega)] at g; cases g
    · rw [get_set_ne z] at g
      rcases List.mem_cons.1 h with h | h
      · exact absurd h.symm z
      · exact wipeG_in h g
theorem wipe_out : ∀ {vs : List Nat}, j ∉ vs → (wipe σ vs)[j]? = σ[j]?
  | [], _ => rfl
  | v :: vs, h => by
    rw [wipe, get_set_ne (fun z => h (by rw [z]; exact List.mem_cons_self))]
    exact wipe_out fun z => h (List.mem_cons_of_mem _ z)
theorem restore_length (h : Γe.length = Γ1.length) : ∀ vs : List Nat, (restore Γ1 Γe vs).length = Γ1.length
  | [] => h
  | v :: vs => by
    rw [restore]
    split
    · rw [List.length_set, restore_length h vs]
    · exact restore_length h vs
theorem restore_out : ∀ {vs : List Nat}, j ∉ vs → (restore Γ1 Γe vs)[j]? = Γe[j]?
  | [], _ => rfl
  | v :: vs, h => by
    rw [restore]
    have ih : (restore Γ1 Γe vs)[j]? = Γe[j]? := restore_out fun z => h (List.mem_cons_of_mem _ z)
    split
    · rw [get_set_ne (fun z => h (by rw [z]; exact List.mem_cons_self))]
      exact ih
    · exact ih
theorem restore_in (hl : Γe.length = Γ1.length) : ∀ {vs : List Nat}, j ∈ vs → (restore Γ1 Γe vs)[j]? = Γ1[j]?
  | v :: vs, h => by
    rw [restore]
    by_cases z : v = j
    · subst z
      split
      · next s hs => rw [hs]; exact set_lt (by rw [restore_length hl vs]; exact (List.getElem?_eq_some_iff.1 hs).1)
      · next hs => rw [hs, List.getElem?_eq_none]; rw [restore_length hl vs]; exact List.getElem?_eq_none_iff.1 hs
    · have ih : (restore Γ1 Γe vs)[j]? = Γ1[j]? := restore_in hl (by
        rcases List.mem_cons.1 h with h | h
        · exact absurd h.symm z
        · exact h)
      split
      · rw [get_set_ne z]; exact ih
      · exact ih
theorem own_wipe (h : Own (wipeG Γ vs) j d) : j ∉ vs ∧ Own Γ j d := by
  have n : j ∉ vs := fun z => by
    rcases h with h | h <;> (have := wipeG_in z h; cases this)
  refine ⟨n, ?_⟩
  unfold Own at h ⊢
  rw [wipeG_out n] at h
  exact h
theorem cell_wipe (c : Cell (wipeG Γ vs) (wipe σ vs) a) : Cell Γ σ a := by
  obtain ⟨j, e, hj, hb⟩ := c
  obtain ⟨n, hj⟩ := own_wipe hj
  rw [wipe_out n] at hb
  exact ⟨j, e, hj, hb⟩
theorem Ste.wiped (A : Ste K Γ0 σ0 H0 Γ σ H) (nio : ∀ j ∈ vs, ∀ d, Γ0[j]? ≠ some (.io d)) : Ste K Γ0 σ0 H0 (wipeG Γ vs) (wipe σ vs) H where
  e0 := A.e0
  env := {
    sh := fun j e hj => by
      have n : j ∉ vs := fun z => by have := wipeG_in z hj; cases this
      rw [wipeG_out n] at hj
      rw [wipe_out n]
      exact A.env.sh j e hj
    mu := fun j e hj => by
      obtain ⟨n, hj⟩ := own_wipe hj
      rw [wipe_out n]
      exact A.env.mu j e hj
    df := fun j k e f b hj hk h1 h2 => by
      obtain ⟨n, hj⟩ := own_wipe hj
      obtain ⟨m, hk⟩ := own_wipe hk
      rw [wipe_out n] at h1
      rw [wipe_out m] at h2
      exact A.env.df j k e f b hj hk h1 h2
    len := by rw [wipe_length, wipeG_length]; exact A.env.len }
  keep := A.keep
  live := A.live
  sub := fun b c => A.sub b (cell_wipe c)
  io := fun j e hj => by
    have n : j ∉ vs := fun z => nio j z e hj
    rw [wipeG_out n, wipe_out n]
    exact A.io j e hj
  gl := by rw [wipeG_length]; exact A.gl
  sl := by rw [wipe_length]; exact A.sl
/-- a list of one's own that no slot holds, written -/
theorem Ste.updNew {u u' : HO} (A : Ste K Γ0 σ0 H0 Γ σ H) (h0 : H0 a = none) (h : H a = some u) (n : ¬ Imm u) (nc : ¬ Cell Γ σ a) : Ste K Γ0 σ0 H0 Γ σ (upd H a u') ∧ Per H (upd H a u') := by
  have pr : Per H (upd H a u') := fun b w im e => by
    rw [upd_ne (fun z => by subst z; rw [h] at e; cases e; exact n im)]
    exact e
  refine ⟨⟨A.e0, ⟨fun j e hj => ?_, fun j e hj => ?_, A.env.df, A.env.len⟩, fun b w e nb => ?_, fun b e => ?_, A.sub, A.io, A.gl, A.sl⟩, pr⟩
  · obtain ⟨v, h1, h2⟩ := A.env.sh j e hj
    exact ⟨v, h1, Rp.per pr e v h2⟩
  · obtain ⟨b, h1, h2⟩ := A.env.mu j e hj
    exact ⟨b, h1, h2.keep pr fun w hw => by
      rw [upd_ne (fun z => nc (by subst z; exact ⟨j, e, hj, h1⟩))]
      exact hw⟩
  · rw [upd_ne (fun z => by subst z; rw [h0] at e; cases e)]
    exact A.keep b w e nb
  · by_cases z : b = a
    · subst z; rw [upd_same] at e; cases e
    · rw [upd_ne z] at e; exact A.live b e
/-- behind a comprehension: the def's own slots again -/
theorem Ste.restored (e1 : EnvOk K Γ1 σ H1) (A : Ste K (wipeG Γ1 vs) (wipe σ vs) H1 Γe (wipe σ vs) H) (nio : ∀ j ∈ vs, ∀ d, Γ1[j]? ≠ some (.io d)) : Ste K Γ1 σ H1 (restore Γ1 Γe vs) σ H := by
  have gl : Γe.length = Γ1.length := by rw [A.gl, wipeG_length]
  have nw : ∀ b, Cell (wipeG Γ1 vs) (wipe σ vs) b → Cell Γ1 σ b := fun b c => cell_wipe c
  have own : ∀ j e, Own (restore Γ1 Γe vs) j e → (j ∈ vs ∧ Own Γ1 j e) ∨ (j ∉ vs ∧ Own Γe j e) := fun j e h => by
    by_cases z : j ∈ vs
    · left
      refine ⟨z, ?_⟩
      unfold Own at h ⊢
      rw [restore_in gl z] at h
      exact h
    · right
      refine ⟨z, ?_⟩
      unfold Own at h ⊢
      rw [restore_out z] at h
      exact h
  -- the cell of a slot of vs stays
  have stay : ∀ j e b, j ∈ vs → Own Γ1 j e → σ[j]? = some (some (.ref b)) → ¬ Cell (wipeG Γ1 vs) (wipe σ vs) b := fun j e b z hj hb c => by
    obtain ⟨k, f, hk, hc⟩ := c
    obtain ⟨n, hk⟩ := own_wipe hk
    rw [wipe_out n] at hc
    have := e1.df j k e f b hj hk hb hc
    subst this
    exact n z
  have sub : ∀ b j e, Own Γe j e → j ∉ vs → σ[j]? = some (some (.ref b)) → Cell (wipeG Γ1 vs) (wipe σ vs) b ∨ H1 b = none := fun b j e hj n hb => A.sub b ⟨j, e, hj, by rw [wipe_out n]; exact hb⟩
  refine ⟨e1, ⟨fun j e hj => ?_, fun j e hj => ?_, fun j k e f b hj hk h1 h2 => ?_, by rw [restore_length gl]; exact e1.len⟩, fun b o hb nb => A.keep b o hb fun c => nb (nw b c), A.live, fun b c => ?_, fun j e hj => ?_, restore_length gl vs, rfl⟩
  · by_cases z : j ∈ vs
    · rw [restore_in gl z] at hj
      obtain ⟨v, h1, h2⟩ := e1.sh j e hj
      exact ⟨v, h1, Rp.per A.per e v h2⟩
    · rw [restore_out z] at hj
      obtain ⟨v, h1, h2⟩ := A.env.sh j e hj
      rw [wipe_out z] at h1
      exact ⟨v, h1, h2⟩
  · rcases own j e hj with ⟨z, hj⟩ | ⟨z, hj⟩
    · obtain ⟨b, h1, h2⟩ := e1.mu j e hj
      exact ⟨b, h1, h2.keep A.per fun o ho => A.keep b o ho (stay j e b z hj h1)⟩
    · obtain ⟨b, h1, h2⟩ := A.env.mu j e hj
      rw [wipe_out z] at h1
      exact ⟨b, h1, h2⟩
  · have cross : ∀ j e k f, j ∈ vs → Own Γ1 j e → σ[j]? = some (some (.ref b)) → k ∉ vs → Own Γe k f → σ[k]? = some (some (.ref b)) → False := fun j e k f z hj h1 n hk h2 => by
      rcases sub b k f hk n h2 with c | c
      · exact stay j e b z hj h1 c
      · obtain ⟨u, hu, _⟩ := e1.cellMut ⟨j, e, hj, h1⟩
        rw [c] at hu; cases hu
    rcases own j e hj with ⟨z, hj⟩ | ⟨z, hj⟩
    · rcases own k f hk with ⟨y, hk⟩ | ⟨y, hk⟩
      · exact e1.df j k e f b hj hk h1 h2
      · exact (cross j e k f z hj h1 y hk h2).elim
    · rcases own k f hk with ⟨y, hk⟩ | ⟨y, hk⟩
      · exact (cross k f j e y hk h2 z hj h1).elim
      · exact A.env.df j k e f b hj hk (by rw [wipe_out z]; exact h1) (by rw [wipe_out y]; exact h2)
  · obtain ⟨j, e, hj, hb⟩ := c
    rcases own j e hj with ⟨z, hj⟩ | ⟨z, hj⟩
    · exact .inl ⟨j, e, hj, hb⟩
    · rcases sub b j e hj z hb with c | c
      · exact .inl (nw b c)
      · exact .inr c
  · have n : j ∉ vs := fun z => nio j z e hj
    rw [restore_out n]
    refine ⟨(A.io j e (by rw [wipeG_out n]; exact hj)).1, rfl⟩
end
/-! a comprehension -/
def compL (vs : List Nat) (fg : D → Gm → Option Gm) (ft : Gm → Option (Bool × Gm)) (fe : Gm → Option (D × Gm)) : List D → List D → Gm → Option (List D × Gm)
  | [], acc, Γ => some (acc, Γ)
  | d :: ds, acc, Γ => match fg d Γ with
    | none => none
    | some Γ1 => match ft Γ1 with
      | none => none
      | some (false, Γ2) => compL vs fg ft fe ds acc (wipeG Γ2 vs)
      | some (true, Γ2) => match fe Γ2 with
        | none => none
        | some (e, Γ3) => if acc.length < 1000000 then compL vs fg ft fe ds (acc ++ [e]) (wipeG Γ3 vs) else none
theorem RpL.snoc {K : PySem.W.Frag} {H : Hp} {e : D} {y : V} : ∀ {ds : List D} {vs : List V}, RpL K H ds vs → Rp K H e y → RpL K H (ds ++ [e]) (vs ++ [y])
  | [], vs, h, r => by
    simp only [RpL] at h
    subst h
    simp only [List.nil_append, RpL]
    exact ⟨y, [], rfl, r, rfl⟩
  | d :: ds, vs, h, r => by
    simp only [RpL] at h
    obtain ⟨v, w, rfl, h1, h2⟩ := h
    simp only [List.cons_append, RpL]
    exact ⟨v, w ++ [y], rfl, h1, RpL.snoc h2 r⟩
section
variable {K : PySem.W.Frag} {Γ Γ1 Γe : Gm} {ds out : List D} {vs sl : List Nat} {fg : D → Gm → Option Gm} {ft : Gm → Option (Bool × Gm)} {fe : Gm → Option (D × Gm)}
theorem wipe_agree {σ σ' : L2.St} (hl : σ'.length = σ.length) : ∀ {vs sl : List Nat}, (∀ j ∈ sl, j ∈ vs) → (∀ j, j ∉ sl → σ'[j]? = (wipe σ vs)[j]?) → wipe σ' vs = wipe σ vs := by
  intro vs sl hs ha
  apply List.ext_getElem?
  intro j
  by_cases z : j ∈ vs
  · have key : ∀ (τ : L2.St), τ.length = σ.length → ∀ vs : List Nat, j ∈ vs → (wipe τ vs)[j]? = if j < σ.length then some none else none := by
      intro τ ht vs
      induction vs with
      | nil => intro h; cases h
      | cons v vs ih =>
        intro h
        rw [wipe]
        by_cases y : v = j
        · subst y
          by_cases lt : v < σ.length
          · rw [if_pos lt, set_lt (by rw [wipe_length, ht]; exact lt)]
          · rw [if_neg lt, List.getElem?_eq_none]
            rw [List.length_set, wipe_length, ht]
            omega
        · rw [get_set_ne y]
          rcases List.mem_cons.1 h with h | h
          · exact absurd h.symm y
          · exact ih h
    rw [key σ' hl vs z, key σ rfl vs z]
  · rw [wipe_out z, wipe_out z, ha j (fun y => z (hs j y)), wipe_out z]
theorem lc_reads (hcomp : compL vs fg ft fe ds [] (wipeG Γ1 vs) = some (out, Γe)) (nio : ∀ j ∈ vs, ∀ d, Γ1[j]? ≠ some (.io d)) (hsl : ∀ j ∈ sl, j ∈ vs) (σ : L2.St) (H : Hp) (Q : VK) (q : rdE K Γ (.new (.lst out)) (restore Γ1 Γe vs) σ H Q) :
    tLc (rdI K Γ ds Γ1) (fun v σ H Q => ∃ d Γ Γ1, fg d Γ = some Γ1 ∧ rdG K sl Γ d Γ1 v σ H Q) (fun σ H Q => ∃ Γ b Γ1, ft Γ = some (b, Γ1) ∧ rdT K Γ b Γ1 σ H Q) (fun σ H Q => ∃ Γ d Γ1, fe Γ = some (d, Γ1) ∧ rdE K Γ (.val d) Γ1 σ H Q) vs σ H Q := by
  refine ⟨q.1, fun J S H1 s1 wk sH => fun D hD => ?_⟩
  have sm1 := same_new (o := .lst []) hD
  have l1 : σ.length = Γ1.length := s1.env.len
  -- the start within
  have W0 : Ste K (wipeG Γ1 vs) (wipe σ vs) H1 (wipeG Γ1 vs) (wipe σ vs) (upd H1 D (.lst [])) := Ste.same ((Ste.refl s1.env).wiped nio).env sm1
  refine ⟨fun i m H' => i + m = ds.length ∧ S H' ∧ ∃ Γ' acc ws, compL vs fg ft fe (ds.drop i) acc Γ' = some (out, Γe) ∧ Ste K (wipeG Γ1 vs) (wipe σ vs) H1 Γ' (wipe σ vs) H' ∧ ¬ Cell Γ' (wipe σ vs) D ∧ H' D = some (.lst ws) ∧ RpL K H' acc ws,
    ⟨ds.length, by omega, wk.per _ _ sH (Per.of_same sm1), wipeG Γ1 vs, [], [], hcomp, W0, fun c => ?_, upd_same, by simp only [RpL]⟩, fun i m H' hw => ?_⟩
  · obtain ⟨u, hu, _⟩ := s1.env.cellMut (cell_wipe c)
    rw [hD] at hu
    cases hu
  obtain ⟨him, sH', Γ', acc, ws, hf, A, nc, hws, rp⟩ := hw
  by_cases hi : i < ds.length
  · right
    refine ⟨wk.go i H' sH' hi, ?_⟩
    rw [List.drop_eq_getElem_cons hi] at hf
    simp only [compL] at hf
    cases hgd : fg ds[i] Γ' with
    | none => rw [hgd] at hf; cases hf
    | some Γ3 =>
      rw [hgd] at hf
      simp only at hf
      cases hbd : ft Γ3 with
      | none => rw [hbd] at hf; cases hf
      | some p =>
        obtain ⟨b, Γ4⟩ := p
        rw [hbd] at hf
        refine ⟨fun H'' => ∃ m', m' < m ∧ (i + 1) + m' = ds.length ∧ S H'' ∧ ∃ Γ' acc ws, compL vs fg ft fe (ds.drop (i + 1)) acc Γ' = some (out, Γe) ∧ Ste K (wipeG Γ1 vs) (wipe σ vs) H1 Γ' (wipe σ vs) H'' ∧ ¬ Cell Γ' (wipe σ vs) D ∧ H'' D = some (.lst ws) ∧ RpL K H'' acc ws,
          fun H'' hh => hh, fun x H2 hy => ?_⟩
        obtain ⟨sm, d, hd, rpd⟩ := wk.yld i H' x H2 sH' hy hi
        have ed : ds[i] = d := by rw [List.getElem?_eq_getElem hi] at hd; injection hd
        have s2 : Ste K Γ' (wipe σ vs) H' Γ' (wipe σ vs) H2 := Ste.same A.env sm
        have lw : (wipe σ vs).length = Γ'.length := by rw [A.gl, wipeG_length, wipe_length]; exact l1
        refine ⟨d, Γ', Γ3, by rw [← ed]; exact hgd, s2.env, lw, rpd, fun σ3 s3 ag => ?_⟩
        have wag : wipe σ3 vs = wipe σ vs := wipe_agree (by rw [s3.sl, wipe_length]) hsl ag
        refine ⟨wag, Γ3, b, Γ4, hbd, s3.env, fun H4 s4 => ?_⟩
        have B := (A.trans s2).trans (s3.trans s4)
        have sH4 : S H4 := wk.per H' H4 sH' (Per.trans (Per.of_same sm) (s3.trans s4).per)
        have nio' : ∀ j ∈ vs, ∀ d, (wipeG Γ1 vs)[j]? ≠ some (.io d) := fun j z d e => by have := wipeG_in z e; cases this
        have hD' : H4 D = some (.lst ws) := (s2.trans (s3.trans s4)).keep D _ hws nc
        have nc4 : ¬ Cell Γ4 σ3 D := (s2.trans (s3.trans s4)).noCell hws nc
        have rp4 : RpL K H4 acc ws := RpL.per (s2.trans (s3.trans s4)).per _ _ rp
        cases b with
        | false =>
          dsimp only
          rw [if_neg (by decide)]
          simp only at hf
          refine ⟨m - 1, by omega, by omega, sH4, wipeG Γ4 vs, acc, ws, hf, ?_, ?_, hD', rp4⟩
          · rw [← wag]
            have C := B.wiped (vs := vs) nio'
            rw [wag] at C ⊢
            exact C
          · rw [← wag]
            exact fun c => nc4 (cell_wipe c)
        | true =>
          dsimp only
          rw [if_pos rfl]
          simp only at hf
          cases hed : fe Γ4 with
          | none => rw [hed] at hf; cases hf
          | some p =>
            obtain ⟨e, Γ5⟩ := p
            rw [hed] at hf
            simp only at hf
            refine ⟨Γ4, e, Γ5, hed, B.env, fun y H5 s5 p5 o5 => ?_⟩
            by_cases lt : acc.length < 1000000
            · rw [if_pos lt] at hf
              have hD5 : H5 D = some (.lst ws) := s5.keep D _ hD' nc4
              have nc5 : ¬ Cell Γ5 σ3 D := s5.noCell hD' nc4
              have C := (B.trans s5).wiped (vs := vs) nio'
              rw [wag] at C
              have ncw : ¬ Cell (wipeG Γ5 vs) (wipe σ vs) D := by
                rw [← wag]
                exact fun c => nc5 (cell_wipe c)
              obtain ⟨C', pr⟩ := C.updNew (u' := .lst (ws ++ [y])) hD hD5 id ncw
              refine ⟨ws, hD5, ?_, m - 1, by omega, by omega, wk.per _ _ sH4 (s5.per.trans pr), wipeG Γ5 vs, acc ++ [e], ws ++ [y], hf, C', ncw, upd_same, ?_⟩
              · rw [rp4.length]
                exact Nat.lt_of_lt_of_le lt (by decide)
              · exact (RpL.per (s5.per.trans pr) _ _ rp4).snoc (Rp.per pr _ _ p5)
            · rw [if_neg lt] at hf
              cases hf
  · left
    refine ⟨wk.stop i H' sH' (by omega), ?_⟩
    rw [List.drop_eq_nil_of_le (by omega)] at hf
    simp only [compL, Option.some.injEq, Prod.mk.injEq] at hf
    obtain ⟨rfl, rfl⟩ := hf
    have R := Ste.restored s1.env A nio
    refine q.2 (.ref D) H' (s1.trans R) ⟨D, rfl, ⟨ws, hws, rp⟩, ?_⟩ fun a ea => .inr ?_
    · intro c
      rcases R.sub D c with c | c
      · obtain ⟨u, hu, _⟩ := s1.env.cellMut c
        rw [hD] at hu
        cases hu
      · -- a slot outside vs whose cell is D
        obtain ⟨j, e, hj, hb⟩ := ‹Cell (restore Γ1 Γ' vs) σ D›
        by_cases z : j ∈ vs
        · have hj1 : Own Γ1 j e := by
            unfold Own at hj ⊢
            rw [restore_in (by rw [A.gl, wipeG_length]) z] at hj
            exact hj
          obtain ⟨u, hu, _⟩ := s1.env.cellMut ⟨j, e, hj1, hb⟩
          rw [hD] at hu
          cases hu
        · have hje : Own Γ' j e := by
            unfold Own at hj ⊢
            rw [restore_out z] at hj
            exact hj
          exact nc ⟨j, e, hje, by rw [wipe_out z]; exact hb⟩
    · cases ea
      exact s1.live D hD
end
section
variable {X : Cx} {Γ Γ1 Γe : Gm} {ds out : List D} {sl : List Nat} {fg : D → Gm → Option Gm} {ft : Gm → Option (Bool × Gm)} {fe : Gm → Option (D × Gm)} {elt tg iter : Expr} {ifs : List Expr} {scope : Scope} {own : List (Str × Nat)} {pos : Pos}
/-- with the slots' length from the invariant -/
theorem pe_len {e : Expr} {t t' : TE} (n : Nat) (hn : X.N.length = n) (h : PE X e t) (w : ∀ σ H Q, σ.length = n → t' σ H Q → t σ H Q) : PE X e t' := ⟨fun pins s σ H Q I q => h.run pins s σ H Q I (w σ H Q (by rw [I.len, hn]) q)⟩
theorem ps_len {e : Stmt} {t t' : TS} (n : Nat) (hn : X.N.length = n) (h : PS X e t) (w : ∀ D σ H, σ.length = n → t' D σ H → t D σ H) : PS X e t' := ⟨fun pins s σ H D I q => h.run pins s σ H D I (w D σ H (by rw [I.len, hn]) q)⟩
theorem de_lc (hc : X.calm = true) (hN : X.N.Nodup) (hi : DI X tg iter Γ ds Γ1) (ok : BlkOk X.N X.env.scope scope own)
    (hg : ∀ (s : Shared) (H : Hp) (C : Addr) (cl : List (Str × Addr)) (fp : List Addr) (d : D) (Γ Γ1 : Gm), fg d Γ = some Γ1 → DG (X.blk s H scope (compEnvC scope cl C X.env) fp) tg sl Γ d Γ1)
    (ht : ∀ (s : Shared) (H : Hp) (C : Addr) (cl : List (Str × Addr)) (fp : List Addr) (Γ : Gm) (b : Bool) (Γ1 : Gm), ft Γ = some (b, Γ1) → PTs (X.blk s H scope (compEnvC scope cl C X.env) fp) ifs (rdT X.K Γ b Γ1))
    (he : ∀ (s : Shared) (H : Hp) (C : Addr) (cl : List (Str × Addr)) (fp : List Addr) (Γ : Gm) (d : D) (Γ1 : Gm), fe Γ = some (d, Γ1) → DE (X.blk s H scope (compEnvC scope cl C X.env) fp) elt Γ (.val d) Γ1)
    (hs : ∀ x, foldedSetIterable iter X.env x = pure x) (hcomp : compL (own.map (·.2)) fg ft fe ds [] (wipeG Γ1 (own.map (·.2))) = some (out, Γe)) (nio : ∀ j ∈ own.map (·.2), ∀ d, Γ1[j]? ≠ some (.io d)) (hsl : ∀ j ∈ sl, j ∈ own.map (·.2)) :
    DE X (.ListComp elt [⟨tg, iter, ifs, 0⟩] scope pos) Γ (.new (.lst out)) (restore Γ1 Γe (own.map (·.2))) :=
  pe_sub (pe_lc hc hN hi ok (fun s H C cl fp => ⟨fun pins s' σ H' v u Q I r q => by obtain ⟨d, Γ, Γ1, e, q⟩ := q; exact (hg s H C cl fp d Γ Γ1 e).run pins s' σ H' v u Q I r q⟩)
    (fun s H C cl fp => ⟨fun pins s' σ H' Q I q => by obtain ⟨Γ, d, Γ1, e, q⟩ := q; exact (ht s H C cl fp Γ d Γ1 e).run pins s' σ H' Q I q⟩)
    (fun s H C cl fp => ⟨fun pins s' σ H' Q I q => by obtain ⟨Γ, d, Γ1, e, q⟩ := q; exact (he s H C cl fp Γ d Γ1 e).run pins s' σ H' Q I q⟩) hs) fun σ H Q q => lc_reads hcomp nio hsl σ H Q q
theorem ds_lc {i : Nat} {y : Str} {py spos : Pos} {Γ2 : Gm} (hc : X.calm = true) (hN : X.N.Nodup) (hy : X.N[i]? = some y) (hyl : X.env.scope.names.lookup y = some .local)
    (hsw : swapsWith (.ListComp elt [⟨tg, iter, ifs, 0⟩] scope pos) (some (.Name y py)) spos.line X.env = pure true) (hi : DI X tg iter Γ ds Γ1) (ok : BlkOk X.N X.env.scope scope own)
    (hg : ∀ (s : Shared) (H : Hp) (C : Addr) (cl : List (Str × Addr)) (fp : List Addr) (d : D) (Γ Γ1 : Gm), fg d Γ = some Γ1 → DG (X.blk s H scope (compEnvC scope cl C X.env) fp) tg sl Γ d Γ1)
    (ht : ∀ (s : Shared) (H : Hp) (C : Addr) (cl : List (Str × Addr)) (fp : List Addr) (Γ : Gm) (b : Bool) (Γ1 : Gm), ft Γ = some (b, Γ1) → PTs (X.blk s H scope (compEnvC scope cl C X.env) fp) ifs (rdT X.K Γ b Γ1))
    (he : ∀ (s : Shared) (H : Hp) (C : Addr) (cl : List (Str × Addr)) (fp : List Addr) (Γ : Gm) (d : D) (Γ1 : Gm), fe Γ = some (d, Γ1) → DE (X.blk s H scope (compEnvC scope cl C X.env) fp) elt Γ (.val d) Γ1)
    (hs : ∀ x, foldedSetIterable iter X.env x = pure x) (hcomp : compL (own.map (·.2)) fg ft fe ds [] (wipeG Γ1 (own.map (·.2))) = some (out, Γe)) (nio : ∀ j ∈ own.map (·.2), ∀ d, Γ1[j]? ≠ some (.io d)) (hsl : ∀ j ∈ sl, j ∈ own.map (·.2))
    (hb : bindR i (.new (.lst out)) (restore Γ1 Γe (own.map (·.2))) = some Γ2) : DS X (.Assign [.Name y py] (.ListComp elt [⟨tg, iter, ifs, 0⟩] scope pos) spos) Γ .nx Γ2 :=
  ps_sub (ps_setLc hc hN hy hyl hsw hi ok (fun s H C cl fp => ⟨fun pins s' σ H' v u Q I r q => by obtain ⟨d, Γ, Γ1, e, q⟩ := q; exact (hg s H C cl fp d Γ Γ1 e).run pins s' σ H' v u Q I r q⟩)
    (fun s H C cl fp => ⟨fun pins s' σ H' Q I q => by obtain ⟨Γ, d, Γ1, e, q⟩ := q; exact (ht s H C cl fp Γ d Γ1 e).run pins s' σ H' Q I q⟩)
    (fun s H C cl fp => ⟨fun pins s' σ H' Q I q => by obtain ⟨Γ, d, Γ1, e, q⟩ := q; exact (he s H C cl fp Γ d Γ1 e).run pins s' σ H' Q I q⟩) hs) fun D σ H q => lc_reads hcomp nio hsl σ H _ ⟨q.1, fun v H1 s1 p1 o1 => q.2.2 _ H1 (s1.bind (s1.lens q.2.1) hb p1 o1)⟩
end
end Sv

namespace Sv
open PySem PySem.Spec PyProof.Rows L2
/-! what is walked -/
section
variable {X : Cx} {Γ Γ1 Γ2 : Gm} {tg e e2 : Expr} {ds es : List D} {r : Rs} {p pos : Pos}
theorem RpL.get' {K : PySem.W.Frag} {H : Hp} {ds : List D} {vs : List V} {i : Nat} {x : V} (h : RpL K H ds vs) (g : vs[i]? = some x) : ∃ d, ds[i]? = some d ∧ Rp K H d x := by
  have lt : i < ds.length := by
    rw [← h.length]
    exact (List.getElem?_eq_some_iff.1 g).1
  obtain ⟨v, h1, h2⟩ := h.get (List.getElem?_eq_getElem lt)
  rw [h1] at g
  cases g
  exact ⟨_, List.getElem?_eq_getElem lt, h2⟩
theorem RpL.lt {K : PySem.W.Frag} {H : Hp} {ds : List D} {vs : List V} {i : Nat} (h : RpL K H ds vs) (lt : i < ds.length) : ∃ x, vs[i]? = some x := by
  obtain ⟨v, h1, h2⟩ := h.get (List.getElem?_eq_getElem lt)
  exact ⟨v, h1⟩
theorem wk_lst {K : PySem.W.Frag} (a : Addr) (vs : List V) : Wk K (Itl K a) ds (fun H => SqF K H a vs ∧ RpL K H ds vs) where
  go := fun i H s lt => by
    obtain ⟨x, hx⟩ := s.2.lt lt
    exact ⟨vs, x, sqF_sq s.1, hx⟩
  yld := fun i H x H' s y lt => by
    obtain ⟨rfl, hy⟩ := y
    obtain ⟨d, h1, h2⟩ := s.2.get' (hy vs (sqF_sq s.1))
    exact ⟨same_refl _, d, h1, h2⟩
  stop := fun i H s ge => ⟨vs, sqF_sq s.1, by rw [s.2.length]; exact ge⟩
  per := fun H H' s p => ⟨sqF_per p s.1, RpL.per p _ _ s.2⟩
theorem wk_tup {K : PySem.W.Frag} (a : Addr) (vs : List V) : Wk K (Itt K a) ds (fun H => SqT K H a vs ∧ RpL K H ds vs) where
  go := fun i H s lt => by
    obtain ⟨x, hx⟩ := s.2.lt lt
    exact ⟨vs, x, s.1, hx⟩
  yld := fun i H x H' s y lt => by
    obtain ⟨rfl, hy⟩ := y
    obtain ⟨d, h1, h2⟩ := s.2.get' (hy vs s.1)
    exact ⟨same_refl _, d, h1, h2⟩
  stop := fun i H s ge => ⟨vs, s.1, by rw [s.2.length]; exact ge⟩
  per := fun H H' s p => ⟨sqT_per p s.1, RpL.per p _ _ s.2⟩
theorem di_lst (h : DE X e Γ (.val (.lst ds)) Γ1) : DI X tg e Γ ds Γ1 :=
  pi_sub (pi_list h) fun σ H R q => ⟨q.1, fun v H1 s1 p1 o1 => by
    simp only [Pd, Rp] at p1
    obtain ⟨a, vs, rfl, hs, hl⟩ := p1
    exact ⟨a, rfl, ⟨vs, sqF_sq hs⟩, q.2 _ _ H1 s1 (wk_lst a vs) ⟨hs, hl⟩⟩⟩
theorem di_tup (h : DE X e Γ (.val (.tup ds)) Γ1) : DI X tg e Γ ds Γ1 :=
  pi_sub (pi_tup h) fun σ H R q => ⟨q.1, fun v H1 s1 p1 o1 => by
    simp only [Pd, Rp] at p1
    obtain ⟨a, vs, rfl, hs, hl⟩ := p1
    exact ⟨a, rfl, ⟨vs, hs⟩, q.2 _ _ H1 s1 (wk_tup a vs) ⟨hs, hl⟩⟩⟩
def signs (x : Str) : List D := x.cps.toList.map fun c => .str ⟨#[c]⟩
theorem strOk_at {x : Str} {c : Nat} (h : PyData.strOk x = true) (hc : c ∈ x.cps.toList) : PyData.strOk ⟨#[c]⟩ = true := by
  unfold PyData.strOk at h ⊢
  rw [← Array.all_toList, List.all_eq_true] at h ⊢
  intro k hk
  simp only [List.mem_singleton] at hk
  subst hk
  exact h k hc
theorem di_str {x : Str} (h : DE X e Γ (.val (.str x)) Γ1) : DI X tg e Γ (signs x) Γ1 :=
  pi_sub (pi_str h) fun σ H R q => ⟨q.1, fun v H1 s1 p1 o1 => by
    simp only [Pd, Rp] at p1
    obtain ⟨rfl, ok⟩ := p1
    refine ⟨x, rfl, q.2 _ (fun _ => True) H1 s1 ⟨fun i H _ lt => ?_, fun i H v H' _ y lt => ?_, fun i H _ ge => ?_, fun _ _ _ _ => trivial⟩ trivial⟩
    · simpa [signs, Its] using lt
    · obtain ⟨rfl, c, hc, rfl⟩ := y
      refine ⟨same_refl _, .str ⟨#[c]⟩, ?_, ?_⟩
      · unfold signs
        rw [List.getElem?_map, Array.getElem?_toList, hc]
        rfl
      · simp only [Rp, true_and]
        refine strOk_at ok ?_
        rw [Array.mem_toList_iff]
        exact Array.mem_of_getElem? hc
    · simpa [signs, Its] using ge⟩
def rangeD (lo : Int) (n : Nat) : List D := (List.range n).map fun (k : Nat) => D.int (lo + (k : Int))
theorem wk_rng {K : PySem.W.Frag} (lo : Int) (n : Nat) : Wk K (Itr lo n) (rangeD lo n) (fun _ => True) where
  go := fun i H _ lt => by simpa [rangeD, Itr] using lt
  yld := fun i H x H' _ y lt => by
    obtain ⟨rfl, rfl⟩ := y
    have lt' : i < n := by simpa [rangeD] using lt
    refine ⟨same_refl _, .int (lo + i), ?_, by simp only [Rp]⟩
    unfold rangeD
    rw [List.getElem?_map, List.getElem?_range lt']
    rfl
  stop := fun i H _ ge => by simpa [rangeD, Itr] using ge
  per := fun _ _ _ _ => trivial
theorem RpRL.one {K : PySem.W.Frag} {H : Hp} {d : D} {vs : List V} (h : RpRL K H [d] vs) : ∃ v, vs = [v] ∧ RpR K H d v := by
  obtain ⟨v, r, rfl, h1, h2⟩ := h
  have : r = [] := h2
  subst this
  exact ⟨v, rfl, h1⟩
theorem RpRL.two {K : PySem.W.Frag} {H : Hp} {d d' : D} {vs : List V} (h : RpRL K H [d, d'] vs) : ∃ v w, vs = [v, w] ∧ RpR K H d v ∧ RpR K H d' w := by
  obtain ⟨v, r, rfl, h1, h2⟩ := h
  obtain ⟨w, rfl, h3⟩ := RpRL.one h2
  exact ⟨v, w, rfl, h1, h3⟩
def small62 (i : Int) : Bool := decide (-4611686018427387904 ≤ i) && decide (i < 4611686018427387904)
theorem small62_of {i : Int} (h : small62 i = true) : -(2 ^ 62) ≤ i ∧ i < 2 ^ 62 := by
  unfold small62 at h
  simp only [Bool.and_eq_true, decide_eq_true_eq] at h
  omega
theorem di_range1 {rs : List Rs} {n : Int} (ha : DA X [e] Γ rs Γ1) (hr : readRs rs Γ1 = some [.int n]) (hn : small62 n = true) (hg : Gl X "range") (hm : X.mg "range" = none) (hs : starEach [e] X.env = [(false, eval e X.env)]) : DI X tg (.Call (.Name "range" p) [e] [] pos) Γ (rangeD 0 n.toNat) Γ1 :=
  pi_sub (pi_range1 hg hm ha hs) fun σ H R q => ⟨q.1, fun vs H1 s1 p1 o1 => by
    obtain ⟨v, rfl, h1⟩ := RpRL.one (reads_ok s1.env p1 hr)
    have := h1.int
    subst this
    obtain ⟨a, b⟩ := small62_of hn
    exact ⟨n, rfl, a, b, q.2 _ _ H1 s1 (wk_rng 0 n.toNat) trivial⟩⟩
theorem di_range2 {rs : List Rs} {m n : Int} (ha : DA X [e, e2] Γ rs Γ1) (hr : readRs rs Γ1 = some [.int m, .int n]) (hm1 : small62 m = true) (hn : small62 n = true) (hg : Gl X "range") (hm : X.mg "range" = none) (hs : starEach [e, e2] X.env = [(false, eval e X.env), (false, eval e2 X.env)]) (hs2 : starEach [e2] X.env = [(false, eval e2 X.env)]) :
    DI X tg (.Call (.Name "range" p) [e, e2] [] pos) Γ (rangeD m (n - m).toNat) Γ1 :=
  pi_sub (pi_range2 hg hm ha hs hs2) fun σ H R q => ⟨q.1, fun vs H1 s1 p1 o1 => by
    obtain ⟨v, w, rfl, h1, h2⟩ := RpRL.two (reads_ok s1.env p1 hr)
    have e1 := h1.int
    have e2 := h2.int
    subst e1
    subst e2
    obtain ⟨a, b⟩ := small62_of hn
    obtain ⟨c, d⟩ := small62_of hm1
    exact ⟨m, n, rfl, ⟨c, d, a, b⟩, q.2 _ _ H1 s1 (wk_rng m (n - m).toNat) trivial⟩⟩
def zipD (ds es : List D) : List D := (ds.zip es).map fun p => .tup [p.1, p.2]
theorem zipD_get {i : Nat} {d e : D} (h1 : ds[i]? = some d) (h2 : es[i]? = some e) : (zipD ds es)[i]? = some (.tup [d, e]) := by
  unfold zipD
  rw [List.getElem?_map, (List.getElem?_zip_eq_some (z := (d, e))).2 ⟨h1, h2⟩]
  rfl
theorem zipD_len : (zipD ds es).length = min ds.length es.length := by simp [zipD]
theorem rp_pair {K : PySem.W.Frag} {H : Hp} {T : Addr} {x y : V} {d e : D} (hT : H T = none) (h1 : Rp K H d x) (h2 : Rp K H e y) : Rp K (upd H T (.tup [x, y])) (.tup [d, e]) (.ref T) := by
  have pr := Per.of_same (same_new (o := .tup [x, y]) hT)
  simp only [Rp, RpL]
  exact ⟨T, [x, y], rfl, SqT.of upd_same, x, [y], rfl, Rp.per pr _ _ h1, y, [], rfl, Rp.per pr _ _ h2, rfl⟩
theorem wk_zipT {K : PySem.W.Frag} (a b : Addr) (vs ws : List V) : Wk K (RZ.ItzT K a b) (zipD ds es) (fun H => (SqT K H a vs ∧ RpL K H ds vs) ∧ (SqT K H b ws ∧ RpL K H es ws)) where
  go := fun i H s lt => by
    rw [zipD_len] at lt
    obtain ⟨x, hx⟩ := s.1.2.lt (i := i) (by omega)
    obtain ⟨y, hy⟩ := s.2.2.lt (i := i) (by omega)
    exact ⟨vs, ws, x, y, s.1.1, s.2.1, hx, hy⟩
  yld := fun i H x H' s y lt => by
    obtain ⟨T, x1, y1, rfl, hT, rfl, hx, hy⟩ := y
    obtain ⟨d, h1, h2⟩ := s.1.2.get' (hx vs s.1.1)
    obtain ⟨e, h3, h4⟩ := s.2.2.get' (hy ws s.2.1)
    exact ⟨same_new hT, _, zipD_get h1 h3, rp_pair hT h2 h4⟩
  stop := fun i H s ge => by
    rw [zipD_len] at ge
    refine ⟨vs, ws, s.1.1, s.2.1, ?_⟩
    rw [s.1.2.length, s.2.2.length]
    omega
  per := fun H H' s p => ⟨⟨sqT_per p s.1.1, RpL.per p _ _ s.1.2⟩, sqT_per p s.2.1, RpL.per p _ _ s.2.2⟩
theorem wk_zipL {K : PySem.W.Frag} (a b : Addr) (vs ws : List V) : Wk K (Itz K a b) (zipD ds es) (fun H => (SqF K H a vs ∧ RpL K H ds vs) ∧ (SqF K H b ws ∧ RpL K H es ws)) where
  go := fun i H s lt => by
    rw [zipD_len] at lt
    obtain ⟨x, hx⟩ := s.1.2.lt (i := i) (by omega)
    obtain ⟨y, hy⟩ := s.2.2.lt (i := i) (by omega)
    exact ⟨vs, ws, x, y, sqF_sq s.1.1, sqF_sq s.2.1, hx, hy⟩
  yld := fun i H x H' s y lt => by
    obtain ⟨T, x1, y1, rfl, hT, rfl, hx, hy⟩ := y
    obtain ⟨d, h1, h2⟩ := s.1.2.get' (hx vs (sqF_sq s.1.1))
    obtain ⟨e, h3, h4⟩ := s.2.2.get' (hy ws (sqF_sq s.2.1))
    exact ⟨same_new hT, _, zipD_get h1 h3, rp_pair hT h2 h4⟩
  stop := fun i H s ge => by
    rw [zipD_len] at ge
    refine ⟨vs, ws, sqF_sq s.1.1, sqF_sq s.2.1, ?_⟩
    rw [s.1.2.length, s.2.2.length]
    omega
  per := fun H H' s p => ⟨⟨sqF_per p s.1.1, RpL.per p _ _ s.1.2⟩, sqF_per p s.2.1, RpL.per p _ _ s.2.2⟩
def bothSeq : D → D → Option (List D × List D)
  | .tup a, .tup b => some (a, b)
  | .lst a, .lst b => some (a, b)
  | _, _ => none
theorem RpL.two {K : PySem.W.Frag} {H : Hp} {d d' : D} {vs : List V} (h : RpL K H [d, d'] vs) : ∃ v w, vs = [v, w] ∧ Rp K H d v ∧ Rp K H d' w := by
  simp only [RpL] at h
  obtain ⟨v, r, rfl, h1, w, r', rfl, h2, rfl⟩ := h
  exact ⟨v, w, rfl, h1, h2⟩
theorem di_zip {d1 d2 : D} {elts : List Expr} {kk : Nat} {tpos : Pos} (ha : DC X [e, e2] Γ [d1, d2] Γ1) (hb : bothSeq d1 d2 = some (ds, es)) (hg : Gl X "zip") (hm : X.mg "zip" = none)
    (hs : starEach [e, e2] X.env = (false, eval e X.env) :: starEach [e2] X.env) (hpl : (backTo pos (starEach [e2] X.env)).any (·.1) = false) : DI X (.Tuple elts kk tpos) (.Call (.Name "zip" p) [e, e2] [] pos) Γ (zipD ds es) Γ1 :=
  pi_sub (RZ.pi_zipA hg hm ha hs hpl) fun σ H R q => ⟨q.1, fun vs H1 s1 rp => by
    obtain ⟨v, w, rfl, h1, h2⟩ := rp.two
    cases d1 <;> cases d2 <;> simp only [bothSeq, Option.some.injEq, Prod.mk.injEq, reduceCtorEq] at hb
    · obtain ⟨rfl, rfl⟩ := hb
      simp only [Rp] at h1 h2
      obtain ⟨a, vs, rfl, hs, hl⟩ := h1
      obtain ⟨b, ws, rfl, hs2, hl2⟩ := h2
      exact ⟨a, b, vs, ws, rfl, .inr ⟨hs, hs2, q.2 _ _ H1 s1 (wk_zipT a b vs ws) ⟨⟨hs, hl⟩, hs2, hl2⟩⟩⟩
    · obtain ⟨rfl, rfl⟩ := hb
      simp only [Rp] at h1 h2
      obtain ⟨a, vs, rfl, hs, hl⟩ := h1
      obtain ⟨b, ws, rfl, hs2, hl2⟩ := h2
      exact ⟨a, b, vs, ws, rfl, .inl ⟨sqF_sq hs, sqF_sq hs2, q.2 _ _ H1 s1 (wk_zipL a b vs ws) ⟨⟨hs, hl⟩, hs2, hl2⟩⟩⟩⟩
end
end Sv

namespace Sv
open PySem PySem.Spec PyProof.Rows L2
/-! data: depth, equality -/
mutual
def dep : D → Nat
  | .tup ds => depL ds + 1
  | .lst ds => depL ds + 1
  | .dK _ => 1000
  | .dT _ => 1000
  | .scr _ => 1000
  | _ => 0
def depL : List D → Nat
  | [] => 0
  | d :: ds => max (dep d) (depL ds)
end
mutual
def eqD : D → D → Bool
  | .non, .non => true
  | .bl a, .bl b => a == b
  | .bl a, .int j => (if a then 1 else 0) == j
  | .int i, .bl b => i == (if b then 1 else 0)
  | .int i, .int j => i == j
  | .str x, .str y => x == y
  | .lst xs, .lst ys => eqDs xs ys
  | .tup xs, .tup ys => eqDs xs ys
  | _, _ => false
def eqDs : List D → List D → Bool
  | [], [] => true
  | x :: xs, y :: ys => eqD x y && eqDs xs ys
  | _, _ => false
end
mutual
def toP : D → PyData
  | .non => .none
  | .bl b => .bool b
  | .int i => .int i
  | .str x => .str x
  | .tup ds => .tuple (toPs ds)
  | .lst ds => .list (toPs ds)
  | .dK _ => .none
  | .dT _ => .none
  | .scr _ => .none
def toPs : List D → List PyData
  | [] => []
  | d :: ds => toP d :: toPs ds
end
mutual
theorem eqD_eqv : ∀ (a b : D), dep a ≤ 64 → dep b ≤ 64 → PyData.eqv (toP a) (toP b) = eqD a b
  | .non, b, _, hb => by cases b <;> simp_all [toP, eqD, PyData.eqv, dep]
  | .bl _, b, _, hb => by cases b <;> simp_all [toP, eqD, PyData.eqv, dep]
  | .int _, b, _, hb => by cases b <;> simp_all [toP, eqD, PyData.eqv, dep]
  | .str _, b, _, hb => by cases b <;> simp_all [toP, eqD, PyData.eqv, dep]
  | .dK _, b, ha, _ => by simp [dep] at ha
  | .dT _, b, ha, _ => by simp [dep] at ha
  | .scr _, b, ha, _ => by simp [dep] at ha
  | .tup xs, b, ha, hb => by
    cases b <;> simp_all [toP, eqD, PyData.eqv, dep]
    exact eqDs_eqv xs _ (by omega) (by omega)
  | .lst xs, b, ha, hb => by
    cases b <;> simp_all [toP, eqD, PyData.eqv, dep]
    exact eqDs_eqv xs _ (by omega) (by omega)
theorem eqDs_eqv : ∀ (a b : List D), depL a ≤ 64 → depL b ≤ 64 → PyData.eqvAll (toPs a) (toPs b) = eqDs a b
  | [], [], _, _ => by simp [toPs, eqDs, PyData.eqvAll]
  | [], _ :: _, _, _ => by simp [toPs, eqDs, PyData.eqvAll]
  | _ :: _, [], _, _ => by simp [toPs, eqDs, PyData.eqvAll]
  | x :: xs, y :: ys, ha, hb => by
    simp only [depL] at ha hb
    simp only [toPs, eqDs, PyData.eqvAll]
    rw [eqD_eqv x y (by omega) (by omega), eqDs_eqv xs ys (by omega) (by omega)]
end
mutual
theorem dep_toP : ∀ d : D, dep d ≤ 64 → PyData.depth (toP d) = dep d
  | .non, _ => by simp [toP, dep, PyData.depth]
  | .bl _, _ => by simp [toP, dep, PyData.depth]
  | .int _, _ => by simp [toP, dep, PyData.depth]
  | .str _, _ => by simp [toP, dep, PyData.depth]
  | .dK _, h => by simp [dep] at h
  | .dT _, h => by simp [dep] at h
  | .scr _, h => by simp [dep] at h
  | .tup ds, h => by
    simp only [dep] at h
    simp only [toP, dep, PyData.depth]
    rw [depL_toPs ds (by omega)]
  | .lst ds, h => by
    simp only [dep] at h
    simp only [toP, dep, PyData.depth]
    rw [depL_toPs ds (by omega)]
theorem depL_toPs : ∀ ds : List D, depL ds ≤ 64 → PyData.depthAll (toPs ds) = depL ds
  | [], _ => by simp [toPs, depL, PyData.depthAll]
  | d :: ds, h => by
    simp only [depL] at h
    simp only [toPs, depL, PyData.depthAll]
    rw [dep_toP d (by omega), depL_toPs ds (by omega)]
end
section
variable {K : PySem.W.Frag} {H : Hp}
mutual
theorem Rp.dp : ∀ (d : D) (v : V), dep d ≤ 64 → Rp K H d v → Dp K H v (toP d)
  | .non, v, _, h => by simp only [Rp] at h; subst h; exact .non
  | .bl b, v, _, h => by simp only [Rp] at h; subst h; exact .bl b
  | .int b, v, _, h => by simp only [Rp] at h; subst h; exact .int b
  | .str b, v, _, h => by simp only [Rp] at h; rw [h.1]; exact .str b
  | .dK _, _, hd, _ => by simp [dep] at hd
  | .dT _, _, hd, _ => by simp [dep] at hd
  | .scr _, _, hd, _ => by simp [dep] at hd
  | .tup ds, v, hd, h => by
    simp only [Rp] at h
    obtain ⟨a, vs, rfl, hs, hl⟩ := h
    simp only [dep] at hd
    exact .tup hs (RpL.dp ds vs (by omega) hl)
  | .lst ds, v, hd, h => by
    simp only [Rp] at h
    obtain ⟨a, vs, rfl, hs, hl⟩ := h
    simp only [dep] at hd
    exact .lst (sqF_sq hs) (RpL.dp ds vs (by omega) hl)
theorem RpL.dp : ∀ (ds : List D) (vs : List V), depL ds ≤ 64 → RpL K H ds vs → DpAll K H vs (toPs ds)
  | [], vs, _, h => by simp only [RpL] at h; subst h; exact .nil
  | d :: ds, vs, hd, h => by
    simp only [RpL] at h
    obtain ⟨v, r, rfl, h1, h2⟩ := h
    simp only [depL] at hd
    exact .cons (Rp.dp d v (by omega) h1) (RpL.dp ds r (by omega) h2)
end
mutual
theorem Rp.lay : ∀ (d : D) (v : V), dep d ≤ 64 → Rp K H d v → PyData.canLay0 (toP d) = true
  | .non, v, _, h => rfl
  | .bl b, v, _, h => rfl
  | .int b, v, _, h => rfl
  | .str b, v, _, h => by simp only [Rp] at h; exact h.2
  | .dK _, _, hd, _ => by simp [dep] at hd
  | .dT _, _, hd, _ => by simp [dep] at hd
  | .scr _, _, hd, _ => by simp [dep] at hd
  | .tup ds, v, hd, h => by
    simp only [Rp] at h
    obtain ⟨a, vs, rfl, hs, hl⟩ := h
    simp only [dep] at hd
    simp only [toP, PyData.canLay0]
    exact RpL.lay ds vs (by omega) hl
  | .lst ds, v, hd, h => by
    simp only [Rp] at h
    obtain ⟨a, vs, rfl, hs, hl⟩ := h
    simp only [dep] at hd
    simp only [toP, PyData.canLay0]
    exact RpL.lay ds vs (by omega) hl
theorem RpL.lay : ∀ (ds : List D) (vs : List V), depL ds ≤ 64 → RpL K H ds vs → PyData.canLayAll0 (toPs ds) = true
  | [], vs, _, h => rfl
  | d :: ds, vs, hd, h => by
    simp only [RpL] at h
    obtain ⟨v, r, rfl, h1, h2⟩ := h
    simp only [depL] at hd
    simp only [toPs, PyData.canLayAll0]
    rw [Rp.lay d v (by omega) h1, RpL.lay ds r (by omega) h2]
    rfl
end
theorem RpR.dp {d : D} {v : V} (h : RpR K H d v) (hd : dep d ≤ 64) : Dp K H v (toP d) ∧ SeqAt.shaped (toP d) = true := by
  rcases h with h | ⟨a, rfl, h⟩
  · refine ⟨Rp.dp d v hd h, ?_⟩
    unfold SeqAt.shaped
    rw [Rp.lay d v hd h, dep_toP d hd]
    simpa using hd
  · cases d with
    | lst ds =>
      obtain ⟨vs, e, r⟩ := h
      simp only [dep] at hd
      refine ⟨.lst (SqL.of e) (RpL.dp ds vs (by omega) r), ?_⟩
      unfold SeqAt.shaped
      simp only [toP, PyData.canLay0, PyData.depth]
      rw [RpL.lay ds vs (by omega) r, depL_toPs ds (by omega)]
      simpa using hd
    | dK kvs => simp [dep] at hd
    | dT kvs => simp [dep] at hd
    | _ => exact absurd h (by simp [Cel])
end
/-! the operators, by data -/
inductive BOp where
  | add | sub | mul | mod | fdiv | pow
  deriving DecidableEq
def BOp.op : BOp → Operator
  | .add => .Add
  | .sub => .Sub
  | .mul => .Mult
  | .mod => .Mod
  | .fdiv => .FloorDiv
  | .pow => .Pow
def lim : Nat := 1000000
def fits64 (i : Int) : Bool := decide (-(2 ^ 64) < i) && decide (i < 2 ^ 64)
def binD : BOp → D → D → Option Rs
  | .add, .int a, .int b => some (.val (.int (a + b)))
  | .add, .str a, .str b => if a.length + b.length ≤ lim then some (.val (.str (a ++ b))) else none
  | .add, .tup a, .tup b => if a.length + b.length ≤ lim then some (.val (.tup (a ++ b))) else none
  | .add, .lst a, .lst b => if a.length + b.length ≤ lim then some (.new (.lst (a ++ b))) else none
  | .sub, .int a, .int b => some (.val (.int (a - b)))
  | .mul, .int a, .int b => if fits64 a || fits64 b then some (.val (.int (a * b))) else none
  | .mul, .lst a, .int k => if small62 k && decide (a.length * k.toNat ≤ lim) then some (.new (.lst (List.replicate k.toNat a).flatten)) else none
  | .mul, .tup a, .int k => if k = 1 then some (.val (.tup a)) else if !a.isEmpty && decide (2 ≤ k) && decide (k ≤ 1000) && decide (a.length ≤ 1000) then some (.val (.tup (List.replicate k.toNat a).flatten)) else none
  | .mod, .int a, .int b => if 0 < b then some (.val (.int (a % b))) else none
  | .fdiv, .int a, .int b => if 0 < b ∧ b < 1073741824 then some (.val (.int (a / b))) else none
  | .pow, .int a, .int b => if 0 ≤ b ∧ b ≤ 1000000 ∧ fits64 a = true then some (.val (.int (a ^ b.toNat))) else none
  | _, _, _ => none
theorem lim_size {n : Nat} (h : n ≤ lim) : n ≤ sizeLine := Nat.le_trans h (by decide)
theorem fits64_of {i : Int} (h : fits64 i = true) : -(2 ^ 64) < i ∧ i < 2 ^ 64 := by
  unfold fits64 at h
  simp only [Bool.and_eq_true, decide_eq_true_eq] at h
  exact h
section
variable {X : Cx} {K : PySem.W.Frag} {H : Hp}
theorem RpL.append : ∀ {as bs : List D} {vs ws : List V}, RpL K H as vs → RpL K H bs ws → RpL K H (as ++ bs) (vs ++ ws)
  | [], bs, vs, ws, h1, h2 => by
    simp only [RpL] at h1
    subst h1
    exact h2
  | a :: as, bs, vs, ws, h1, h2 => by
    simp only [RpL] at h1
    obtain ⟨v, r, rfl, h3, h4⟩ := h1
    simp only [List.cons_append, RpL]
    exact ⟨v, r ++ ws, rfl, h3, RpL.append h4 h2⟩
theorem RpL.rep {as : List D} {vs : List V} (h : RpL K H as vs) : ∀ k : Nat, RpL K H (List.replicate k as).flatten (List.replicate k vs).flatten
  | 0 => by simp [RpL]
  | k + 1 => by
    rw [List.replicate_succ, List.replicate_succ, List.flatten_cons, List.flatten_cons]
    exact h.append (RpL.rep h k)
theorem strOk_append {a b : Str} (ha : PyData.strOk a = true) (hb : PyData.strOk b = true) : PyData.strOk (a ++ b) = true := by
  unfold PyData.strOk at ha hb ⊢
  rw [← Array.all_toList, List.all_eq_true] at ha hb ⊢
  intro k hk
  have e : (a ++ b).cps.toList = a.cps.toList ++ b.cps.toList := by
    show (a.cps ++ b.cps).toList = _
    exact Array.toList_append
  rw [e, List.mem_append] at hk
  rcases hk with hk | hk
  · exact ha k hk
  · exact hb k hk
/-- the objects of lists that are read -/
theorem Inv.lstR {pins : List (Addr × Obj)} {σ : L2.St} {s : Shared} {l : Addr} {xs : List V} (I : Inv X pins σ H s) (h : Rd H l (.lst xs)) :
    xs.length ≤ sizeLine ∧ ∃ (its : List Value) (n : Nat), Vals xs its ∧ xs.length = its.length ∧ s.heap.get? l = some { cls := .type "list", data := .seq its.toArray n } := by
  obtain ⟨hz, its, n, r, e⟩ := h.ok I.hok
  exact ⟨hz, its, n, r, r.length, e⟩
def rCatR : R2 := fun x y H Q => ∃ l b xs zs, x = .ref l ∧ y = .ref b ∧ Rd H l (.lst xs) ∧ Rd H b (.lst zs) ∧ xs.length + zs.length ≤ sizeLine ∧ ∀ p, H p = none → Q (.ref p) (upd H p (.lst (xs ++ zs)))
theorem op_catR : OpR X (binaryOp .Add) rCatR := by
  intro pins s σ H x y v u Q J ra rb hh
  obtain ⟨l1, l2, as, bs, rfl, rfl, h1, h2, hlen, fin⟩ := hh
  cases ra; cases rb
  obtain ⟨_, us, m1, V1, L1, o1⟩ := Inv.lstR J h1
  obtain ⟨_, ws, m2, V2, L2, o2⟩ := Inv.lstR J h2
  refine PySem.P.add_list o1 o2 ?_ (by simp only [List.size_toArray]; omega)
  rw [show us.toArray ++ ws.toArray = (us ++ ws).toArray by simp]
  exact ⟨.ref _, _, J.lnew (t' := s.toks) (V1.append V2) (by simp only [List.length_append]; omega), rfl, fin _ J.fresh⟩
def rTimR : R2 := fun x y H Q => ∃ l n as, x = .ref l ∧ y = .int n ∧ Rd H l (.lst as) ∧ (-(2 ^ 63) ≤ n ∧ n < 2 ^ 63) ∧ as.length * n.toNat ≤ sizeLine ∧ ∀ p, H p = none → Q (.ref p) (upd H p (.lst (List.replicate n.toNat as).flatten))
theorem rep_fold (us : List Value) (n : Nat) : List.foldl (fun x1 x2 => x1 ++ x2) #[] (List.replicate (if us.toArray.isEmpty = true then 0 else n) us.toArray) = (List.replicate n us).flatten.toArray := by
  have g : ∀ m, List.foldl (fun x1 x2 => x1 ++ x2) #[] (List.replicate m us.toArray) = (List.replicate m us).flatten.toArray := fun m => by simpa using foldl_rep us m []
  rw [g]
  cases us <;> simp
theorem op_timR : OpR X (binaryOp .Mult) rTimR := by
  intro pins s σ H x y v u Q J ra rb hh
  obtain ⟨l1, n, as, rfl, rfl, h1, ⟨ha, hb⟩, hlen, fin⟩ := hh
  cases ra; obtain ⟨t, rfl⟩ := rb
  obtain ⟨_, us, m1, V1, L1, o1⟩ := Inv.lstR J h1
  have hl : us.toArray.size * n.toNat ≤ sizeLine := by simp only [List.size_toArray, ← L1]; exact hlen
  have k1 : (sizeLine : Nat) ≤ (2 ^ 63 - 1) / 8 := by decide
  have k2 : ¬ (!Builtin.List.listFitsIndex n) = true := by simp [fitsIndex_both ha hb]
  have k3 : ¬ Builtin.List.listTooLong (us.toArray.size * n.toNat) = true := by simp only [notLongL hl, Bool.false_eq_true, not_false_eq_true]
  refine wpAny_binaryOp_repeat_ref (T := "list") (U := "int") (by decide) ⟨_, o1, rfl⟩ (fun s' => typeIs_int s' n t) noFill_list_mul F.fills_int_mul F.slot_int_rmul repeat_list F.slot_int_index.lookup ?_
  refine call_meets F.slot_int_rmul (typeIs_int s n t) F.entry_int_rmul (F.args_int_rmul_2 _ _) (int___rmul___int_list n t l1 us.toArray m1) ⟨o1, rfl, ⟨_, o1, rfl⟩, ?_⟩
  refine call_meets F.slot_list_mul ⟨_, o1, rfl⟩ F.entry_list_mul (F.args_list_mul_2 _ _) (AutoListH.list___mul___list_int_3 l1 us.toArray m1 n t k2 (by omega) k3) ⟨o1, ?_⟩
  rw [rep_fold]
  exact ⟨.ref _, _, J.lnew (t' := s.toks) (V1.rep n.toNat) (by rw [PyProof.Rows.lm_len_rep_flat, Nat.mul_comm]; exact hlen), rfl, fin _ J.fresh⟩
/-- a tuple times one is the tuple -/
theorem tup_times_one (l : Addr) (its : Array Value) (n : Nat) (dd : Option Addr) (sl : Array (Option Value)) (u : Tok) :
    Meets (Builtin.«tuple.__mul__» ⟨[.ref l, .int 1 u], []⟩) (fun _ R s => s.heap.get? l = some { cls := .type "tuple", dict := dd, data := .seq its n, slots := sl } ∧ R (.ok (.ret (Value.ref l))) s) :=
  .of_wp fun prog w A R s h => by
    obtain ⟨hp, g, d, tk, os⟩ := s
    obtain ⟨ho, h⟩ := h
    have f1 := AutoSeq1.idx_int
    have c1 : (its.isEmpty || (1 : Int) == 1) = true := by simp
    wp_walk using wpAny_loadPart' ho
    exact ⟨_, rfl, h⟩
def rOneT (K : PySem.W.Frag) : R2 := fun x y H Q => ∃ l xs, x = .ref l ∧ y = .int 1 ∧ SqT K H l xs ∧ Q (.ref l) H
theorem op_oneT : OpR X (binaryOp .Mult) (rOneT X.K) := by
  intro pins s σ H x y v u Q I rx ry h
  obtain ⟨l, xs, rfl, rfl, hT, q⟩ := h
  cases rx
  obtain ⟨t, rfl⟩ := ry
  obtain ⟨its, r, ⟨⟨cls, dd, data, sl⟩, ho, hc, n, hd⟩, hs⟩ := I.tuple hT
  simp only at hc hd
  subst hc hd
  exact wpAny_binaryOp_repeat_ref (T := "tuple") (U := "int") (by decide) ⟨_, ho, rfl⟩ (fun s' => typeIs_int s' 1 t) noFill_tuple_mul F.fills_int_mul F.slot_int_rmul repeat_tuple F.slot_int_index.lookup
    (call_meets F.slot_int_rmul (typeIs_int s 1 t) F.entry_int_rmul (F.args_int_rmul_2 _ _) (int_rmul_tuple 1 t l its.toArray n dd sl) ⟨ho, rfl, ⟨_, ho, rfl⟩, call_meets F.slot_tuple_mul ⟨_, ho, rfl⟩ F.entry_tuple_mul (F.args_tuple_mul_2 _ _) (tup_times_one l its.toArray n dd sl t) ⟨ho, .ref l, H, I, rfl, q⟩⟩)
theorem bin_ok {op : BOp} {d1 d2 : D} {r : Rs} (h : binD op d1 d2 = some r) : ∃ o, OpR X (binaryOp op.op) o ∧ OpS X.K o d1 d2 r := by
  unfold binD at h
  split at h
  · cases h
    exact ⟨_, op_add, fun H x y Q h1 h2 k => ⟨_, _, h1.int, h2.int, k _ H (same_refl H) (by simp only [Fr, Rp])⟩⟩
  · split at h
    · next hl =>
      cases h
      exact ⟨_, op_add_str, fun H x y Q h1 h2 k => ⟨_, _, h1.str.1, h2.str.1, lim_size hl, k _ H (same_refl H) (by simp only [Fr, Rp, true_and]; exact strOk_append h1.str.2 h2.str.2)⟩⟩
    · cases h
  · split at h
    · next hl =>
      cases h
      refine ⟨_, op_catA, fun H x y Q h1 h2 k => ?_⟩
      obtain ⟨a, vs, rfl, hs, hv⟩ := h1.tup
      obtain ⟨b, ws, rfl, hs2, hw⟩ := h2.tup
      refine ⟨a, b, vs, ws, rfl, rfl, hs, hs2, by rw [hv.length, hw.length]; exact lim_size hl, fun e => ?_, fun _ e => ?_, fun _ _ p hp => ?_⟩
      · refine k _ H (same_refl H) ?_
        simp only [Fr, Rp]
        have := hv.append hw
        rw [e, List.nil_append] at this
        exact ⟨b, ws, rfl, hs2, this⟩
      · refine k _ H (same_refl H) ?_
        simp only [Fr, Rp]
        have := hv.append hw
        rw [e, List.append_nil] at this
        exact ⟨a, vs, rfl, hs, this⟩
      · refine k _ _ (same_new hp) ?_
        simp only [Fr, Rp]
        exact ⟨p, vs ++ ws, rfl, SqT.of upd_same, RpL.per (Per.of_same (same_new hp)) _ _ (hv.append hw)⟩
    · cases h
  · split at h
    · next hl =>
      cases h
      refine ⟨_, op_catR, fun H x y Q h1 h2 k => ?_⟩
      obtain ⟨a, vs, rfl, hs, hv⟩ := h1.rd
      obtain ⟨b, ws, rfl, hs2, hw⟩ := h2.rd
      refine ⟨a, b, vs, ws, rfl, rfl, hs, hs2, by rw [hv.length, hw.length]; exact lim_size hl, fun p hp => ?_⟩
      exact k _ _ (same_new hp) ⟨p, rfl, hp, vs ++ ws, upd_same, RpL.per (Per.of_same (same_new hp)) _ _ (hv.append hw)⟩
    · cases h
  · cases h
    exact ⟨_, op_sub, fun H x y Q h1 h2 k => ⟨_, _, h1.int, h2.int, k _ H (same_refl H) (by simp only [Fr, Rp])⟩⟩
  · split at h
    · next hl =>
      cases h
      refine ⟨_, op_mul, fun H x y Q h1 h2 k => ⟨_, _, h1.int, h2.int, ?_, k _ H (same_refl H) (by simp only [Fr, Rp])⟩⟩
      rw [Bool.or_eq_true] at hl
      rcases hl with hl | hl
      · exact .inl (fits64_of hl)
      · exact .inr (fits64_of hl)
    · cases h
  · split at h
    · next hl =>
      cases h
      simp only [Bool.and_eq_true, decide_eq_true_eq] at hl
      obtain ⟨h1, h2⟩ := hl
      refine ⟨_, op_timR, fun H x y Q q1 q2 k => ?_⟩
      obtain ⟨a, vs, rfl, hs, hv⟩ := q1.rd
      refine ⟨a, _, vs, rfl, q2.int, hs, ?_, by rw [hv.length]; exact lim_size h2, fun p hp => ?_⟩
      · unfold small62 at h1
        simp only [Bool.and_eq_true, decide_eq_true_eq] at h1
        omega
      · exact k _ _ (same_new hp) ⟨p, rfl, hp, _, upd_same, RpL.per (Per.of_same (same_new hp)) _ _ (hv.rep _)⟩
    · cases h
  · split at h
    · next hl =>
      cases h
      subst hl
      refine ⟨_, op_oneT, fun H x y Q q1 q2 k => ?_⟩
      obtain ⟨a, vs, rfl, hs, hv⟩ := q1.tup
      exact ⟨a, vs, rfl, q2.int, hs, k _ H (same_refl H) (by simp only [Fr, Rp]; exact ⟨a, vs, rfl, hs, hv⟩)⟩
    split at h
    · next hl =>
      cases h
      simp only [Bool.and_eq_true, decide_eq_true_eq, Bool.not_eq_true'] at hl
      obtain ⟨⟨⟨h1, h2⟩, h3⟩, h4⟩ := hl
      refine ⟨_, op_repT, fun H x y Q q1 q2 k => ?_⟩
      obtain ⟨a, vs, rfl, hs, hv⟩ := q1.tup
      refine ⟨a, _, vs, rfl, q2.int, hs, fun e => ?_, h2, h3, by rw [hv.length]; exact h4, fun p hp => ?_⟩
      · subst e
        have := hv.length
        rw [List.length_nil] at this
        rw [List.isEmpty_eq_false_iff] at h1
        exact h1 (List.eq_nil_of_length_eq_zero this.symm)
      · refine k _ _ (same_new hp) ?_
        simp only [Fr, Rp]
        exact ⟨p, _, rfl, SqT.of upd_same, RpL.per (Per.of_same (same_new hp)) _ _ (hv.rep _)⟩
    · cases h
  · split at h
    · next hl =>
      cases h
      exact ⟨_, op_mod, fun H x y Q h1 h2 k => ⟨_, _, h1.int, h2.int, hl, k _ H (same_refl H) (by simp only [Fr, Rp])⟩⟩
    · cases h
  · split at h
    · next hl =>
      cases h
      exact ⟨_, op_fdiv, fun H x y Q h1 h2 k => ⟨_, _, h1.int, h2.int, hl, k _ H (same_refl H) (by simp only [Fr, Rp])⟩⟩
    · cases h
  · split at h
    · next hl =>
      cases h
      refine ⟨_, op_pow, fun H x y Q h1 h2 k => ⟨_, _, h1.int, h2.int, ⟨hl.1, hl.2.1, ?_⟩, k _ H (same_refl H) (by simp only [Fr, Rp])⟩⟩
      have := fits64_of hl.2.2
      omega
    · cases h
  · cases h
end
end Sv

namespace Sv
open PySem PySem.Spec PyProof.Rows L2
inductive COp where
  | eq | ne | lt | le | gt | ge | inn | nin | is | isn
  deriving DecidableEq
def COp.op : COp → CmpOp
  | .eq => .Eq
  | .ne => .NotEq
  | .lt => .Lt
  | .le => .LtE
  | .gt => .Gt
  | .ge => .GtE
  | .inn => .In
  | .nin => .NotIn
  | .is => .Is
  | .isn => .IsNot
def flatD : D → Bool
  | .non => true
  | .bl _ => true
  | .int _ => true
  | .str _ => true
  | _ => false
def isNon : D → Bool
  | .non => true
  | _ => false
def inD (x : D) (ys : List D) : Bool := ys.any fun y => eqD y x
def memD (x : D) : D → Option Bool
  | .lst ys => if dep x ≤ 64 ∧ dep (.lst ys) ≤ 64 then some (inD x ys) else none
  | .tup ys => if flatD x ∧ ys.all flatD then some (inD x ys) else none
  | .str z => match x with
    | .str w => match w.cps.toList with
      | [c] => some (decide (c ∈ z.cps.toList))
      | _ => none
    | _ => none
  | _ => none
def cmpD : COp → D → D → Option Bool
  | .eq, a, b => if dep a ≤ 64 ∧ dep b ≤ 64 then some (eqD a b) else none
  | .ne, a, b => if dep a ≤ 64 ∧ dep b ≤ 64 then some (!eqD a b) else none
  | .lt, .int a, .int b => some (decide (a < b))
  | .le, .int a, .int b => some (decide (a ≤ b))
  | .gt, .int a, .int b => some (decide (b < a))
  | .ge, .int a, .int b => some (decide (b ≤ a))
  | .lt, .str a, .str b => some (decide (a.cps.toList < b.cps.toList))
  | .inn, a, b => memD a b
  | .nin, a, b => (memD a b).map (!·)
  | .is, a, .non => some (isNon a)
  | .isn, a, .non => some (!isNon a)
  | .is, .bl a, .bl b => some (decide (a = b))
  | .isn, .bl a, .bl b => some (!decide (a = b))
  | _, _, _ => none
section
variable {X : Cx} {K : PySem.W.Frag} {H : Hp}
theorem isNon_v {d : D} {v : V} (h : RpR K H d v) : decide (v = .non) = isNon d := by
  cases d with
  | non => rw [h.non]; rfl
  | bl b => rw [h.bl]; rfl
  | int b => rw [h.int]; rfl
  | str b => rw [h.str.1]; rfl
  | tup b => obtain ⟨a, _, rfl, _⟩ := h.tup; rfl
  | lst b => obtain ⟨a, _, rfl, _⟩ := h.rd; rfl
  | dK b =>
    rcases h with h | ⟨a, rfl, _⟩
    · simp only [Rp] at h
      obtain ⟨a, _, _, rfl, _⟩ := h
      rfl
    · rfl
  | dT b =>
    rcases h with h | ⟨a, rfl, _⟩
    · simp only [Rp] at h
      obtain ⟨a, _, _, rfl, _⟩ := h
      rfl
    · rfl
  | scr b => obtain ⟨a, rfl, _⟩ := h.scr; rfl
theorem any_toPs (x : D) (hx : dep x ≤ 64) : ∀ ys : List D, depL ys ≤ 64 → ((toPs ys).any fun z => PyData.eqv z (toP x)) = inD x ys
  | [], _ => rfl
  | y :: ys, h => by
    simp only [depL] at h
    simp only [toPs, List.any_cons, inD]
    rw [eqD_eqv y x (by omega) hx, any_toPs x hx ys (by omega)]
    rfl
theorem flat_v {d : D} {v : V} (f : flatD d = true) (h : Rp K H d v) : flatV v = true := by
  cases d <;> simp only [flatD, reduceCtorEq] at f <;> simp only [Rp] at h
  · subst h; rfl
  · subst h; rfl
  · subst h; rfl
  · rw [h.1]; rfl
theorem eqV_eqD {a b : D} {x y : V} (fa : flatD a = true) (fb : flatD b = true) (ha : Rp K H a x) (hb : Rp K H b y) : eqV x y = eqD a b := by
  cases a <;> simp only [flatD, reduceCtorEq] at fa <;> cases b <;> simp only [flatD, reduceCtorEq] at fb <;> simp only [Rp] at ha hb
  all_goals first
    | (subst ha; subst hb; rfl)
    | (rw [ha.1]; subst hb; rfl)
    | (rw [hb.1]; subst ha; rfl)
    | (rw [ha.1, hb.1]; rfl)
theorem inV_inD {d : D} {x : V} (fd : flatD d = true) (hd : Rp K H d x) : ∀ {ys : List D} {vs : List V}, ys.all flatD = true → RpL K H ys vs → vs.all flatV = true ∧ inV x vs = inD d ys
  | [], vs, _, h => by
    simp only [RpL] at h
    subst h
    exact ⟨rfl, rfl⟩
  | y :: ys, vs, f, h => by
    simp only [RpL] at h
    obtain ⟨v, r, rfl, h1, h2⟩ := h
    rw [List.all_cons, Bool.and_eq_true] at f
    obtain ⟨i1, i2⟩ := inV_inD fd hd f.2 h2
    refine ⟨by rw [List.all_cons, flat_v f.1 h1, i1]; rfl, ?_⟩
    unfold inV inD at i2 ⊢
    rw [List.any_cons, List.any_cons, i2, eqV_eqD f.1 fd h1 hd]
theorem RpR.flat {d : D} {v : V} (f : flatD d = true) (h : RpR K H d v) : Rp K H d v := by
  rcases h with h | ⟨a, rfl, h⟩
  · exact h
  · cases d <;> simp only [flatD, reduceCtorEq] at f <;> simp [Cel] at h
theorem str_one {w : Str} {c : Nat} (h : w.cps.toList = [c]) : w = ⟨#[c]⟩ := by
  cases w with
  | mk a =>
    have : a = #[c] := by
      apply Array.ext'
      exact h
    rw [this]
theorem op_notIn_sign' : OpR X (compareOp .NotIn) (fun x y H Q => ∃ (c : Nat) (z : Str), x = .str ⟨#[c]⟩ ∧ y = .str z ∧ Q (.bl (!decide (c ∈ z.cps.toList))) H) := op_notIn_sign
theorem mem_ok {neg : Bool} {d1 d2 : D} {b : Bool} (hu : X.A.units + 65 < cLine) (h : memD d1 d2 = some b) :
    (∃ o, OpR X (compareOp .In) o ∧ OpS X.K o d1 d2 (.val (.bl b))) ∧ ∃ o, OpR X (compareOp .NotIn) o ∧ OpS X.K o d1 d2 (.val (.bl (!b))) := by
  unfold memD at h
  split at h
  · next ys =>
    split at h
    · next hd =>
      cases h
      have hl : depL ys ≤ 64 := by have := hd.2; simp only [dep] at this; omega
      refine ⟨⟨_, op_inD hu, fun H x y Q h1 h2 k => ?_⟩, _, op_notInD hu, fun H x y Q h1 h2 k => ?_⟩
      · obtain ⟨a, b⟩ := h1.dp hd.1
        obtain ⟨c, e⟩ := h2.dp hd.2
        refine ⟨_, _, a, c, b, e, k _ H (same_refl H) ?_⟩
        simp only [Fr, Rp]
        rw [any_toPs _ hd.1 ys hl]
      · obtain ⟨a, b⟩ := h1.dp hd.1
        obtain ⟨c, e⟩ := h2.dp hd.2
        refine ⟨_, _, a, c, b, e, k _ H (same_refl H) ?_⟩
        simp only [Fr, Rp]
        rw [any_toPs _ hd.1 ys hl]
    · cases h
  · next ys =>
    split at h
    · next hd =>
      cases h
      refine ⟨⟨_, op_in_seq, fun H x y Q h1 h2 k => ?_⟩, _, op_notIn_seq, fun H x y Q h1 h2 k => ?_⟩
      · obtain ⟨a, vs, rfl, hs, hv⟩ := h2.tup
        have r1 := h1.flat hd.1
        obtain ⟨i1, i2⟩ := inV_inD hd.1 r1 hd.2 hv
        refine ⟨a, vs, rfl, .inr hs, flat_v hd.1 r1, i1, k _ H (same_refl H) ?_⟩
        simp only [Fr, Rp]
        rw [if_neg (by decide), i2]
      · obtain ⟨a, vs, rfl, hs, hv⟩ := h2.tup
        have r1 := h1.flat hd.1
        obtain ⟨i1, i2⟩ := inV_inD hd.1 r1 hd.2 hv
        refine ⟨a, vs, rfl, .inr hs, flat_v hd.1 r1, i1, k _ H (same_refl H) ?_⟩
        simp only [Fr, Rp]
        rw [if_pos trivial, i2]
    · cases h
  · split at h
    · split at h
      · next w c hw =>
        cases h
        have e := str_one hw
        subst e
        refine ⟨⟨_, op_in_sign, fun H x y Q h1 h2 k => ⟨_, _, h1.str.1, h2.str.1, k _ H (same_refl H) (by simp only [Fr, Rp])⟩⟩, _, op_notIn_sign', fun H x y Q h1 h2 k => ⟨_, _, h1.str.1, h2.str.1, k _ H (same_refl H) (by simp only [Fr, Rp])⟩⟩
      · cases h
    · cases h
  · cases h
theorem cmp_ok {op : COp} {d1 d2 : D} {b : Bool} (hu : X.A.units + 65 < cLine) (h : cmpD op d1 d2 = some b) : ∃ o, OpR X (compareOp op.op) o ∧ OpS X.K o d1 d2 (.val (.bl b)) := by
  unfold cmpD at h
  split at h
  · split at h
    · next hd =>
      cases h
      refine ⟨_, op_eqD (by omega), fun H x y Q h1 h2 k => ?_⟩
      obtain ⟨a, b⟩ := h1.dp hd.1
      obtain ⟨c, e⟩ := h2.dp hd.2
      refine ⟨_, _, a, c, b, e, k _ H (same_refl H) ?_⟩
      simp only [Fr, Rp]
      rw [eqD_eqv _ _ hd.1 hd.2]
    · cases h
  · split at h
    · next hd =>
      cases h
      refine ⟨_, op_neD (by omega), fun H x y Q h1 h2 k => ?_⟩
      obtain ⟨a, b⟩ := h1.dp hd.1
      obtain ⟨c, e⟩ := h2.dp hd.2
      refine ⟨_, _, a, c, b, e, k _ H (same_refl H) ?_⟩
      simp only [Fr, Rp]
      rw [eqD_eqv _ _ hd.1 hd.2]
    · cases h
  · cases h
    exact ⟨_, op_lt, fun H x y Q h1 h2 k => ⟨_, _, h1.int, h2.int, k _ H (same_refl H) (by simp only [Fr, Rp])⟩⟩
  · cases h
    exact ⟨_, op_le, fun H x y Q h1 h2 k => ⟨_, _, h1.int, h2.int, k _ H (same_refl H) (by simp only [Fr, Rp])⟩⟩
  · cases h
    exact ⟨_, op_gt, fun H x y Q h1 h2 k => ⟨_, _, h1.int, h2.int, k _ H (same_refl H) (by simp only [Fr, Rp])⟩⟩
  · cases h
    exact ⟨_, op_ge, fun H x y Q h1 h2 k => ⟨_, _, h1.int, h2.int, k _ H (same_refl H) (by simp only [Fr, Rp])⟩⟩
  · cases h
    exact ⟨_, op_lt_str, fun H x y Q h1 h2 k => ⟨_, _, h1.str.1, h2.str.1, k _ H (same_refl H) (by simp only [Fr, Rp])⟩⟩
  · exact (mem_ok (neg := false) hu h).1
  · cases hm : memD d1 d2 with
    | none => rw [hm] at h; cases h
    | some b' =>
      rw [hm] at h
      cases h
      exact (mem_ok (neg := true) hu hm).2
  · cases h
    exact ⟨_, op_isN, fun H x y Q h1 h2 k => ⟨h2.non, k _ H (same_refl H) (by simp only [Fr, Rp]; rw [isNon_v h1])⟩⟩
  · cases h
    exact ⟨_, op_notN, fun H x y Q h1 h2 k => ⟨h2.non, k _ H (same_refl H) (by simp only [Fr, Rp]; rw [isNon_v h1])⟩⟩
  · cases h
    exact ⟨_, op_isBl, fun H x y Q h1 h2 k => ⟨_, _, h1.bl, h2.bl, k _ H (same_refl H) (by simp only [Fr, Rp])⟩⟩
  · cases h
    exact ⟨_, op_notBl, fun H x y Q h1 h2 k => ⟨_, _, h1.bl, h2.bl, k _ H (same_refl H) (by simp only [Fr, Rp])⟩⟩
  · cases h
end
/-! an item, a slice -/
def ixD : D → D → Option D
  | .lst xs, .int i => atI xs i
  | .tup xs, .int i => atI xs i
  | .scr ns, .int i => (atI ns i).map .int
  | .str z, .int i => if z.length ≤ lim then (atI z.cps.toList i).map fun c => .str ⟨#[c]⟩ else none
  | _, _ => none
theorem atI_rp {K : PySem.W.Frag} {H : Hp} {xs : List D} {vs : List V} {i : Int} {d : D} (h : RpL K H xs vs) (ha : atI xs i = some d) : ∃ v, atI vs i = some v ∧ Rp K H d v := by
  unfold atI at ha ⊢
  rw [h.length]
  cases hx : ixN xs.length i with
  | none => rw [hx] at ha; cases ha
  | some j =>
    rw [hx] at ha
    exact h.get ha
theorem ix_ok {X : Cx} {d1 d2 d : D} (h : ixD d1 d2 = some d) : ∃ o, IxR X o ∧ OpS X.K o d1 d2 (.val d) := by
  unfold ixD at h
  split at h
  · refine ⟨_, ix_list, fun H x y Q h1 h2 k => ?_⟩
    obtain ⟨a, vs, rfl, hs, hv⟩ := h1.lst
    obtain ⟨v, g1, g2⟩ := atI_rp hv h
    exact ⟨a, vs, _, v, rfl, h2.int, hs, g1, k _ H (same_refl H) g2⟩
  · refine ⟨_, ix_tup, fun H x y Q h1 h2 k => ?_⟩
    obtain ⟨a, vs, rfl, hs, hv⟩ := h1.tup
    obtain ⟨v, g1, g2⟩ := atI_rp hv h
    exact ⟨a, vs, _, v, rfl, h2.int, hs, g1, k _ H (same_refl H) g2⟩
  · next ns i =>
    rw [Option.map_eq_some_iff] at h
    obtain ⟨n, h1, rfl⟩ := h
    refine ⟨_, ix_list, fun H x y Q q1 q2 k => ?_⟩
    obtain ⟨a, rfl, hs⟩ := q1.scr
    have g1 : atI (ns.map V.int) i = some (.int n) := by
      unfold atI at h1 ⊢
      rw [List.length_map]
      cases hx : ixN ns.length i with
      | none => rw [hx] at h1; cases h1
      | some j =>
        rw [hx] at h1
        show (ns.map V.int)[j]? = some (.int n)
        rw [List.getElem?_map, show ns[j]? = some n from h1]
        rfl
    exact ⟨a, _, _, _, rfl, q2.int, hs, g1, k _ H (same_refl H) (by simp only [Fr, Rp])⟩
  · next z i =>
    split at h
    · next hl =>
      cases ha : atI z.cps.toList i with
      | none => rw [ha] at h; cases h
      | some c =>
        rw [ha] at h
        cases h
        refine ⟨_, ix_str, fun H x y Q h1 h2 k => ⟨_, _, c, h1.str.1, h2.int, lim_size hl, ha, k _ H (same_refl H) ?_⟩⟩
        simp only [Fr, Rp, true_and]
        obtain ⟨j, _, hj, _⟩ := atI_get ha
        exact strOk_at h1.str.2 (List.mem_of_getElem? hj)
    · cases h
  · cases h
def cutD {α : Type} (xs : List α) (lo hi : Option Int) : List α := (xs.drop (HT.sIx xs.length 0 lo)).take (HT.sIx xs.length xs.length hi - HT.sIx xs.length 0 lo)
def slD : D → Option Int → Option Int → Option Rs
  | .lst xs, lo, hi => some (.new (.lst (cutD xs lo hi)))
  | .tup xs, lo, hi => some (.val (.tup (cutD xs lo hi)))
  | .str z, lo, hi => if z.length ≤ lim then some (.val (.str ⟨(cutD z.cps.toList lo hi).toArray⟩)) else none
  | _, _, _ => none
theorem RpL.drop {K : PySem.W.Frag} {H : Hp} : ∀ {xs : List D} {vs : List V} (n : Nat), RpL K H xs vs → RpL K H (xs.drop n) (vs.drop n)
  | xs, vs, 0, h => h
  | [], vs, n + 1, h => by
    simp only [RpL] at h
    subst h
    simp [RpL]
  | x :: xs, vs, n + 1, h => by
    simp only [RpL] at h
    obtain ⟨v, r, rfl, h1, h2⟩ := h
    exact RpL.drop n h2
theorem RpL.take {K : PySem.W.Frag} {H : Hp} : ∀ {xs : List D} {vs : List V} (n : Nat), RpL K H xs vs → RpL K H (xs.take n) (vs.take n)
  | xs, vs, 0, h => by simp [RpL]
  | [], vs, n + 1, h => by
    simp only [RpL] at h
    subst h
    simp [RpL]
  | x :: xs, vs, n + 1, h => by
    simp only [RpL] at h
    obtain ⟨v, r, rfl, h1, h2⟩ := h
    simp only [List.take_succ_cons, RpL]
    exact ⟨v, _, rfl, h1, RpL.take n h2⟩
theorem RpL.cut {K : PySem.W.Frag} {H : Hp} {xs : List D} {vs : List V} (lo hi : Option Int) (h : RpL K H xs vs) : RpL K H (cutD xs lo hi) (cutV vs lo hi) := by
  unfold cutD cutV
  rw [h.length]
  exact RpL.take _ (RpL.drop _ h)
def SlS (K : PySem.W.Frag) (o : V → Option Int → Option Int → Hp → VK → Prop) (d1 : D) (lo hi : Option Int) (r : Rs) : Prop := ∀ (H : Hp) (x : V) (Q : VK), RpR K H d1 x → (∀ v H', Same H H' → Fr K H r v H' → Q v H') → o x lo hi H Q
theorem strOk_sub {z : Str} {cs : List Nat} (h : PyData.strOk z = true) (hc : ∀ c ∈ cs, c ∈ z.cps.toList) : PyData.strOk ⟨cs.toArray⟩ = true := by
  unfold PyData.strOk at h ⊢
  rw [← Array.all_toList, List.all_eq_true] at h ⊢
  intro k hk
  exact h k (hc k (by simpa using hk))
theorem sl_ok {X : Cx} {d1 : D} {lo hi : Option Int} {r : Rs} (h : slD d1 lo hi = some r) : ∃ o, SlR X o ∧ SlS X.K o d1 lo hi r := by
  unfold slD at h
  split at h
  · cases h
    refine ⟨_, sl_list, fun H x Q h1 k => ?_⟩
    obtain ⟨a, vs, rfl, hs, hv⟩ := h1.lst
    refine ⟨a, vs, rfl, hs, fun p hp => k _ _ (same_new hp) ?_⟩
    exact ⟨p, rfl, hp, _, upd_same, RpL.per (Per.of_same (same_new hp)) _ _ (hv.cut _ _)⟩
  · cases h
    refine ⟨_, sl_tupA, fun H x Q h1 k => ?_⟩
    obtain ⟨a, vs, rfl, hs, hv⟩ := h1.tup
    refine ⟨a, vs, rfl, hs, fun hw => k _ H (same_refl H) ?_, fun hw p hp => k _ _ (same_new hp) ?_⟩
    · simp only [Fr, Rp]
      have := hv.cut lo hi
      have e : cutV vs lo hi = vs := by
        unfold cutV
        rw [hw.1, hw.2, List.drop_zero, Nat.sub_zero, List.take_length]
      rw [e] at this
      exact ⟨a, vs, rfl, hs, this⟩
    · simp only [Fr, Rp]
      exact ⟨p, _, rfl, SqT.of upd_same, RpL.per (Per.of_same (same_new hp)) _ _ (hv.cut _ _)⟩
  · split at h
    · next hl =>
      cases h
      refine ⟨_, sl_str, fun H x Q h1 k => ⟨_, h1.str.1, lim_size hl, k _ H (same_refl H) ?_⟩⟩
      simp only [Fr, Rp]
      refine ⟨rfl, strOk_sub h1.str.2 fun c hc => ?_⟩
      unfold cutD at hc
      exact List.mem_of_mem_drop (List.mem_of_mem_take hc)
    · cases h
  · cases h
def rdO (K : PySem.W.Frag) (Γ : Gm) (o : Option Int) (Γ' : Gm) : TO := fun σ H Q => EnvOk K Γ σ H ∧ ∀ H', Ste K Γ σ H Γ' σ H' → Q o H'
def DO (X : Cx) (e : Option Expr) (Γ : Gm) (o : Option Int) (Γ' : Gm) : Prop := PO X e (rdO X.K Γ o Γ')
section
variable {X : Cx} {Γ Γ1 Γ2 Γ3 : Gm} {e : Expr} {r r1 : Rs} {d1 : D} {pos p2 : Pos} {lo hi : Option Expr} {l u : Option Int}
theorem do_none : DO X none Γ none Γ := ⟨fun pins s σ H Q I q => po_none.run pins s σ H Q I (q.2 H (Ste.refl q.1))⟩
theorem do_some {i : Int} (h : DE X e Γ r Γ1) (hr : readR r Γ1 = some (.int i)) : DO X (some e) Γ (some i) Γ1 :=
  ⟨fun pins s σ H Q I q => (po_some h).run pins s σ H Q I ⟨q.1, fun v H1 s1 p1 o1 => ⟨i, (read_ok s1.env p1 hr).int, q.2 H1 s1⟩⟩⟩
theorem de_slice {o : V → Option Int → Option Int → Hp → VK → Prop} (ho : SlR X o) (he : DE X e Γ r1 Γ1) (hl : DO X lo Γ1 l Γ2) (hu : DO X hi Γ2 u Γ3) (h1 : readR r1 Γ3 = some d1) (hs : SlS X.K o d1 l u r) : DE X (.Subscript e (.Slice lo hi none p2) pos) Γ r Γ3 :=
  pe_sub (pe_slice ho he hl hu) fun σ H Q q => ⟨q.1, fun x H1 s1 p1 o1 => ⟨s1.env, fun H2 s2 => ⟨s2.env, fun H3 s3 => hs H3 x _ (read_ok s3.env ((p1.ste s2).ste s3) h1) fun v H4 sm f => by
    obtain ⟨s4, p4, o4⟩ := f.lift s3.env sm
    exact q.2 v H4 (((s1.trans s2).trans s3).trans s4) p4 (o4.ste ((s1.trans s2).trans s3))⟩⟩⟩
end
end Sv

namespace Sv
open PySem PySem.Spec PyProof.Rows L2
/-! built-in functions, by data -/
inductive Bi where
  | len | abs | min | max | sum | all | any | tuple | list | int | str
  deriving DecidableEq
def Bi.name : Bi → Str
  | .len => "len"
  | .abs => "abs"
  | .min => "min"
  | .max => "max"
  | .sum => "sum"
  | .all => "all"
  | .any => "any"
  | .tuple => "tuple"
  | .list => "list"
  | .int => "int"
  | .str => "str"
def Bi.val : Bi → Value
  | .len => .builtin "len"
  | .abs => .builtin "abs"
  | .min => .builtin "min"
  | .max => .builtin "max"
  | .sum => .builtin "sum"
  | .all => .builtin "all"
  | .any => .builtin "any"
  | .tuple => .type "tuple"
  | .list => .type "list"
  | .int => .type "int"
  | .str => .type "str"
theorem Bi.boot (b : Bi) : bootBuiltins b.name = some b.val := by cases b <;> decide +kernel
theorem Bi.plain (b : Bi) : b.name ≠ "__name__" ∧ (b.name == ("__debug__" : Str)) = false := by cases b <;> exact ⟨by decide, by decide⟩
def intsOf : List D → Option (List Int)
  | [] => some []
  | .int i :: ds => (intsOf ds).map (i :: ·)
  | _ => none
def boolsOf : List D → Option (List Bool)
  | [] => some []
  | .bl i :: ds => (boolsOf ds).map (i :: ·)
  | _ => none
def maxI : List Int → Int
  | [] => 0
  | [x] => x
  | x :: xs => max x (maxI xs)
def minI : List Int → Int
  | [] => 0
  | [x] => x
  | x :: xs => min x (minI xs)
def biD : Bi → List D → Option Rs
  | .len, [.lst xs] => some (.val (.int xs.length))
  | .len, [.tup xs] => some (.val (.int xs.length))
  | .len, [.scr xs] => some (.val (.int xs.length))
  | .len, [.str z] => if z.length ≤ lim then some (.val (.int z.length)) else none
  | .abs, [.int i] => some (.val (.int (if i < 0 then -i else i)))
  | .min, [.int i, .int j] => some (.val (.int (if j < i then j else i)))
  | .max, [.int i, .int j] => some (.val (.int (if j > i then j else i)))
  | .min, [.lst xs] => match intsOf xs with
    | some (n :: ns) => some (.val (.int (minI (n :: ns))))
    | _ => none
  | .max, [.lst xs] => match intsOf xs with
    | some (n :: ns) => some (.val (.int (maxI (n :: ns))))
    | _ => none
  | .sum, [.lst xs] => (intsOf xs).map fun ns => .val (.int ns.sum)
  | .all, [.lst xs] => (boolsOf xs).map fun bs => .val (.bl (bs.all id))
  | .any, [.lst xs] => (boolsOf xs).map fun bs => .val (.bl (bs.any id))
  | .tuple, [.lst xs] => some (.val (.tup xs))
  | .tuple, [.tup xs] => some (.val (.tup xs))
  | .list, [.lst xs] => some (.new (.lst xs))
  | .list, [.tup xs] => some (.new (.lst xs))
  | .int, [.int i] => some (.val (.int i))
  | .int, [.bl b] => some (.val (.int (if b then 1 else 0)))
  | .str, [.int i] => if i.natAbs < 2 ^ 200 then some (.val (.str (toString i : String))) else none
  | _, _ => none
section
variable {X : Cx} {K : PySem.W.Frag} {H : Hp}
theorem intsOf_v : ∀ {xs : List D} {ns : List Int} {vs : List V}, intsOf xs = some ns → RpL K H xs vs → vs = ns.map V.int
  | [], ns, vs, h, r => by
    simp only [intsOf, Option.some.injEq] at h
    subst h
    simp only [RpL] at r
    exact r
  | d :: xs, ns, vs, h, r => by
    cases d <;> simp only [intsOf, reduceCtorEq] at h
    next i =>
    cases hx : intsOf xs with
    | none => rw [hx] at h; cases h
    | some ms =>
      rw [hx] at h
      cases h
      simp only [RpL] at r
      obtain ⟨v, w, rfl, h1, h2⟩ := r
      simp only [Rp] at h1
      rw [h1, intsOf_v hx h2]
      rfl
theorem boolsOf_v : ∀ {xs : List D} {ns : List Bool} {vs : List V}, boolsOf xs = some ns → RpL K H xs vs → vs = ns.map V.bl
  | [], ns, vs, h, r => by
    simp only [boolsOf, Option.some.injEq] at h
    subst h
    simp only [RpL] at r
    exact r
  | d :: xs, ns, vs, h, r => by
    cases d <;> simp only [boolsOf, reduceCtorEq] at h
    next i =>
    cases hx : boolsOf xs with
    | none => rw [hx] at h; cases h
    | some ms =>
      rw [hx] at h
      cases h
      simp only [RpL] at r
      obtain ⟨v, w, rfl, h1, h2⟩ := r
      simp only [Rp] at h1
      rw [h1, boolsOf_v hx h2]
      rfl
theorem maxI_is : ∀ (x : Int) (xs : List Int) (m : Int), m ∈ x :: xs → (∀ y ∈ x :: xs, y ≤ m) → m = maxI (x :: xs)
  | x, [], m, h, _ => by simpa [maxI] using h
  | x, y :: ys, m, h, k => by
    have mm : ∀ (y : Int) (ys : List Int), maxI (y :: ys) ∈ y :: ys := by
      intro y ys
      induction ys generalizing y with
      | nil => simp [maxI]
      | cons z zs ih =>
        simp only [maxI]
        have := ih z
        by_cases c : y ≤ maxI (z :: zs)
        · rw [Int.max_eq_right c]; exact List.mem_cons_of_mem _ this
        · rw [Int.max_eq_left (by omega)]; exact List.mem_cons_self
    have ge : ∀ (y : Int) (ys : List Int), ∀ z ∈ y :: ys, z ≤ maxI (y :: ys) := by
      intro y ys
      induction ys generalizing y with
      | nil => intro z hz; simp at hz; simp [maxI, hz]
      | cons w ws ih =>
        intro z hz
        simp only [maxI]
        rcases List.mem_cons.1 hz with rfl | hz
        · omega
        · have := ih w z hz; omega
    have h1 := k _ (mm x (y :: ys))
    have h2 := ge x (y :: ys) m h
    omega
theorem minI_is : ∀ (x : Int) (xs : List Int) (m : Int), m ∈ x :: xs → (∀ y ∈ x :: xs, m ≤ y) → m = minI (x :: xs)
  | x, [], m, h, _ => by simpa [minI] using h
  | x, y :: ys, m, h, k => by
    have mm : ∀ (y : Int) (ys : List Int), minI (y :: ys) ∈ y :: ys := by
      intro y ys
      induction ys generalizing y with
      | nil => simp [minI]
      | cons z zs ih =>
        simp only [minI]
        have := ih z
        by_cases c : y ≤ minI (z :: zs)
        · rw [Int.min_eq_left c]; exact List.mem_cons_self
        · rw [Int.min_eq_right (by omega)]; exact List.mem_cons_of_mem _ this
    have ge : ∀ (y : Int) (ys : List Int), ∀ z ∈ y :: ys, minI (y :: ys) ≤ z := by
      intro y ys
      induction ys generalizing y with
      | nil => intro z hz; simp at hz; simp [minI, hz]
      | cons w ws ih =>
        intro z hz
        simp only [minI]
        rcases List.mem_cons.1 hz with rfl | hz
        · omega
        · have := ih w z hz; omega
    have h1 := k _ (mm x (y :: ys))
    have h2 := ge x (y :: ys) m h
    omega
theorem strOk_of_string (s : String) (h : PyData.strOk (Str.ofString s) = true) : PyData.strOk (s : Str) = true := h
theorem log2_small {i : Int} (h : i.natAbs < 2 ^ 200) : i.natAbs.log2 < 1920 := by
  by_cases z : i.natAbs = 0
  · rw [z]; decide
  · have := (Nat.log2_lt z).2 (Nat.lt_of_lt_of_le h (Nat.pow_le_pow_right (by decide) (by decide : 200 ≤ 1920)))
    exact this
theorem bi_ok {b : Bi} {ds : List D} {r : Rs} (hc : X.calm = true) (h : biD b ds = some r) (hns : b ≠ .str) : ∃ o, CallR X b.val o ∧ CaS X.K o ds r := by
  unfold biD at h
  split at h
  · cases h
    refine ⟨_, call_len_seq, fun H xs Q g0 k => ?_⟩
    obtain ⟨v, rfl, h1⟩ := RpRL.one g0
    obtain ⟨a, vs, rfl, hs, hv⟩ := h1.lst
    exact ⟨a, vs, rfl, .inl hs, k _ H (same_refl H) (by simp only [Fr, Rp]; rw [hv.length])⟩
  · cases h
    refine ⟨_, call_len_seq, fun H xs Q g0 k => ?_⟩
    obtain ⟨v, rfl, h1⟩ := RpRL.one g0
    obtain ⟨a, vs, rfl, hs, hv⟩ := h1.tup
    exact ⟨a, vs, rfl, .inr hs, k _ H (same_refl H) (by simp only [Fr, Rp]; rw [hv.length])⟩
  · cases h
    refine ⟨_, call_len_seq, fun H xs Q g0 k => ?_⟩
    obtain ⟨v, rfl, h1⟩ := RpRL.one g0
    obtain ⟨a, rfl, hs⟩ := h1.scr
    exact ⟨a, _, rfl, .inl hs, k _ H (same_refl H) (by simp only [Fr, Rp]; rw [List.length_map])⟩
  · split at h
    · next hl =>
      cases h
      refine ⟨_, call_len_str, fun H xs Q g0 k => ?_⟩
      obtain ⟨v, rfl, h1⟩ := RpRL.one g0
      rw [h1.str.1]
      exact ⟨_, rfl, lim_size hl, k _ H (same_refl H) (by simp only [Fr, Rp])⟩
    · cases h
  · cases h
    refine ⟨_, call_abs, fun H xs Q g0 k => ?_⟩
    obtain ⟨v, rfl, h1⟩ := RpRL.one g0
    rw [h1.int]
    exact ⟨_, rfl, k _ H (same_refl H) (by simp only [Fr, Rp])⟩
  · cases h
    refine ⟨_, call_min2 hc, fun H xs Q g0 k => ?_⟩
    obtain ⟨v, w, rfl, h1, h2⟩ := RpRL.two g0
    rw [h1.int, h2.int]
    exact ⟨_, _, rfl, k _ H (same_refl H) (by simp only [Fr, Rp])⟩
  · cases h
    refine ⟨_, call_max2 hc, fun H xs Q g0 k => ?_⟩
    obtain ⟨v, w, rfl, h1, h2⟩ := RpRL.two g0
    rw [h1.int, h2.int]
    exact ⟨_, _, rfl, k _ H (same_refl H) (by simp only [Fr, Rp])⟩
  · split at h
    · next n ns hn =>
      cases h
      refine ⟨_, cr_min hc, fun H xs Q g0 k => ?_⟩
      obtain ⟨v, rfl, h1⟩ := RpRL.one g0
      obtain ⟨a, vs, rfl, hs, hv⟩ := h1.lst
      have e := intsOf_v hn hv
      subst e
      refine ⟨a, n :: ns, rfl, hs, by simp, fun m hm hle => k _ H (same_refl H) ?_⟩
      simp only [Fr, Rp]
      rw [minI_is n ns m hm hle]
    · cases h
  · split at h
    · next n ns hn =>
      cases h
      refine ⟨_, cr_max hc, fun H xs Q g0 k => ?_⟩
      obtain ⟨v, rfl, h1⟩ := RpRL.one g0
      obtain ⟨a, vs, rfl, hs, hv⟩ := h1.lst
      have e := intsOf_v hn hv
      subst e
      refine ⟨a, n :: ns, rfl, hs, by simp, fun m hm hle => k _ H (same_refl H) ?_⟩
      simp only [Fr, Rp]
      rw [maxI_is n ns m hm hle]
    · cases h
  · next xs =>
    cases hn : intsOf xs with
    | none => rw [hn] at h; cases h
    | some ns =>
      rw [hn] at h
      cases h
      refine ⟨_, cr_sum hc, fun H xs Q g0 k => ?_⟩
      obtain ⟨v, rfl, h1⟩ := RpRL.one g0
      obtain ⟨a, vs, rfl, hs, hv⟩ := h1.lst
      have e := intsOf_v hn hv
      subst e
      exact ⟨a, ns, rfl, hs, k _ H (same_refl H) (by simp only [Fr, Rp])⟩
  · next xs =>
    cases hn : boolsOf xs with
    | none => rw [hn] at h; cases h
    | some ns =>
      rw [hn] at h
      cases h
      refine ⟨_, cr_all hc, fun H xs Q g0 k => ?_⟩
      obtain ⟨v, rfl, h1⟩ := RpRL.one g0
      obtain ⟨a, vs, rfl, hs, hv⟩ := h1.lst
      have e := boolsOf_v hn hv
      subst e
      exact ⟨a, ns, rfl, hs, k _ H (same_refl H) (by simp only [Fr, Rp])⟩
  · next xs =>
    cases hn : boolsOf xs with
    | none => rw [hn] at h; cases h
    | some ns =>
      rw [hn] at h
      cases h
      refine ⟨_, cr_any hc, fun H xs Q g0 k => ?_⟩
      obtain ⟨v, rfl, h1⟩ := RpRL.one g0
      obtain ⟨a, vs, rfl, hs, hv⟩ := h1.lst
      have e := boolsOf_v hn hv
      subst e
      exact ⟨a, ns, rfl, hs, k _ H (same_refl H) (by simp only [Fr, Rp])⟩
  · cases h
    refine ⟨_, call_tuple_of, fun H xs Q g0 k => ?_⟩
    obtain ⟨v, rfl, h1⟩ := RpRL.one g0
    obtain ⟨a, vs, rfl, hs, hv⟩ := h1.lst
    refine ⟨a, vs, rfl, .inl ⟨hs, fun l hl => k _ _ (same_new hl) ?_⟩⟩
    simp only [Fr, Rp]
    exact ⟨l, vs, rfl, SqT.of upd_same, RpL.per (Per.of_same (same_new hl)) _ _ hv⟩
  · cases h
    refine ⟨_, call_tuple_of, fun H xs Q g0 k => ?_⟩
    obtain ⟨v, rfl, h1⟩ := RpRL.one g0
    obtain ⟨a, vs, rfl, hs, hv⟩ := h1.tup
    refine ⟨a, vs, rfl, .inr ⟨hs, k _ _ (same_refl H) ?_⟩⟩
    simp only [Fr, Rp]
    exact ⟨a, vs, rfl, hs, hv⟩
  · cases h
    refine ⟨_, call_list_of, fun H xs Q g0 k => ?_⟩
    obtain ⟨v, rfl, h1⟩ := RpRL.one g0
    obtain ⟨a, vs, rfl, hs, hv⟩ := h1.lst
    exact ⟨a, vs, rfl, .inl hs, fun l hl => k _ _ (same_new hl) ⟨l, rfl, hl, vs, upd_same, RpL.per (Per.of_same (same_new hl)) _ _ hv⟩⟩
  · cases h
    refine ⟨_, call_list_of, fun H xs Q g0 k => ?_⟩
    obtain ⟨v, rfl, h1⟩ := RpRL.one g0
    obtain ⟨a, vs, rfl, hs, hv⟩ := h1.tup
    exact ⟨a, vs, rfl, .inr hs, fun l hl => k _ _ (same_new hl) ⟨l, rfl, hl, vs, upd_same, RpL.per (Per.of_same (same_new hl)) _ _ hv⟩⟩
  · cases h
    refine ⟨_, call_int1, fun H xs Q g0 k => ?_⟩
    obtain ⟨v, rfl, h1⟩ := RpRL.one g0
    rw [h1.int]
    exact .inl ⟨_, rfl, k _ H (same_refl H) (by simp only [Fr, Rp])⟩
  · cases h
    refine ⟨_, call_int1, fun H xs Q g0 k => ?_⟩
    obtain ⟨v, rfl, h1⟩ := RpRL.one g0
    rw [h1.bl]
    exact .inr ⟨_, rfl, k _ H (same_refl H) (by simp only [Fr, Rp])⟩
  · exact absurd rfl hns
  · cases h
end
/-- a built-in called -/
theorem de_bi {X : Cx} {Γ Γ1 : Gm} {b : Bi} {p pos : Pos} {e : Expr} {es : List Expr} {rs : List Rs} {ds : List D} {r : Rs} (hc : X.calm = true) (hg : Gl X b.name) (hm : X.mg b.name = none) (ha : DA X (e :: es) Γ rs Γ1) (hr : readRs rs Γ1 = some ds) (hb : biD b ds = some r) (hns : b ≠ .str)
    (he : starEach (e :: es) X.env = (false, eval e X.env) :: starEach es X.env) (hpl : (backTo pos (starEach es X.env)).any (·.1) = false) : DE X (.Call (.Name b.name p) (e :: es) [] pos) Γ r Γ1 := by
  obtain ⟨o, c1, c2⟩ := bi_ok hc hb hns
  have bt := b.boot
  cases hv : b.val with
  | builtin id =>
    rw [hv] at c1 bt
    exact de_callB c1 hg hm bt ha hr c2 b.plain.1 b.plain.2 he hpl
  | type T =>
    rw [hv] at c1 bt
    exact de_callTy c1 hg hm bt ha hr c2 b.plain.1 b.plain.2 he hpl
  | _ => cases b <;> simp [Bi.val] at hv
end Sv

namespace Sv
open PySem PySem.Spec PyProof.Rows L2
section
variable {X : Cx} {Γ Γ1 Γ2 Γ3 : Gm} {o e e2 : Expr} {es : List Expr} {r r1 r2 : Rs} {d d1 : D} {ds xs : List D} {i : Nat} {ap cp pos p p2 p3 : Pos}
/-- x.append(e) -/
theorem de_append (ho : DE X o Γ (.slot i) Γ1) (ha : DC X [e] Γ1 [d] Γ2) (hw : ownAt Γ2 i = some (.lst xs)) (hl : xs.length < 1000000)
    (hbase : attributeBase o "append" X.env (eval o X.env) = eval o X.env) (hst : starEach [e] X.env = [(false, eval e X.env)]) (hline : (ap.endLine == cp.line) = true) :
    (o' : ownAt Γ1 i ≠ none) → (∀ xs, ownAt Γ1 i = some xs → ∃ ys, xs = .lst ys) → DE X (.Call (.Attribute o "append" ap) [e] [] cp) Γ (.val .non) (setOwn Γ2 i (.lst (xs ++ [d]))) := by
  intro hn hlst
  refine pe_sub (pe_bm PySem.F.plainAttrs_list PySem.F.slot_list_append PySem.F.type_list_append mt_append ho ha hbase (by rw [hst]; rfl) hline (by rw [hst]; rfl) rfl) fun σ H Q q => ⟨q.1, fun x H1 s1 p1 o1 => ?_⟩
  cases hw1 : ownAt Γ1 i with
  | none => exact absurd hw1 hn
  | some x0 =>
    obtain ⟨ys, rfl⟩ := hlst x0 hw1
    obtain ⟨a, h1, c1⟩ := s1.env.mu i _ (ownAt_iff.1 hw1)
    have p1' : σ[i]? = some (some x) := p1
    rw [p1'] at h1
    cases h1
    obtain ⟨ws, hws, _⟩ := c1
    refine ⟨.inl ⟨rfl, ws, SqL.of hws⟩, s1.env, fun vs H2 s2 rp => ?_⟩
    obtain ⟨b, h2, c2⟩ := s2.env.mu i _ (ownAt_iff.1 hw)
    rw [p1'] at h2
    cases h2
    obtain ⟨us, hus, ru⟩ := c2
    simp only [RpL] at rp
    obtain ⟨y, w, rfl, ry, rfl⟩ := rp
    refine ⟨a, us, y, rfl, rfl, hus, by rw [ru.length]; exact Nat.lt_of_lt_of_le hl (by decide), ?_⟩
    have cl : Cell Γ2 σ a := ⟨i, _, ownAt_iff.1 hw, p1'⟩
    have pr : Per H2 (upd H2 a (.lst (us ++ [y]))) := fun b u im hb => by
      rw [upd_ne (fun z => by subst z; rw [hus] at hb; cases hb; exact im)]
      exact hb
    have st := Ste.own (d' := .lst (xs ++ [d])) s2.env hw p1' (H' := upd H2 a (.lst (us ++ [y]))) (fun b u nb hb => by rw [upd_ne nb]; exact hb) ⟨_, upd_same, (RpL.per pr _ _ ru).snoc (Rp.per pr _ _ ry)⟩
    exact q.2 _ _ ((s1.trans s2).trans st) (by simp only [Pd, Rp]) trivial
/-- x[i] = e, x a list of one's own -/
theorem ds_ixset {ix : Expr} {n : Int} {j : Nat} (he : DE X e Γ (.val d) Γ1) (ho : DE X o Γ1 (.slot i) Γ2) (hi : DE X ix Γ2 r Γ3) (hr : readR r Γ3 = some (.int n)) (hw : ownAt Γ3 i = some (.lst xs)) (hj : ixN xs.length n = some j)
    (ha : ∀ v, assign (.Subscript o ix p2) X.env v = (do
      let ov ← holding [v] (eval o X.env)
      let iv ← holding [v, ov] (eval ix X.env)
      standAt p2
      holding [v, ov, iv] (setItem ov iv v)
      release [v, ov, iv] [])) (hs : swapsWithSole [.Subscript o ix p2] e pos.line X.env = pure false) (hww : swappedStores [.Subscript o ix p2] e X.env = pure none) (h1 : (assignEach [.Subscript o ix p2] X.env).map (·.2) = [assign (.Subscript o ix p2) X.env]) :
    DS X (.Assign [.Subscript o ix p2] e pos) Γ .nx (setOwn Γ3 i (.lst (xs.set j d))) := by
  refine ps_sub (ps_asg he (pg_sub ho hi set_list ha) hs hww h1) fun Dn σ H q => ⟨q.1, fun v H1 s1 p1 o1 => ⟨s1.env, fun x H2 s2 p2' o2 => ⟨s2.env, fun y H3 s3 p3' o3 => ?_⟩⟩⟩
  obtain ⟨a, h1', c1⟩ := s3.env.mu i _ (ownAt_iff.1 hw)
  have px : σ[i]? = some (some x) := p2'
  rw [px] at h1'
  cases h1'
  obtain ⟨us, hus, ru⟩ := c1
  have ey := (read_ok s3.env p3' hr).int
  subst ey
  have rv : Rp X.K H3 d v := Rp.per (s2.trans s3).per _ _ p1
  refine ⟨a, us, n, j, rfl, rfl, hus, by rw [ru.length]; exact hj, ?_⟩
  have pr : Per H3 (upd H3 a (.lst (us.set j v))) := fun b u im hb => by
    rw [upd_ne (fun z => by subst z; rw [hus] at hb; cases hb; exact im)]
    exact hb
  have rset : ∀ {H : Hp} {xs : List D} {us : List V} (j : Nat), RpL X.K H xs us → Rp X.K H d v → RpL X.K H (xs.set j d) (us.set j v) := by
    intro H xs
    induction xs with
    | nil => intro us j h _; simp only [RpL] at h; subst h; simp [RpL]
    | cons z zs ih =>
      intro us j h hd
      simp only [RpL] at h
      obtain ⟨w, ws, rfl, g1, g2⟩ := h
      cases j with
      | zero => simp only [List.set_cons_zero, RpL]; exact ⟨v, ws, rfl, hd, g2⟩
      | succ j => simp only [List.set_cons_succ, RpL]; exact ⟨w, _, rfl, g1, ih j g2 hd⟩
  have st := Ste.own (d' := .lst (xs.set j d)) s3.env hw px (H' := upd H3 a (.lst (us.set j v))) (fun b u nb hb => by rw [upd_ne nb]; exact hb) ⟨_, upd_same, rset j (RpL.per pr _ _ ru) (Rp.per pr _ _ rv)⟩
  exact q.2.2 σ _ (((s1.trans s2).trans s3).trans st)
/-- x op= e, ints -/
def augD : BOp → D → D → Option D
  | .add, .int a, .int b => some (.int (a + b))
  | .sub, .int a, .int b => some (.int (a - b))
  | _, _, _ => none
theorem ds_augI {x : Str} {b : BOp} {m n k : Int} (hN : X.N.Nodup) (hi : X.N[i]? = some x) (hx : Loc X.env.scope x) (hg : Γ[i]? = some (.sh (.int m))) (he : DE X e Γ r Γ1) (hr : readR r Γ1 = some (.int n)) (ha : augD b (.int m) (.int n) = some (.int k)) (hb : bindR i (.val (.int k)) Γ1 = some Γ2) (hf : X.fn x = true ∨ X.env.scope.names.lookup x = some .local) :
    DS X (.AugAssign (.Name x p2) b.op e pos) Γ .nx Γ2 := by
  have key : ∃ f : Int → Int → Int, PIp X b.op (ipI f) ∧ f m n = k := by
    cases b <;> simp only [augD, Option.some.injEq, D.int.injEq, reduceCtorEq] at ha
    · exact ⟨_, ip_add, ha⟩
    · exact ⟨_, ip_sub, ha⟩
  obtain ⟨f, hp, hf2⟩ := key
  refine ps_sub (ps_aug hN hi hx he hp hf) fun D σ H q => ?_
  obtain ⟨v, h1, h2⟩ := q.1.sh i _ hg
  simp only [Rp] at h2
  subst h2
  refine ⟨.int m, h1, q.1, fun y H1 s1 p1 o1 => ?_⟩
  have ey := (read_ok s1.env p1 hr).int
  subst ey
  refine ⟨m, n, rfl, rfl, ?_⟩
  rw [hf2]
  exact q.2.2 _ H1 (s1.bind (s1.lens q.2.1) hb (by simp only [Pd, Rp]) trivial)
/-- sep.join(xs) -/
def strsOf : List D → Option (List Str)
  | [] => some []
  | .str i :: ds => (strsOf ds).map (i :: ·)
  | _ => none
theorem strsOf_v {K : PySem.W.Frag} {H : Hp} : ∀ {xs : List D} {ns : List Str} {vs : List V}, strsOf xs = some ns → RpL K H xs vs → vs = ns.map V.str ∧ ∀ n ∈ ns, PyData.strOk n = true
  | [], ns, vs, h, q => by
    simp only [strsOf, Option.some.injEq] at h
    subst h
    simp only [RpL] at q
    exact ⟨q, fun _ h => by simp at h⟩
  | d :: xs, ns, vs, h, q => by
    cases d <;> simp only [strsOf, reduceCtorEq] at h
    next i =>
    cases hx : strsOf xs with
    | none => rw [hx] at h; cases h
    | some ms =>
      rw [hx] at h
      cases h
      simp only [RpL] at q
      obtain ⟨v, w, rfl, h1, h2⟩ := q
      simp only [Rp] at h1
      obtain ⟨e1, e2⟩ := strsOf_v hx h2
      rw [h1.1, e1]
      exact ⟨rfl, fun n hn => by
        rcases List.mem_cons.1 hn with rfl | hn
        · exact h1.2
        · exact e2 n hn⟩
def joinD (a : Str) : D → Option Str
  | .lst xs => match strsOf xs with
    | some ys => if (ys.map (·.length)).sum + ys.length * a.length ≤ lim then some (Str.join a ys) else none
    | none => none
  | .tup xs => match strsOf xs with
    | some ys => if (ys.map (·.length)).sum + ys.length * a.length ≤ lim then some (Str.join a ys) else none
    | none => none
  | _ => none
theorem strOk_join {a : Str} (ha : PyData.strOk a = true) : ∀ {ys : List Str}, (∀ y ∈ ys, PyData.strOk y = true) → PyData.strOk (Str.join a ys) = true
  | [], _ => by simp [PyData.strOk, Str.join, Str.empty]
  | [y], h => h y (by simp)
  | y :: z :: ys, h => by
    show PyData.strOk (y ++ a ++ Str.join a (z :: ys)) = true
    exact strOk_append (strOk_append (h y (by simp)) ha) (strOk_join ha fun w hw => h w (List.mem_cons_of_mem _ hw))
theorem de_join {a z : Str} (ho : DE X o Γ (.val (.str a)) Γ1) (he : DE X e Γ1 r Γ2) (hr : readR r Γ2 = some d) (hj : joinD a d = some z) (hst : starEach [e] X.env = [(false, eval e X.env)]) (hbase : attributeBase o "join" X.env (eval o X.env) = eval o X.env) (hline : (ap.endLine == cp.line) = true) :
    DE X (.Call (.Attribute o "join" ap) [e] [] cp) Γ (.val (.str z)) Γ2 :=
  pe_sub (pe_join ho he hst hbase hline) fun σ H Q q => ⟨q.1, fun x H1 s1 p1 o1 => by
    simp only [Pd, Rp] at p1
    refine ⟨⟨a, p1.1⟩, s1.env, fun y H2 s2 p2 o2 => ?_⟩
    have rd := read_ok s2.env p2 hr
    unfold joinD at hj
    split at hj
    · split at hj
      · next ys hy =>
        split at hj
        · next hl =>
          cases hj
          obtain ⟨b, vs, rfl, hs, hv⟩ := rd.lst
          obtain ⟨e1, e2⟩ := strsOf_v hy hv
          subst e1
          refine ⟨a, b, ys, p1.1, rfl, .inl hs, Nat.le_trans hl (by decide), ?_⟩
          rw [TL.join_eq]
          exact q.2 _ H2 (s1.trans s2) (by simp only [Pd, Rp, true_and]; exact strOk_join p1.2 e2) trivial
        · cases hj
      · cases hj
    · split at hj
      · next ys hy =>
        split at hj
        · next hl =>
          cases hj
          obtain ⟨b, vs, rfl, hs, hv⟩ := rd.tup
          obtain ⟨e1, e2⟩ := strsOf_v hy hv
          subst e1
          refine ⟨a, b, ys, p1.1, rfl, .inr hs, Nat.le_trans hl (by decide), ?_⟩
          rw [TL.join_eq]
          exact q.2 _ H2 (s1.trans s2) (by simp only [Pd, Rp, true_and]; exact strOk_join p1.2 e2) trivial
        · cases hj
      · cases hj
    · cases hj⟩
/-- list(range(..)) -/
theorem rgV_rp {K : PySem.W.Frag} {H : Hp} (a b : Int) : RpL K H (rangeD a (b - a).toNat) (rgV a b) := by
  unfold rangeD rgV
  generalize (b - a).toNat = n
  have key : ∀ l : List Nat, RpL K H (l.map fun (k : Nat) => D.int (a + (k : Int))) (l.map fun (i : Nat) => V.int (a + (i : Nat))) := by
    intro l
    induction l with
    | nil => simp [RpL]
    | cons x l ih =>
      simp only [List.map_cons, RpL, Rp]
      exact ⟨_, _, rfl, rfl, ih⟩
  exact key _
def okRng (a b : Int) : Bool := small62 a && small62 b && decide ((b - a).toNat ≤ lim)
theorem okRng_of {a b : Int} (h : okRng a b = true) : RgOk a b := by
  unfold okRng at h
  simp only [Bool.and_eq_true, decide_eq_true_eq] at h
  obtain ⟨⟨h1, h2⟩, h3⟩ := h
  have a1 := small62_of h1
  have a2 := small62_of h2
  exact ⟨a1.1, a1.2, a2.1, a2.2, Nat.le_trans h3 (by decide)⟩
theorem de_lrng1 {n : Int} (hc : X.calm = true) (hg : Gl X "list") (hm : X.mg "list" = none) (hg2 : Gl X "range") (hm2 : X.mg "range" = none) (he : DE X e Γ r Γ1) (hr : readR r Γ1 = some (.int n)) (hn : okRng 0 n = true)
    (hst : starEach [e] X.env = (false, eval e X.env) :: starEach [] X.env) (hst2 : starEach [.Call (.Name "range" p) [e] [] p2] X.env = (false, eval (.Call (.Name "range" p) [e] [] p2) X.env) :: starEach [] X.env) :
    DE X (.Call (.Name "list" p3) [.Call (.Name "range" p) [e] [] p2] [] pos) Γ (.new (.lst (rangeD 0 n.toNat))) Γ1 :=
  pe_sub (pe_listRg hc hg hm (prg_1 hg2 hm2 he hst) hst2) fun σ H Q q => ⟨q.1, fun v H1 s1 p1 o1 => ⟨n, (read_ok s1.env p1 hr).int, okRng_of hn, fun l hl => by
    have f : Fr X.K H1 (.new (.lst (rangeD 0 n.toNat))) (.ref l) (upd H1 l (.lst (rgV 0 n))) := ⟨l, rfl, hl, _, upd_same, by have := rgV_rp (K := X.K) (H := upd H1 l (.lst (rgV 0 n))) 0 n; rw [Int.sub_zero] at this; exact this⟩
    obtain ⟨s2, p2, o2⟩ := f.lift s1.env (same_new hl)
    exact q.2 _ _ (s1.trans s2) p2 (o2.ste s1)⟩⟩
theorem de_lrng2 {m n : Int} (hc : X.calm = true) (hg : Gl X "list") (hm : X.mg "list" = none) (hg2 : Gl X "range") (hm2 : X.mg "range" = none) (he : DE X e Γ r1 Γ1) (he2 : DE X e2 Γ1 r2 Γ2) (hr : readR r1 Γ2 = some (.int m)) (hr2 : readR r2 Γ2 = some (.int n)) (hn : okRng m n = true)
    (hst : starEach [e, e2] X.env = (false, eval e X.env) :: starEach [e2] X.env) (hst3 : starEach [e2] X.env = (false, eval e2 X.env) :: starEach [] X.env) (hst2 : starEach [.Call (.Name "range" p) [e, e2] [] p2] X.env = (false, eval (.Call (.Name "range" p) [e, e2] [] p2) X.env) :: starEach [] X.env) (hpl : (backTo p2 (starEach [e2] X.env)).any (·.1) = false) :
    DE X (.Call (.Name "list" p3) [.Call (.Name "range" p) [e, e2] [] p2] [] pos) Γ (.new (.lst (rangeD m (n - m).toNat))) Γ2 :=
  pe_sub (pe_listRg hc hg hm (prg_2 hg2 hm2 he he2 hst hst3 hpl) hst2) fun σ H Q q => ⟨q.1, fun v H1 s1 p1 o1 => ⟨s1.env, fun w H2 s2 p2' o2 => ⟨m, n, (read_ok s2.env (p1.ste s2) hr).int, (read_ok s2.env p2' hr2).int, okRng_of hn, fun l hl => by
    have f : Fr X.K H2 (.new (.lst (rangeD m (n - m).toNat))) (.ref l) (upd H2 l (.lst (rgV m n))) := ⟨l, rfl, hl, _, upd_same, rgV_rp m n⟩
    obtain ⟨s3, p3, o3⟩ := f.lift s2.env (same_new hl)
    exact q.2 _ _ ((s1.trans s2).trans s3) p3 (o3.ste (s1.trans s2))⟩⟩⟩
end
end Sv

namespace Sv
open PySem PySem.Spec PyProof.Rows L2
/-! isinstance -/
inductive Ty where
  | int | str | bool | list | tuple | dict
  deriving DecidableEq
def Ty.name : Ty → Str
  | .int => "int"
  | .str => "str"
  | .bool => "bool"
  | .list => "list"
  | .tuple => "tuple"
  | .dict => "dict"
def Ty.id : Ty → String
  | .int => "int"
  | .str => "str"
  | .bool => "bool"
  | .list => "list"
  | .tuple => "tuple"
  | .dict => "dict"
theorem Ty.boot (b : Ty) : bootBuiltins b.name = some (.type b.id) := by cases b <;> decide +kernel
theorem Ty.plain (b : Ty) : b.name ≠ "__name__" ∧ (b.name == ("__debug__" : Str)) = false := by cases b <;> exact ⟨by decide, by decide⟩
def tyD : D → Option String
  | .non => some "NoneType"
  | .bl _ => some "bool"
  | .int _ => some "int"
  | .str _ => some "str"
  | .tup _ => some "tuple"
  | .lst _ => some "list"
  | .dK _ => some "dict"
  | .dT _ => none
  | .scr _ => none
def isi1 : D → Ty → Bool
  | .bl _, .bool => true
  | .bl _, .int => true
  | .int _, .int => true
  | .str _, .str => true
  | .tup _, .tuple => true
  | .lst _, .list => true
  | .dK _, .dict => true
  | _, _ => false
def noT : D → Bool
  | .dT _ => false
  | .scr _ => false
  | _ => true
theorem kit_tab (t : Ty) : kitB "NoneType" t.id = some false ∧ kitB "bool" t.id = some (t == .bool || t == .int) ∧ kitB "int" t.id = some (t == .int) ∧ kitB "str" t.id = some (t == .str) ∧ kitB "tuple" t.id = some (t == .tuple) ∧ kitB "list" t.id = some (t == .list) ∧ kitB "dict" t.id = some (t == .dict) := by
  cases t <;> decide +kernel
section
variable {X : Cx} {K : PySem.W.Frag} {H : Hp} {Γ Γ1 : Gm} {e : Expr} {r : Rs} {d : D} {p pos p2 p3 : Pos}
theorem tyX_of {v : V} (h : RpR K H d v) (hn : noT d = true) : ∃ T, TyX K H v (.type T) ∧ ∀ t : Ty, PySem.W.kitOne K (.type T) (.type t.id) = some (isi1 d t) := by
  cases d with
  | non => rw [h.non]; exact ⟨_, .base .non, fun t => kit_ty (by rw [(kit_tab t).1]; rfl)⟩
  | bl b => rw [h.bl]; exact ⟨_, .base (.bl b), fun t => kit_ty (by rw [(kit_tab t).2.1]; cases t <;> rfl)⟩
  | int b => rw [h.int]; exact ⟨_, .base (.int b), fun t => kit_ty (by rw [(kit_tab t).2.2.1]; cases t <;> rfl)⟩
  | str b => rw [h.str.1]; exact ⟨_, .base (.str b), fun t => kit_ty (by rw [(kit_tab t).2.2.2.1]; cases t <;> rfl)⟩
  | tup b =>
    obtain ⟨a, vs, rfl, hs, _⟩ := h.tup
    refine ⟨"tuple", ?_, fun t => kit_ty (by rw [(kit_tab t).2.2.2.2.1]; cases t <;> rfl)⟩
    rcases hs with (hs | ⟨o, hs⟩) | ⟨o, its, n, h1, h2, _⟩
    · exact .base (.tup hs)
    · exact .fTuple hs
    · exact .kTuple h1 h2
  | lst b =>
    obtain ⟨a, vs, rfl, hs, _⟩ := h.rd
    refine ⟨"list", ?_, fun t => kit_ty (by rw [(kit_tab t).2.2.2.2.2.1]; cases t <;> rfl)⟩
    rcases hs with hs | ⟨o, hs⟩
    · exact .base (.lst hs)
    · exact .base (.frz hs)
  | dK b =>
    refine ⟨"dict", ?_, fun t => kit_ty (by rw [(kit_tab t).2.2.2.2.2.2]; cases t <;> rfl)⟩
    rcases h with h | ⟨a, rfl, h⟩
    · simp only [Rp] at h
      obtain ⟨a, o, ws, rfl, hs, _⟩ := h
      exact .fDict hs
    · obtain ⟨ws, hs, _⟩ := h
      exact .base (.dK hs)
  | dT b => cases hn
  | scr b => cases hn
theorem pe_ty (t : Ty) (hg : Gl X t.name) (hm : X.mg t.name = none) : PE X (.Name t.name p) (tC (.ty t.id)) := pe_bltn hg hm t.boot rfl t.plain.1 t.plain.2
theorem de_isi {t : Ty} (he : DE X e Γ r Γ1) (hr : readR r Γ1 = some d) (hn : noT d = true) (hg : Gl X "isinstance") (hm : X.mg "isinstance" = none) (hg2 : Gl X t.name) (hm2 : X.mg t.name = none)
    (hst : starEach (e :: [.Name t.name p2]) X.env = (false, eval e X.env) :: starEach [.Name t.name p2] X.env) : DE X (.Call (.Name "isinstance" p) (e :: [.Name t.name p2]) [] pos) Γ (.val (.bl (isi1 d t))) Γ1 := by
  refine pe_sub (pe_callB call_isi hg hm (by decide +kernel) (pa_cons he (pa_cons (pe_ty t hg2 hm2) pa_nil) hst) (by decide) (by decide) hst) fun σ H Q q => ⟨q.1, fun v H1 s1 p1 o1 => ?_⟩
  obtain ⟨T, h1, h2⟩ := tyX_of (read_ok s1.env p1 hr) hn
  exact ⟨v, .ty t.id, .type T, .type t.id, _, rfl, .ty _, h1, h2 t, q.2 _ H1 s1 (by simp only [Pd, Rp]) trivial⟩
theorem de_isi2 {t u : Ty} {kk : Nat} (he : DE X e Γ r Γ1) (hr : readR r Γ1 = some d) (hn : noT d = true) (hg : Gl X "isinstance") (hm : X.mg "isinstance" = none) (hg2 : Gl X t.name) (hm2 : X.mg t.name = none) (hg3 : Gl X u.name) (hm3 : X.mg u.name = none)
    (hst : starEach (e :: [.Tuple [.Name t.name p2, .Name u.name p3] kk pos]) X.env = (false, eval e X.env) :: starEach [.Tuple [.Name t.name p2, .Name u.name p3] kk pos] X.env) {pos' : Pos} : DE X (.Call (.Name "isinstance" p) (e :: [.Tuple [.Name t.name p2, .Name u.name p3] kk pos]) [] pos') Γ (.val (.bl (isi1 d t || isi1 d u))) Γ1 := by
  refine pe_sub (pe_callB call_isiT hg hm (by decide +kernel) (pa_cons he (pa_cons (pe_tup (pa_cons (pe_ty t hg2 hm2) (pa_cons (pe_ty u hg3 hm3) pa_nil))) pa_nil) hst) (by decide) (by decide) hst) fun σ H Q q => ⟨q.1, fun v H1 s1 p1 o1 => ⟨show 2 ≤ sizeLine by decide, fun tp htp => ?_⟩⟩
  have s2 := Ste.same s1.env (same_new (o := .tup [.ty t.id, .ty u.id]) htp)
  obtain ⟨T, h1, h2⟩ := tyX_of (read_ok s2.env (p1.ste s2) hr) hn
  refine ⟨v, tp, [.ty t.id, .ty u.id], .type T, [.type t.id, .type u.id], (isi1 d t || isi1 d u), rfl, upd_same, .cons (.ty _) (.cons (.ty _) .nil), h1, ?_, q.2 _ _ (s1.trans s2) (by simp only [Pd, Rp]) trivial⟩
  refine kitAny_cons (h2 t) (fun h => ?_) (fun h => by rw [h]; rfl)
  rw [h, Bool.false_or]
  refine kitAny_cons (h2 u) (fun h' => ?_) (fun h' => h')
  rw [h']
  exact kitAny_nil
end
end Sv

namespace Sv
open PySem PySem.Spec PyProof.Rows L2
/-! the small language -/
mutual
inductive E where
  | cst (d : D)
  | var (i : Nat)
  | tup (es : List E)
  | lst (es : List E)
  | bin (op : BOp) (a b : E)
  | neg (a : E)
  | nt (a : E)
  | an (a b : E)
  | orr (a b : E)
  | cmp (op : COp) (a b : E)
  | chn (op op' : COp) (a b c : E)
  | ite (c : T) (a b : E)
  | ix (a b : E)
  | sl (a : E) (lo hi : Option E)
  | rev (a : E)
  | isi (a : E) (ts : List Ty)
  | call (f : Nat) (es : List E)
  | bi (b : Bi) (es : List E)
  | lrng (es : List E)
  | jn (a b : E)
  | app (a e : E)
  | comp (e : E) (t : Tg) (it : I) (cs : List T) (vs : List Nat)
inductive T where
  | nt (a : T)
  | an (a b : T)
  | orr (a b : T)
  | val (e : E)
inductive I where
  | seq (e : E)
  | rng (es : List E)
  | zip (a b : E)
end
inductive S where
  | set (i : Nat) (e : E)
  | asg (t : Tg) (e : E)
  | par (is : List Nat) (es : List E)
  | ixs (a ix e : E)
  | aug (i : Nat) (op : BOp) (e : E)
  | ex (e : E)
  | iff (c : T) (a b : List S)
  | whl (c : T) (b : List S)
  | frr (t : Tg) (it : I) (b : List S)
  | ret (e : Option E)
  | brk
  | cnt
  | pas
  | nev
/-! its meaning -/
def notIo (Γ : Gm) (vs : List Nat) : Bool := vs.all fun j => match Γ[j]? with
  | some (.io _) => false
  | _ => true
def bound (Γ : Gm) (i : Nat) : Bool := match Γ[i]? with
  | some .no => false
  | none => false
  | _ => true
def callE (sem : Fn) (ld : Bool) (rs : List Rs) (Γ1 : Gm) : Option (Rs × Gm) :=
  match ld, rs with
  | true, .slot i :: rs' => match takeRs rs' Γ1 with
    | none => none
    | some (ds, Γ2) => match ownAt Γ2 i with
      | none => none
      | some d => match sem (.io d :: ds.map .sh) with
        | some (r, some d') => if notSlot r then some (r, setOwn Γ2 i d') else none
        | _ => none
  | false, rs => match takeRs rs Γ1 with
    | none => none
    | some (ds, Γ2) => match sem (ds.map .sh) with
      | some (r, _) => if notSlot r then some (r, Γ2) else none
      | none => none
  | _, _ => none
def isiD (d : D) : List Ty → Option Bool
  | [t] => if noT d then some (isi1 d t) else none
  | [t, u] => if noT d then some (isi1 d t || isi1 d u) else none
  | _ => none
def revD : D → Option Rs
  | .lst xs => some (.new (.lst xs.reverse))
  | .tup xs => some (.val (.tup xs.reverse))
  | _ => none
def negD : D → Option D
  | .int i => some (.int (-i))
  | _ => none
def lrngD : List D → Option Rs
  | [.int n] => if okRng 0 n then some (.new (.lst (rangeD 0 n.toNat))) else none
  | [.int m, .int n] => if okRng m n then some (.new (.lst (rangeD m (n - m).toNat))) else none
  | _ => none
def rngD : List D → Option (List D)
  | [.int n] => if small62 n then some (rangeD 0 n.toNat) else none
  | [.int m, .int n] => if small62 m && small62 n then some (rangeD m (n - m).toNat) else none
  | _ => none
def seqD : D → Option (List D)
  | .lst xs => some xs
  | .tup xs => some xs
  | .str x => some (signs x)
  | _ => none
def settleR : Rs → Gm → Option (Rs × Gm)
  | .slot i, Γ => match takeR (.slot i) Γ with
    | some (d, Γ1) => some (.val d, Γ1)
    | none => none
  | r, Γ => some (r, Γ)
def settleRs : List Rs → Gm → Option (List Rs × Gm)
  | [], Γ => some ([], Γ)
  | r :: rs, Γ => match settleR r Γ with
    | none => none
    | some (r', Γ1) => match settleRs rs Γ1 with
      | none => none
      | some (rs', Γ2) => some (r' :: rs', Γ2)
def bindRs : List Nat → List Rs → Gm → Option Gm
  | [], [], Γ => some Γ
  | i :: is, r :: rs, Γ => match bindR i r Γ with
    | none => none
    | some Γ1 => bindRs is rs Γ1
  | _, _, _ => none
section
variable (F : Nat → Fn) (Ld : Nat → Bool)
mutual
def evE : E → Gm → Option (Rs × Gm)
  | .cst d, Γ => some (.val d, Γ)
  | .var i, Γ => if bound Γ i then some (.slot i, Γ) else none
  | .tup es, Γ => match evEs es Γ with
    | none => none
    | some (rs, Γ1) => match takeRs rs Γ1 with
      | none => none
      | some (ds, Γ2) => if ds.length ≤ lim then some (.val (.tup ds), Γ2) else none
  | .lst es, Γ => match evEs es Γ with
    | none => none
    | some (rs, Γ1) => match takeRs rs Γ1 with
      | none => none
      | some (ds, Γ2) => if ds.length ≤ lim then some (.new (.lst ds), Γ2) else none
  | .bin op a b, Γ => match evE a Γ with
    | none => none
    | some (r1, Γ1) => match evE b Γ1 with
      | none => none
      | some (r2, Γ2) => match readR r1 Γ2, readR r2 Γ2 with
        | some d1, some d2 => match binD op d1 d2 with
          | some r => some (r, Γ2)
          | none => none
        | _, _ => none
  | .neg a, Γ => match evE a Γ with
    | none => none
    | some (r1, Γ1) => match readR r1 Γ1 with
      | some d1 => match negD d1 with
        | some d => some (.val d, Γ1)
        | none => none
      | none => none
  | .nt a, Γ => match evE a Γ with
    | none => none
    | some (r1, Γ1) => match readR r1 Γ1 with
      | some (.bl k) => some (.val (.bl (!k)), Γ1)
      | _ => none
  | .an a b, Γ => match evE a Γ with
    | none => none
    | some (r1, Γ1) => match readR r1 Γ1 with
      | some (.bl true) => evE b Γ1
      | some (.bl false) => some (.val (.bl false), Γ1)
      | _ => none
  | .orr a b, Γ => match evE a Γ with
    | none => none
    | some (r1, Γ1) => match readR r1 Γ1 with
      | some (.bl true) => some (.val (.bl true), Γ1)
      | some (.bl false) => evE b Γ1
      | _ => none
  | .cmp op a b, Γ => match evE a Γ with
    | none => none
    | some (r1, Γ1) => match evE b Γ1 with
      | none => none
      | some (r2, Γ2) => match readR r1 Γ2, readR r2 Γ2 with
        | some d1, some d2 => match cmpD op d1 d2 with
          | some k => some (.val (.bl k), Γ2)
          | none => none
        | _, _ => none
  | .chn op op' a b c, Γ => match evE a Γ with
    | none => none
    | some (r1, Γ1) => match evE b Γ1 with
      | none => none
      | some (r2, Γ2) => match readR r1 Γ2, readR r2 Γ2 with
        | some d1, some d2 => match cmpD op d1 d2 with
          | some true => match evE c Γ2 with
            | none => none
            | some (r3, Γ3) => match readR r2 Γ3, readR r3 Γ3 with
              | some d2', some d3 => match cmpD op' d2' d3 with
                | some k => some (.val (.bl k), Γ3)
                | none => none
              | _, _ => none
          | some false => some (.val (.bl false), Γ2)
          | none => none
        | _, _ => none
  | .ite c a b, Γ => match evT c Γ with
    | none => none
    | some (true, Γ1) => evE a Γ1
    | some (false, Γ1) => evE b Γ1
  | .ix a b, Γ => match evE a Γ with
    | none => none
    | some (r1, Γ1) => match evE b Γ1 with
      | none => none
      | some (r2, Γ2) => match readR r1 Γ2, readR r2 Γ2 with
        | some d1, some d2 => match ixD d1 d2 with
          | some d => some (.val d, Γ2)
          | none => none
        | _, _ => none
  | .sl a lo hi, Γ => match evE a Γ with
    | none => none
    | some (r1, Γ1) => match evO lo Γ1 with
      | none => none
      | some (l, Γ2) => match evO hi Γ2 with
        | none => none
        | some (u, Γ3) => match readR r1 Γ3 with
          | some d1 => match slD d1 l u with
            | some r => some (r, Γ3)
            | none => none
          | none => none
  | .rev a, Γ => match evE a Γ with
    | none => none
    | some (r1, Γ1) => match readR r1 Γ1 with
      | some d1 => match revD d1 with
        | some r => some (r, Γ1)
        | none => none
      | none => none
  | .isi a ts, Γ => match evE a Γ with
    | none => none
    | some (r1, Γ1) => match readR r1 Γ1 with
      | some d1 => match isiD d1 ts with
        | some k => some (.val (.bl k), Γ1)
        | none => none
      | none => none
  | .call f es, Γ => match evEs es Γ with
    | none => none
    | some (rs, Γ1) => callE (F f) (Ld f) rs Γ1
  | .bi b es, Γ => match evEs es Γ with
    | none => none
    | some (rs, Γ1) => match readRs rs Γ1 with
      | none => none
      | some ds => match biD b ds with
        | some r => some (r, Γ1)
        | none => none
  | .lrng es, Γ => match evEs es Γ with
    | none => none
    | some (rs, Γ1) => match readRs rs Γ1 with
      | none => none
      | some ds => match lrngD ds with
        | some r => some (r, Γ1)
        | none => none
  | .jn a b, Γ => match evE a Γ with
    | some (.val (.str z), Γ1) => match evE b Γ1 with
      | none => none
      | some (r2, Γ2) => match readR r2 Γ2 with
        | some d2 => match joinD z d2 with
          | some w => some (.val (.str w), Γ2)
          | none => none
        | none => none
    | _ => none
  | .app a e, Γ => match evE a Γ with
    | some (.slot i, Γ1) => match ownAt Γ1 i with
      | some (.lst _) => match evE e Γ1 with
        | none => none
        | some (r2, Γ2) => match takeR r2 Γ2 with
          | none => none
          | some (d, Γ3) => match ownAt Γ3 i with
            | some (.lst xs) => if xs.length < 1000000 then some (.val .non, setOwn Γ3 i (.lst (xs ++ [d]))) else none
            | _ => none
      | _ => none
    | _ => none
  | .comp e t it cs vs, Γ => match evI it Γ with
    | none => none
    | some (ds, Γ1) => if notIo Γ1 vs then
        match compL vs (bindT t) (evCs cs) (fun Γ => match evE e Γ with
          | none => none
          | some (r, Γ') => takeR r Γ') ds [] (wipeG Γ1 vs) with
        | none => none
        | some (out, Γe) => some (.new (.lst out), restore Γ1 Γe vs)
      else none
def evEs : List E → Gm → Option (List Rs × Gm)
  | [], Γ => some ([], Γ)
  | e :: es, Γ => match evE e Γ with
    | none => none
    | some (r, Γ1) => match evEs es Γ1 with
      | none => none
      | some (rs, Γ2) => some (r :: rs, Γ2)
def evO : Option E → Gm → Option (Option Int × Gm)
  | none, Γ => some (none, Γ)
  | some e, Γ => match evE e Γ with
    | none => none
    | some (r, Γ1) => match readR r Γ1 with
      | some (.int i) => some (some i, Γ1)
      | _ => none
def evT : T → Gm → Option (Bool × Gm)
  | .nt a, Γ => match evT a Γ with
    | none => none
    | some (k, Γ1) => some (!k, Γ1)
  | .an a b, Γ => match evT a Γ with
    | none => none
    | some (true, Γ1) => evT b Γ1
    | some (false, Γ1) => some (false, Γ1)
  | .orr a b, Γ => match evT a Γ with
    | none => none
    | some (true, Γ1) => some (true, Γ1)
    | some (false, Γ1) => evT b Γ1
  | .val e, Γ => match evE e Γ with
    | none => none
    | some (r, Γ1) => match readR r Γ1 with
      | some (.bl k) => some (k, Γ1)
      | _ => none
def evCs : List T → Gm → Option (Bool × Gm)
  | [], Γ => some (true, Γ)
  | c :: cs, Γ => match evT c Γ with
    | none => none
    | some (false, Γ1) => some (false, Γ1)
    | some (true, Γ1) => evCs cs Γ1
def evI : I → Gm → Option (List D × Gm)
  | .seq e, Γ => match evE e Γ with
    | none => none
    | some (r, Γ1) => match takeR r Γ1 with
      | none => none
      | some (d, Γ2) => match seqD d with
        | some ds => some (ds, Γ2)
        | none => none
  | .rng es, Γ => match evEs es Γ with
    | none => none
    | some (rs, Γ1) => match readRs rs Γ1 with
      | none => none
      | some ds => match rngD ds with
        | some xs => some (xs, Γ1)
        | none => none
  | .zip a b, Γ => match evE a Γ with
    | none => none
    | some (r1, Γ1) => match evE b Γ1 with
      | none => none
      | some (r2, Γ2) => match takeRs [r1, r2] Γ2 with
        | some ([d1, d2], Γ3) => match bothSeq d1 d2 with
          | some (xs, ys) => some (zipD xs ys, Γ3)
          | none => none
        | _ => none
end
end
end Sv

namespace Sv
open PySem PySem.Spec PyProof.Rows L2
section
variable (F : Nat → Fn) (Ld : Nat → Bool) (W : Nat)
mutual
def evS : S → Gm → Option (Fl × Gm)
  | .set i e, Γ => match evE F Ld e Γ with
    | none => none
    | some (r, Γ1) => match settleR r Γ1 with
      | none => none
      | some (r', Γ2) => match bindR i r' Γ2 with
        | none => none
        | some Γ3 => some (.nx, Γ3)
  | .asg t e, Γ => match evE F Ld e Γ with
    | none => none
    | some (r, Γ1) => match takeR r Γ1 with
      | none => none
      | some (d, Γ2) => match bindT t d Γ2 with
        | none => none
        | some Γ3 => some (.nx, Γ3)
  | .par is es, Γ => match evEs F Ld es Γ with
    | none => none
    | some (rs, Γ1) => match settleRs rs Γ1 with
      | none => none
      | some (rs', Γ2) => match bindRs is rs' Γ2 with
        | none => none
        | some Γ3 => some (.nx, Γ3)
  | .ixs a ix e, Γ => match evE F Ld e Γ with
    | none => none
    | some (r, Γ1) => match takeR r Γ1 with
      | none => none
      | some (d, Γ2) => match evE F Ld a Γ2 with
        | some (.slot i, Γ3) => match evE F Ld ix Γ3 with
          | none => none
          | some (r2, Γ4) => match readR r2 Γ4, ownAt Γ4 i with
            | some (.int n), some (.lst xs) => match ixN xs.length n with
              | some j => some (.nx, setOwn Γ4 i (.lst (xs.set j d)))
              | none => none
            | _, _ => none
        | _ => none
  | .aug i op e, Γ => match Γ[i]? with
    | some (.sh (.int m)) => match evE F Ld e Γ with
      | none => none
      | some (r, Γ1) => match readR r Γ1 with
        | some (.int n) => match augD op (.int m) (.int n) with
          | some (.int k) => match bindR i (.val (.int k)) Γ1 with
            | none => none
            | some Γ2 => some (.nx, Γ2)
          | _ => none
        | _ => none
    | _ => none
  | .ex e, Γ => match evE F Ld e Γ with
    | none => none
    | some (_, Γ1) => some (.nx, Γ1)
  | .iff c a b, Γ => match evT F Ld c Γ with
    | none => none
    | some (true, Γ1) => evSs a Γ1
    | some (false, Γ1) => evSs b Γ1
  | .whl c b, Γ => whileL (evT F Ld c) (evSs b) W Γ
  | .frr t it b, Γ => match evI F Ld it Γ with
    | none => none
    | some (ds, Γ1) => forL (bindT t) (evSs b) ds Γ1
  | .ret none, Γ => some (.rt (.val .non), Γ)
  | .ret (some e), Γ => match evE F Ld e Γ with
    | none => none
    | some (.slot i, Γ1) => match Γ1[i]? with
      | some (.ow d) => some (.rt (.new d), Γ1.set i .no)
      | some (.sh d) => some (.rt (.val d), Γ1)
      | _ => none
    | some (r, Γ1) => some (.rt r, Γ1)
  | .brk, Γ => some (.bk, Γ)
  | .cnt, Γ => some (.ct, Γ)
  | .pas, Γ => some (.nx, Γ)
  | .nev, _ => none
def evSs : List S → Gm → Option (Fl × Gm)
  | [], Γ => some (.nx, Γ)
  | s :: ss, Γ => match evS s Γ with
    | none => none
    | some (.nx, Γ1) => evSs ss Γ1
    | some (fl, Γ1) => some (fl, Γ1)
end
/-- a def: its parameters, the number of its slots, its body -/
structure Fd where
  np : Nat
  ns : Nat
  body : List S
def ioOut : List Sl → Gm → Option D
  | .io _ :: _, .io d :: _ => some d
  | _, _ => none
/-- what a def's body makes of its arguments -/
def runF (f : Fd) : Fn := fun as => if as.length = f.np then
    match evSs F Ld W f.body (as ++ List.replicate (f.ns - f.np) .no) with
    | some (.nx, Γ) => some (.val .non, ioOut as Γ)
    | some (.rt r, Γ) => some (r, ioOut as Γ)
    | _ => none
  else none
end
/-! from the text -/
structure TCx where
  N : List Str
  fns : List Str
  cons : List (Str × D)
def strOkL (x : Str) : Bool := x.cps.toList.all (· < 0x110000)
theorem strOkL_ok {x : Str} (h : strOkL x = true) : PyData.strOk x = true := by
  unfold PyData.strOk
  rw [← Array.all_toList]
  exact h
def bopOf : Operator → Option BOp
  | .Add => some .add
  | .Sub => some .sub
  | .Mult => some .mul
  | .Mod => some .mod
  | .FloorDiv => some .fdiv
  | .Pow => some .pow
  | _ => none
def copOf : CmpOp → COp
  | .Eq => .eq
  | .NotEq => .ne
  | .Lt => .lt
  | .LtE => .le
  | .Gt => .gt
  | .GtE => .ge
  | .Is => .is
  | .IsNot => .isn
  | .In => .inn
  | .NotIn => .nin
def biOf (x : Str) : Option Bi :=
  if x = "len" then some .len else if x = "abs" then some .abs else if x = "min" then some .min else if x = "max" then some .max else if x = "sum" then some .sum
  else if x = "all" then some .all else if x = "any" then some .any else if x = "tuple" then some .tuple else if x = "list" then some .list else if x = "int" then some .int else none
def tyOf? (x : Str) : Option Ty :=
  if x = "int" then some .int else if x = "str" then some .str else if x = "bool" then some .bool else if x = "list" then some .list else if x = "tuple" then some .tuple else if x = "dict" then some .dict else none
def glob (sc : Scope) (x : Str) : Bool := sc.names.lookup x == some .globalImplicit
def locl (sc : Scope) (x : Str) : Bool := sc.names.lookup x == some .local || sc.names.lookup x == some .cell
def seen (sc : Scope) (x : Str) : Bool := locl sc x || sc.names.lookup x == some .free
def ixOf (cx : TCx) (x : Str) : Option Nat := cx.N.findIdx? (· == x)
def trName (cx : TCx) (sc : Scope) (x : Str) : Option E :=
  if (x == ("__debug__" : Str)) || (x == ("__classdict__" : Str)) then none
  else if seen sc x then (ixOf cx x).map .var
  else if glob sc x then (cx.cons.lookup x).map .cst
  else none
def trL (f : Expr → Option E) : List Expr → Option (List E)
  | [] => some []
  | e :: es => match f e, trL f es with
    | some x, some xs => some (x :: xs)
    | _, _ => none
def trO (f : Expr → Option E) : Option Expr → Option (Option E)
  | none => some none
  | some e => (f e).map some
def trBoolE (c : E → E → E) (f : Expr → Option E) : List Expr → Option E
  | [] => none
  | [e] => f e
  | e :: es => match f e, trBoolE c f es with
    | some x, some y => some (c x y)
    | _, _ => none
def trBoolT (c : T → T → T) (f : Expr → Option T) : List Expr → Option T
  | [] => none
  | [e] => f e
  | e :: es => match f e, trBoolT c f es with
    | some x, some y => some (c x y)
    | _, _ => none
def trTy (sc : Scope) : Expr → Option (List Ty)
  | .Name x _ => if glob sc x then (tyOf? x).map fun t => [t] else none
  | .Tuple [.Name x _, .Name y _] _ _ => if glob sc x && glob sc y then match tyOf? x, tyOf? y with
      | some t, some u => some [t, u]
      | _, _ => none
    else none
  | _ => none
/-! targets -/
mutual
def trG (cx : TCx) (sc : Scope) : Nat → Expr → Option Tg
  | 0, _ => none
  | n + 1, e => match e with
    | .Name x _ => if locl sc x then (ixOf cx x).map .nm else none
    | .Tuple es _ _ => (trGs cx sc n es).map .tp
    | _ => none
def trGs (cx : TCx) (sc : Scope) : Nat → List Expr → Option (List Tg)
  | 0, _ => none
  | _ + 1, [] => some []
  | n + 1, e :: es => match trG cx sc n e, trGs cx sc n es with
    | some t, some ts => some (t :: ts)
    | _, _ => none
end
/-- the own names of a comprehension's block, with their slots -/
def ownOf (cx : TCx) (csc : Scope) : List (Str × Nat) := csc.names.filterMap fun y => if y.2 == .local || y.2 == .cell then (ixOf cx y.1).map fun i => (y.1, i) else none
def isRange (cx : TCx) (sc : Scope) (g : Str) : Bool := decide (g = "range") && glob sc g && !cx.fns.contains g
def isZip (cx : TCx) (sc : Scope) (g : Str) : Bool := decide (g = "zip") && glob sc g && !cx.fns.contains g
def len12 : List Expr → Bool
  | [_] => true
  | [_, _] => true
  | _ => false
/-- list(range(..)): the range's arguments -/
def rangeArg (cx : TCx) (sc : Scope) : List Expr → Option (List Expr)
  | [.Call (.Name g _) as [] _] => if isRange cx sc g && len12 as then some as else none
  | _ => none
def mkIsi (sc : Scope) (tr : Expr → Option E) : List Expr → Option E
  | [a, t] => match tr a, trTy sc t with
    | some x, some ts => some (.isi x ts)
    | _, _ => none
  | _ => none
def mkBi (cx : TCx) (sc : Scope) (tr : Expr → Option E) (f : Str) (args : List Expr) : Option E :=
  if f = "isinstance" then mkIsi sc tr args
  else match biOf f with
    | none => none
    | some b => match (if f = "list" then rangeArg cx sc args else none) with
      | some as => (trL tr as).map .lrng
      | none => (trL tr args).map (.bi b)
def mkCall (cx : TCx) (sc : Scope) (tr : Expr → Option E) (f : Str) (args : List Expr) : Option E :=
  if !glob sc f || (f == ("__debug__" : Str)) || args.isEmpty then none
  else match cx.fns.findIdx? (· == f) with
    | some i => (trL tr args).map (.call i)
    | none => mkBi cx sc tr f args
def mkMeth (tr : Expr → Option E) (o : Expr) (m : Str) (a : Expr) : Option E :=
  match tr o, tr a with
  | some x, some y => if m = "append" then some (.app x y) else if m = "join" then some (.jn x y) else none
  | _, _ => none
def mkZip (tr : Expr → Option E) : List Expr → Option I
  | [a, b] => match tr a, tr b with
    | some x, some y => some (.zip x y)
    | _, _ => none
  | _ => none
def isTupleE : Expr → Bool
  | .Tuple _ _ _ => true
  | _ => false
def mkI (cx : TCx) (sc : Scope) (tr : Expr → Option E) (tg it : Expr) : Option I :=
  match it with
  | .Call (.Name g _) as [] _ => if isRange cx sc g && len12 as then (trL tr as).map .rng
    else if isZip cx sc g && isTupleE tg then mkZip tr as
    else (tr it).map .seq
  | it => (tr it).map .seq
def mkComp (cx : TCx) (csc : Scope) (t : Tg) (i : I) (cs : List T) (x : E) : Option E :=
  if (t.slots.all fun j => ((ownOf cx csc).map (·.2)).contains j) && decide (cs.length ≤ 1) then some (.comp x t i cs ((ownOf cx csc).map (·.2))) else none
mutual
def trE (cx : TCx) : Nat → Scope → Expr → Option E
  | 0, _, _ => none
  | n + 1, sc, e => match e with
    | .Constant .none _ _ => some (.cst .non)
    | .Constant (.bool b) _ _ => some (.cst (.bl b))
    | .Constant (.int i) _ _ => some (.cst (.int i))
    | .Constant (.str x) _ _ => if strOkL x then some (.cst (.str x)) else none
    | .Name x _ => trName cx sc x
    | .Tuple es _ _ => (trL (trE cx n sc) es).map .tup
    | .List es _ => (trL (trE cx n sc) es).map .lst
    | .BinOp a op b _ => match bopOf op, trE cx n sc a, trE cx n sc b with
      | some o, some x, some y => some (.bin o x y)
      | _, _, _ => none
    | .UnaryOp .USub a _ => (trE cx n sc a).map .neg
    | .UnaryOp .Not a _ => (trE cx n sc a).map .nt
    | .BoolOp .And vs _ => trBoolE .an (trE cx n sc) vs
    | .BoolOp .Or vs _ => trBoolE .orr (trE cx n sc) vs
    | .Compare a [op] [b] _ => match trE cx n sc a, trE cx n sc b with
      | some x, some y => some (.cmp (copOf op) x y)
      | _, _ => none
    | .Compare a [op, op'] [b, c] _ => match trE cx n sc a, trE cx n sc b, trE cx n sc c with
      | some x, some y, some z => some (.chn (copOf op) (copOf op') x y z)
      | _, _, _ => none
    | .IfExp c a b _ => match trT cx n sc c, trE cx n sc a, trE cx n sc b with
      | some x, some y, some z => some (.ite x y z)
      | _, _, _ => none
    | .Subscript a (.Slice lo hi none _) _ => match trE cx n sc a, trO (trE cx n sc) lo, trO (trE cx n sc) hi with
      | some x, some y, some z => some (.sl x y z)
      | _, _, _ => none
    | .Subscript a (.Slice none none (some (.UnaryOp .USub (.Constant (.int i) _ _) _)) _) _ => if i = 1 then (trE cx n sc a).map .rev else none
    | .Subscript a b _ => match trE cx n sc a, trE cx n sc b with
      | some x, some y => some (.ix x y)
      | _, _ => none
    | .Call (.Name f _) args [] _ => mkCall cx sc (trE cx n sc) f args
    | .Call (.Attribute o m ap) [a] [] cp => if ap.endLine == cp.line then mkMeth (trE cx n sc) o m a else none
    | .ListComp elt [⟨tg, it, ifs, a⟩] csc _ => if a = 0 ∧ blkC cx.N sc csc (ownOf cx csc) = true then
        match mkI cx sc (trE cx n sc) tg it, trG cx csc n tg, trTs cx n csc ifs, trE cx n csc elt with
        | some i, some t, some cs, some x => mkComp cx csc t i cs x
        | _, _, _, _ => none
      else none
    | _ => none
def trT (cx : TCx) : Nat → Scope → Expr → Option T
  | 0, _, _ => none
  | n + 1, sc, e => match e with
    | .UnaryOp .Not a _ => (trT cx n sc a).map .nt
    | .BoolOp .And vs _ => trBoolT .an (trT cx n sc) vs
    | .BoolOp .Or vs _ => trBoolT .orr (trT cx n sc) vs
    | .IfExp _ _ _ _ => none
    | e => (trE cx n sc e).map .val
def trTs (cx : TCx) : Nat → Scope → List Expr → Option (List T)
  | 0, _, _ => none
  | _ + 1, _, [] => some []
  | n + 1, sc, e :: es => match trT cx n sc e, trTs cx n sc es with
    | some x, some xs => some (x :: xs)
    | _, _ => none
end
def nameOf : Expr → Option Str
  | .Name x _ => some x
  | _ => none
def isCallE : Expr → Bool
  | .Call _ _ _ _ => true
  | _ => false
/-- the name of a target, where it is a local on that line -/
def pnm (sc : Scope) (l : Nat) : Expr → Option Str
  | .Name id pos => if sc.names.lookup id == some .local && pos.line == l then some id else none
  | _ => none
def parNames (sc : Scope) (ts : List Expr) : List Str := ts.filterMap (pnm sc ((ts.head?.map (·.pos.line)).getD 0))
/-- how the model stores a, b = x, y: from the right, or by a tuple; none: not known -/
def parWay (sc : Scope) (ts vs : List Expr) : Option Bool :=
  if vs.length != ts.length then none
  else if !(ts.length == 2 || ts.length == 3) then some false
  else if (parNames sc ts).length != ts.length || (parNames sc ts).eraseDups.length != (parNames sc ts).length then some false
  else if vs.all (foldedForSure 8) then some false
  else if vs.all (constantsAlone 8) then none
  else some true
def trPar (cx : TCx) (sc : Scope) : List Expr → Option (List Nat)
  | [] => some []
  | .Name x _ :: es => if locl sc x then match ixOf cx x, trPar cx sc es with
      | some i, some is => some (i :: is)
      | _, _ => none
    else none
  | _ => none
mutual
def trS (cx : TCx) : Nat → Scope → Stmt → Option S
  | 0, _, _ => none
  | n + 1, sc, st => match st with
    | .Assign [.Name x _] e _ => if locl sc x then match ixOf cx x, trE cx n sc e with
        | some i, some y => some (.set i y)
        | _, _ => none
      else none
    | .Assign [.Tuple ts _ _] (.Tuple es _ _) _ => match parWay sc ts es, trPar cx sc ts, trL (trE cx n sc) es with
      | some _, some is, some ys => if decide is.Nodup && decide (is.length = ys.length) && decide (is.length ≤ 50) then some (.par is ys) else none
      | _, _, _ => none
    | .Assign [.Tuple ts k p] e _ => match trG cx sc n (.Tuple ts k p), trE cx n sc e with
      | some t, some y => some (.asg t y)
      | _, _ => none
    | .Assign [.Subscript o ix _] e _ => match trE cx n sc o, trE cx n sc ix, trE cx n sc e with
      | some x, some y, some z => some (.ixs x y z)
      | _, _, _ => none
    | .AugAssign (.Name x _) op e _ => if locl sc x then match ixOf cx x, bopOf op, trE cx n sc e with
        | some i, some o, some y => some (.aug i o y)
        | _, _, _ => none
      else none
    | .Expr (.Constant (.str _) _ _) _ => some .pas
    | .Expr e _ => if isCallE e then (trE cx n sc e).map .ex else none
    | .If c a b _ => match trT cx n sc c, trSs cx n sc a, trSs cx n sc b with
      | some x, some y, some z => some (.iff x y z)
      | _, _, _ => none
    | .While c a [] _ => match trT cx n sc c, trSs cx n sc a with
      | some x, some y => some (.whl x y)
      | _, _ => none
    | .For tg it a [] _ => match trG cx sc n tg, mkI cx sc (trE cx n sc) tg it, trSs cx n sc a with
      | some t, some i, some y => some (.frr t i y)
      | _, _, _ => none
    | .Return none _ => some (.ret none)
    | .Return (some e) _ => (trE cx n sc e).map fun y => .ret (some y)
    | .Break _ => some .brk
    | .Continue _ => some .cnt
    | .Pass _ => some .pas
    | .Raise _ _ _ => some .nev
    | _ => none
def trSs (cx : TCx) : Nat → Scope → List Stmt → Option (List S)
  | 0, _, _ => none
  | _ + 1, _, [] => some []
  | n + 1, sc, s :: ss => match trS cx n sc s, trSs cx n sc ss with
    | some x, some xs => some (x :: xs)
    | _, _ => none
end
end Sv

namespace Sv
open PySem PySem.Spec PyProof.Rows L2
/-! plain forms -/
def ordy : Expr → Bool
  | .Starred .. => false
  | .Set .. => false
  | .Slice .. => false
  | _ => true
theorem star1 {e : Expr} {es : List Expr} {env : Env} (h : ordy e = true) : starEach (e :: es) env = (false, eval e env) :: starEach es env := by
  cases e <;> first | rfl | cases h
theorem starAll {env : Env} {pos : Pos} : ∀ {es : List Expr}, (∀ e ∈ es, ordy e = true) → (backTo pos (starEach es env)).any (·.1) = false
  | [], _ => rfl
  | e :: es, h => by
    rw [star1 (h e (by simp))]
    show ((backTo pos ((false, eval e env) :: starEach es env)).any (·.1)) = false
    have := starAll (env := env) (pos := pos) (es := es) fun x hx => h x (by simp [hx])
    unfold backTo at this ⊢
    rw [List.map_cons, List.any_cons, this]
    rfl
theorem markO {e : Expr} {op : CmpOp} (h : ordy e = true) : behindInMarks op e = false := by
  cases e <;> first | rfl | cases h
theorem plainO {e : Expr} (h : ordy e = true) : PlainIx e := by
  cases e <;> first | exact fun _ _ => rfl | cases h
theorem foldO {e : Expr} {env : Env} (h : ordy e = true) : ∀ x, foldedSetIterable e env x = pure x := by
  cases e <;> first | exact fun _ => rfl | cases h
section
variable {cx : TCx} {F : Nat → Fn} {Ld : Nat → Bool}
theorem trE_ordy {n : Nat} {sc : Scope} {e : Expr} {ir : E} (h : trE cx n sc e = some ir) : ordy e = true := by
  cases n with
  | zero => simp [trE] at h
  | succ n => cases e <;> first | rfl | simp [trE] at h
theorem trL_ordy {f : Expr → Option E} (hf : ∀ e ir, f e = some ir → ordy e = true) : ∀ {es : List Expr} {irs : List E}, trL f es = some irs → ∀ e ∈ es, ordy e = true
  | [], _, _ => by simp
  | e :: es, irs, h => by
    simp only [trL] at h
    cases h1 : f e with
    | none => rw [h1] at h; simp at h
    | some x =>
      cases h2 : trL f es with
      | none => rw [h1, h2] at h; simp at h
      | some xs =>
        intro y hy
        rcases List.mem_cons.1 hy with rfl | hy
        · exact hf _ _ h1
        · exact trL_ordy hf h2 y hy
/-! what the text leans on -/
def bltNames : List Str := ["len", "abs", "min", "max", "sum", "all", "any", "tuple", "list", "int", "str", "bool", "dict", "isinstance", "range", "zip"]
structure Cxt (cx : TCx) (F : Nat → Fn) (Ld : Nat → Bool) (X : Cx) (sc : Scope) : Prop where
  calm : X.calm = true
  N : X.N = cx.N
  nd : cx.N.Nodup
  lk : ∀ x k, sc.names.lookup x = some k → X.env.scope.names.lookup x = some k ∨ (k = .free ∧ X.env.scope.names.lookup x = some .cell)
  fn : ∀ x, sc.names.lookup x = some .cell → X.fn x = true
  cons : ∀ x d, cx.cons.lookup x = some d → ∃ u v, X.mg x = some u ∧ RelV v u ∧ ∀ K H, Rp K H d v
  fns : ∀ i x, cx.fns[i]? = some x → ∃ k f fd ps n, FnOk X.prog X.w X.K X.mg X.base CX0 k f fd ps (spOf X.K n (F i)) ∧ Room k X.A ∧ X.mg x = some (.ref f) ∧ PySem.W.keepIn X.K (.ref f) = true ∧ L2.Binds X.K fd ps [] ∧ ∀ as out, F i as = some out → as.length = n
  blt : ∀ x ∈ bltNames, x ∉ cx.fns → X.mg x = none
  bf : ∀ x ∈ bltNames, x ∉ cx.fns
  hu : X.A.units + 65 < cLine
section
variable {X : Cx} {sc : Scope}
theorem Cxt.vis (C : Cxt cx F Ld X sc) {x : Str} (h : seen sc x = true) : Vis X.env.scope x := by
  unfold seen locl at h
  simp only [Bool.or_eq_true, beq_iff_eq] at h
  rcases h with (h | h) | h
  · rcases C.lk x _ h with h | h
    · exact .inl h
    · exact absurd h.1 (by simp)
  · rcases C.lk x _ h with h | h
    · exact .inr (.inl h)
    · exact absurd h.1 (by simp)
  · rcases C.lk x _ h with h | h
    · exact .inr (.inr h)
    · exact .inr (.inl h.2)
theorem Cxt.loc (C : Cxt cx F Ld X sc) {x : Str} (h : locl sc x = true) : Loc X.env.scope x ∧ (X.fn x = true ∨ X.env.scope.names.lookup x = some .local) := by
  unfold locl at h
  simp only [Bool.or_eq_true, beq_iff_eq] at h
  rcases h with h | h
  · rcases C.lk x _ h with h | h
    · exact ⟨.inl h, .inr h⟩
    · exact absurd h.1 (by simp)
  · rcases C.lk x _ h with h' | h'
    · exact ⟨.inr h', .inl (C.fn x h)⟩
    · exact absurd h'.1 (by simp)
theorem Cxt.gl (C : Cxt cx F Ld X sc) {x : Str} (h : glob sc x = true) : Gl X x := by
  unfold glob at h
  simp only [beq_iff_eq] at h
  rcases C.lk x _ h with h | h
  · exact h
  · exact absurd h.1 (by simp)
theorem ixOf_get {x : Str} {i : Nat} (h : ixOf cx x = some i) : cx.N[i]? = some x := by
  unfold ixOf at h
  rw [List.findIdx?_eq_some_iff_getElem] at h
  obtain ⟨lt, h1, _⟩ := h
  rw [List.getElem?_eq_getElem lt]
  simpa using h1
theorem Cxt.name (C : Cxt cx F Ld X sc) {x : Str} {p : Pos} {ir : E} {Γ Γ' : Gm} {r : Rs} (h : trName cx sc x = some ir) (he : evE F Ld ir Γ = some (r, Γ')) : DE X (.Name x p) Γ r Γ' := by
  unfold trName at h
  split at h
  · cases h
  · next hd =>
    simp only [Bool.or_eq_true, not_or, Bool.not_eq_true] at hd
    split at h
    · next hs =>
      cases hi : ixOf cx x with
      | none => rw [hi] at h; cases h
      | some i =>
        rw [hi] at h
        cases h
        simp only [evE] at he
        split at he
        · next hb =>
          cases he
          unfold bound at hb
          cases hg : Γ[i]? with
          | none => rw [hg] at hb; cases hb
          | some s =>
            refine de_var (pe_var (by rw [C.N]; exact ixOf_get hi) (C.vis hs) hd.1 hd.2) hg fun z => ?_
            subst z
            rw [hg] at hb
            cases hb
        · cases he
    · split at h
      · next hg =>
        cases hc : cx.cons.lookup x with
        | none => rw [hc] at h; cases h
        | some d =>
          rw [hc] at h
          cases h
          simp only [evE] at he
          cases he
          obtain ⟨u, v, h1, h2, h3⟩ := C.cons x d hc
          exact de_c (pe_glob (C.gl hg) h1 h2 hd.1) h3
      · cases h
end
theorem relab_lookup {g : Str → NameKind → NameKind} : ∀ {names : List (Str × NameKind)} {x : Str}, (names.map fun (y : Str × NameKind) => (y.1, g y.1 y.2)).lookup x = (names.lookup x).map (g x)
  | [], _ => rfl
  | (n, k) :: r, x => by
    simp only [List.map_cons, List.lookup_cons]
    cases h : x == n with
    | true =>
      have : x = n := by simpa using h
      subst this
      rfl
    | false => exact relab_lookup
/-- within a comprehension's block -/
theorem Cxt.blk {X : Cx} {sc csc : Scope} (C : Cxt cx F Ld X sc) (s : Shared) (H : Hp) (Ca : Addr) (cl : List (Str × Addr)) (fp : List Addr) : Cxt cx F Ld (X.blk s H csc (compEnvC csc cl Ca X.env) fp) csc where
  calm := C.calm
  N := C.N
  nd := C.nd
  lk := fun x k h => by
    have e : (relabel csc X.env).names.lookup x = (csc.names.lookup x).map fun k => if (k == NameKind.free && X.env.scope.kind == .function && X.env.kindOf x == some .cell) = true then NameKind.cell else k := by
      have hm : (relabel csc X.env).names = csc.names.map fun (y : Str × NameKind) => (y.1, (fun (n : Str) (k : NameKind) => if (k == NameKind.free && X.env.scope.kind == .function && X.env.kindOf n == some .cell) = true then NameKind.cell else k) y.1 y.2) := by
        unfold relabel
        show (csc.names.map _) = _
        apply List.map_congr_left
        rintro ⟨n, k⟩ _
        dsimp only
        split <;> rfl
      rw [hm, relab_lookup (g := fun (n : Str) (k : NameKind) => if (k == NameKind.free && X.env.scope.kind == .function && X.env.kindOf n == some .cell) = true then NameKind.cell else k)]
    show (relabel csc X.env).names.lookup x = some k ∨ (k = .free ∧ (relabel csc X.env).names.lookup x = some .cell)
    rw [e, h]
    simp only [Option.map_some, Option.some.injEq]
    split
    · next hk =>
      simp only [Bool.and_eq_true, beq_iff_eq] at hk
      exact .inr ⟨hk.1.1, rfl⟩
    · exact .inl rfl
  fn := fun x h => by
    show (csc.names.lookup x == some .cell) = true
    rw [h]
    rfl
  cons := C.cons
  fns := C.fns
  blt := C.blt
  bf := C.bf
  hu := C.hu
theorem Cxt.blkOk {X : Cx} {sc csc : Scope} (C : Cxt cx F Ld X sc) {own : List (Str × Nat)} (h : blkC cx.N sc csc own = true) : BlkOk X.N X.env.scope csc own := by
  have B := blkOk_by h
  rw [C.N]
  exact ⟨B.kind, B.uniq, B.ix, fun y hy hf => by
    rcases B.free y hy hf with q | q
    · rcases C.lk y.1 _ q with q | q
      · exact .inl q
      · exact .inl q.2
    · rcases C.lk y.1 _ q with q | q
      · exact .inr q
      · exact .inl q.2, B.own⟩
end
end Sv

namespace Sv
open PySem PySem.Spec PyProof.Rows L2
section
variable {cx : TCx} {F : Nat → Fn} {Ld : Nat → Bool}
theorem trG_ordy {sc : Scope} {n : Nat} {e : Expr} {t : Tg} (h : trG cx sc n e = some t) : ordy e = true := by
  cases n with
  | zero => simp [trG] at h
  | succ n => cases e <;> first | rfl | simp [trG] at h
theorem assign1 {e : Expr} {es : List Expr} {env : Env} (h : ordy e = true) : assignEach (e :: es) env = (false, assign e env) :: assignEach es env := by
  cases e <;> first | rfl | cases h
theorem trGs_each {sc : Scope} {env : Env} : ∀ {n : Nat} {es : List Expr} {ts : List Tg}, trGs cx sc n es = some ts → (assignEach es env).length = ts.length ∧ (assignEach es env).findIdx? (·.1) = none
  | 0, _, _, h => by simp [trGs] at h
  | n + 1, [], ts, h => by
    simp only [trGs, Option.some.injEq] at h
    subst h
    exact ⟨rfl, rfl⟩
  | n + 1, e :: es, ts, h => by
    simp only [trGs] at h
    cases h1 : trG cx sc n e with
    | none => rw [h1] at h; simp at h
    | some t =>
      cases h2 : trGs cx sc n es with
      | none => rw [h1, h2] at h; simp at h
      | some ts' =>
        rw [h1, h2] at h
        cases h
        obtain ⟨a, b⟩ := trGs_each (env := env) h2
        rw [assign1 (trG_ordy h1)]
        refine ⟨by rw [List.length_cons, List.length_cons, a], ?_⟩
        rw [List.findIdx?_cons, b]
        rfl
theorem bindTs_len : ∀ {ts : List Tg} {ds : List D} {Γ Γ' : Gm}, bindTs ts ds Γ = some Γ' → ds.length = ts.length
  | [], [], _, _, _ => rfl
  | [], _ :: _, _, _, h => by simp [bindTs] at h
  | _ :: _, [], _, _, h => by simp [bindTs] at h
  | t :: ts, d :: ds, Γ, Γ', h => by
    simp only [bindTs] at h
    cases h1 : bindT t d Γ with
    | none => rw [h1] at h; cases h
    | some Γ1 =>
      rw [h1] at h
      rw [List.length_cons, List.length_cons, bindTs_len h]
theorem sound_G {X : Cx} {sc : Scope} (C : Cxt cx F Ld X sc) : ∀ n : Nat, (∀ e t d Γ Γ', trG cx sc n e = some t → bindT t d Γ = some Γ' → DG X e t.slots Γ d Γ') ∧
    ∀ es ts ds Γ Γ', trGs cx sc n es = some ts → bindTs ts ds Γ = some Γ' → DGs X es (Tg.slotss ts) Γ ds Γ' := by
  intro n
  induction n with
  | zero => exact ⟨fun e t d Γ Γ' h => by simp [trG] at h, fun e t d Γ Γ' h => by simp [trGs] at h⟩
  | succ n ih =>
    refine ⟨fun e t d Γ Γ' h hb => ?_, fun es ts ds Γ Γ' h hb => ?_⟩
    · cases e <;> simp only [trG, reduceCtorEq] at h
      · next x p =>
        split at h
        · next hl =>
          cases hi : ixOf cx x with
          | none => rw [hi] at h; cases h
          | some i =>
            rw [hi] at h
            cases h
            simp only [bindT] at hb
            obtain ⟨l1, l2⟩ := C.loc hl
            exact dg_name (by rw [C.N]; exact C.nd) (by rw [C.N]; exact ixOf_get hi) l1 l2 hb
        · cases h
      · next es k p =>
        cases hi : trGs cx sc n es with
        | none => rw [hi] at h; cases h
        | some ts =>
          rw [hi] at h
          cases h
          obtain ⟨a1, a2⟩ := trGs_each (env := X.env) hi
          cases d <;> simp only [bindT, reduceCtorEq] at hb
          · exact dg_tup C.calm (ih.2 es ts _ Γ Γ' hi hb) (bindTs_len hb) a1 a2
          · exact dg_unl C.calm (ih.2 es ts _ Γ Γ' hi hb) (bindTs_len hb) a1 a2
    · cases es with
      | nil =>
        simp only [trGs, Option.some.injEq] at h
        subst h
        cases ds with
        | nil =>
          simp only [bindTs, Option.some.injEq] at hb
          subst hb
          exact dgs_nil
        | cons d ds => simp [bindTs] at hb
      | cons e es =>
        simp only [trGs] at h
        cases h1 : trG cx sc n e with
        | none => rw [h1] at h; simp at h
        | some t =>
          cases h2 : trGs cx sc n es with
          | none => rw [h1, h2] at h; simp at h
          | some ts' =>
            rw [h1, h2] at h
            cases h
            cases ds with
            | nil => simp [bindTs] at hb
            | cons d ds =>
              simp only [bindTs] at hb
              cases hb1 : bindT t d Γ with
              | none => rw [hb1] at hb; cases hb
              | some Γ1 =>
                rw [hb1] at hb
                refine dgs_cons (ih.1 e t d Γ Γ1 h1 hb1) (ih.2 es ts' ds Γ1 Γ' h2 hb) ?_
                rw [assign1 (trG_ordy h1)]
                rfl
/-! expressions: what is shown of a translation of size n -/
structure IHE (cx : TCx) (F : Nat → Fn) (Ld : Nat → Bool) (n : Nat) : Prop where
  e : ∀ {X : Cx} {sc : Scope} {e : Expr} {ir : E} {Γ Γ' : Gm} {r : Rs}, Cxt cx F Ld X sc → trE cx n sc e = some ir → evE F Ld ir Γ = some (r, Γ') → DE X e Γ r Γ'
  cp : ∀ {X : Cx} {sc : Scope} {a : Expr} {ops : List CmpOp} {cs : List Expr} {pos : Pos} {ir : E} {Γ Γ' : Gm} {r : Rs}, Cxt cx F Ld X sc → trE cx n sc (.Compare a ops cs pos) = some ir → evE F Ld ir Γ = some (r, Γ') → ∀ k, readR r Γ' = some (.bl k) → DT X (.Compare a ops cs pos) Γ k Γ'
  t : ∀ {X : Cx} {sc : Scope} {e : Expr} {ir : T} {Γ Γ' : Gm} {k : Bool}, Cxt cx F Ld X sc → trT cx n sc e = some ir → evT F Ld ir Γ = some (k, Γ') → DT X e Γ k Γ'
  ts : ∀ {X : Cx} {sc : Scope} {es : List Expr} {irs : List T} {Γ Γ' : Gm} {k : Bool}, Cxt cx F Ld X sc → trTs cx n sc es = some irs → irs.length ≤ 1 → evCs F Ld irs Γ = some (k, Γ') → PTs X es (rdT X.K Γ k Γ')
section
variable {X : Cx} {sc : Scope} {n : Nat}
theorem IHE.l (H : IHE cx F Ld n) (C : Cxt cx F Ld X sc) : ∀ {es : List Expr} {irs : List E} {Γ Γ' : Gm} {rs : List Rs}, trL (trE cx n sc) es = some irs → evEs F Ld irs Γ = some (rs, Γ') → DA X es Γ rs Γ'
  | [], irs, Γ, Γ', rs, h, he => by
    simp only [trL, Option.some.injEq] at h
    subst h
    simp only [evEs, Option.some.injEq, Prod.mk.injEq] at he
    obtain ⟨rfl, rfl⟩ := he
    exact da_nil
  | e :: es, irs, Γ, Γ', rs, h, he => by
    simp only [trL] at h
    cases h1 : trE cx n sc e with
    | none => rw [h1] at h; simp at h
    | some x =>
      cases h2 : trL (trE cx n sc) es with
      | none => rw [h1, h2] at h; simp at h
      | some xs =>
        rw [h1, h2] at h
        cases h
        simp only [evEs] at he
        cases e1 : evE F Ld x Γ with
        | none => rw [e1] at he; cases he
        | some p =>
          obtain ⟨r, Γ1⟩ := p
          rw [e1] at he
          simp only at he
          cases e2 : evEs F Ld xs Γ1 with
          | none => rw [e2] at he; cases he
          | some p =>
            obtain ⟨rs', Γ2⟩ := p
            rw [e2] at he
            cases he
            exact da_cons (H.e C h1 e1) (H.l C h2 e2) (star1 (trE_ordy h1))
theorem evEs_len : ∀ {irs : List E} {Γ Γ' : Gm} {rs : List Rs}, evEs F Ld irs Γ = some (rs, Γ') → rs.length = irs.length
  | [], Γ, Γ', rs, he => by
    simp only [evEs, Option.some.injEq, Prod.mk.injEq] at he
    obtain ⟨rfl, rfl⟩ := he
    rfl
  | x :: xs, Γ, Γ', rs, he => by
    simp only [evEs] at he
    cases e1 : evE F Ld x Γ with
    | none => rw [e1] at he; cases he
    | some p =>
      obtain ⟨r, Γ1⟩ := p
      rw [e1] at he
      simp only at he
      cases e2 : evEs F Ld xs Γ1 with
      | none => rw [e2] at he; cases he
      | some p =>
        obtain ⟨rs', Γ2⟩ := p
        rw [e2] at he
        cases he
        rw [List.length_cons, List.length_cons, evEs_len e2]
theorem copOf_op (op : CmpOp) : (copOf op).op = op := by cases op <;> rfl
theorem bopOf_op {op : Operator} {o : BOp} (h : bopOf op = some o) : o.op = op := by
  cases op <;> simp only [bopOf, Option.some.injEq, reduceCtorEq] at h <;> subst h <;> rfl
theorem IHE.bin (H : IHE cx F Ld n) (C : Cxt cx F Ld X sc) {a b : Expr} {op : Operator} {o : BOp} {x y : E} {pos : Pos} {Γ Γ' : Gm} {r : Rs} (ho : bopOf op = some o) (ha : trE cx n sc a = some x) (hb : trE cx n sc b = some y) (he : evE F Ld (.bin o x y) Γ = some (r, Γ')) : DE X (.BinOp a op b pos) Γ r Γ' := by
  simp only [evE] at he
  cases e1 : evE F Ld x Γ with
  | none => rw [e1] at he; cases he
  | some p =>
    obtain ⟨r1, Γ1⟩ := p
    rw [e1] at he
    simp only at he
    cases e2 : evE F Ld y Γ1 with
    | none => rw [e2] at he; cases he
    | some p =>
      obtain ⟨r2, Γ2⟩ := p
      rw [e2] at he
      simp only at he
      cases d1 : readR r1 Γ2 with
      | none => rw [d1] at he; simp at he
      | some d1' =>
        cases d2 : readR r2 Γ2 with
        | none => rw [d1, d2] at he; simp at he
        | some d2' =>
          rw [d1, d2] at he
          simp only at he
          cases hb' : binD o d1' d2' with
          | none => rw [hb'] at he; cases he
          | some r' =>
            rw [hb'] at he
            cases he
            obtain ⟨w, w1, w2⟩ := bin_ok (X := X) hb'
            rw [bopOf_op ho] at w1
            exact de_bin w1 (H.e C ha e1) (H.e C hb e2) d1 d2 w2
theorem IHE.cmp (H : IHE cx F Ld n) (C : Cxt cx F Ld X sc) {a b : Expr} {op : CmpOp} {x y : E} {pos : Pos} {Γ Γ' : Gm} {r : Rs} (ha : trE cx n sc a = some x) (hb : trE cx n sc b = some y) (he : evE F Ld (.cmp (copOf op) x y) Γ = some (r, Γ')) :
    DE X (.Compare a [op] [b] pos) Γ r Γ' ∧ ∀ k, readR r Γ' = some (.bl k) → DT X (.Compare a [op] [b] pos) Γ k Γ' := by
  simp only [evE] at he
  cases e1 : evE F Ld x Γ with
  | none => rw [e1] at he; cases he
  | some p =>
    obtain ⟨r1, Γ1⟩ := p
    rw [e1] at he
    simp only at he
    cases e2 : evE F Ld y Γ1 with
    | none => rw [e2] at he; cases he
    | some p =>
      obtain ⟨r2, Γ2⟩ := p
      rw [e2] at he
      simp only at he
      cases d1 : readR r1 Γ2 with
      | none => rw [d1] at he; simp at he
      | some d1' =>
        cases d2 : readR r2 Γ2 with
        | none => rw [d1, d2] at he; simp at he
        | some d2' =>
          rw [d1, d2] at he
          simp only at he
          cases hb' : cmpD (copOf op) d1' d2' with
          | none => rw [hb'] at he; cases he
          | some k =>
            rw [hb'] at he
            cases he
            obtain ⟨w, w1, w2⟩ := cmp_ok (X := X) C.hu hb'
            rw [copOf_op] at w1
            refine ⟨de_cmp w1 (H.e C ha e1) (H.e C hb e2) (markO (trE_ordy hb)) d1 d2 w2, fun k' hk => ?_⟩
            simp only [readR, Option.some.injEq, D.bl.injEq] at hk
            subst hk
            exact dt_cmp w1 (H.e C ha e1) (H.e C hb e2) (markO (trE_ordy hb)) d1 d2 w2
theorem IHE.an (H : IHE cx F Ld n) (C : Cxt cx F Ld X sc) {pos : Pos} : ∀ {vs : List Expr} {ir : E} {Γ Γ' : Gm} {r : Rs}, trBoolE .an (trE cx n sc) vs = some ir → evE F Ld ir Γ = some (r, Γ') → DE X (.BoolOp .And vs pos) Γ r Γ'
  | [], ir, Γ, Γ', r, h, _ => by simp [trBoolE] at h
  | [a], ir, Γ, Γ', r, h, he => by
    simp only [trBoolE] at h
    exact pe_one (H.e C h he)
  | a :: b :: vs, ir, Γ, Γ', r, h, he => by
    simp only [trBoolE] at h
    cases h1 : trE cx n sc a with
    | none => rw [h1] at h; simp at h
    | some x =>
      cases h2 : trBoolE .an (trE cx n sc) (b :: vs) with
      | none => rw [h1, h2] at h; simp at h
      | some y =>
        rw [h1, h2] at h
        cases h
        simp only [evE] at he
        cases e1 : evE F Ld x Γ with
        | none => rw [e1] at he; cases he
        | some p =>
          obtain ⟨r1, Γ1⟩ := p
          rw [e1] at he
          simp only at he
          split at he
          · next hr =>
            refine pe_sub (pe_and (H.e C h1 e1) (H.an C h2 he)) fun σ Hh Q q => ⟨q.1, fun v H1 s1 p1 o1 => ⟨true, (read_ok s1.env p1 hr).bl, ?_⟩⟩
            rw [if_pos rfl]
            exact ⟨s1.env, fun w H2 s2 p2 o2 => q.2 w H2 (s1.trans s2) p2 (o2.ste s1)⟩
          · next hr =>
            cases he
            refine pe_sub (pe_and (tb := fun _ _ _ => False) (H.e C h1 e1) ⟨fun _ _ _ _ _ _ f => f.elim⟩) fun σ Hh Q q => ⟨q.1, fun v H1 s1 p1 o1 => ⟨false, (read_ok s1.env p1 hr).bl, ?_⟩⟩
            rw [if_neg (by decide)]
            exact q.2 _ H1 s1 (by simp only [Pd, Rp]) trivial
          · cases he
theorem IHE.orr (H : IHE cx F Ld n) (C : Cxt cx F Ld X sc) {pos : Pos} : ∀ {vs : List Expr} {ir : E} {Γ Γ' : Gm} {r : Rs}, trBoolE .orr (trE cx n sc) vs = some ir → evE F Ld ir Γ = some (r, Γ') → DE X (.BoolOp .Or vs pos) Γ r Γ'
  | [], ir, Γ, Γ', r, h, _ => by simp [trBoolE] at h
  | [a], ir, Γ, Γ', r, h, he => by
    simp only [trBoolE] at h
    exact pe_one (H.e C h he)
  | a :: b :: vs, ir, Γ, Γ', r, h, he => by
    simp only [trBoolE] at h
    cases h1 : trE cx n sc a with
    | none => rw [h1] at h; simp at h
    | some x =>
      cases h2 : trBoolE .orr (trE cx n sc) (b :: vs) with
      | none => rw [h1, h2] at h; simp at h
      | some y =>
        rw [h1, h2] at h
        cases h
        simp only [evE] at he
        cases e1 : evE F Ld x Γ with
        | none => rw [e1] at he; cases he
        | some p =>
          obtain ⟨r1, Γ1⟩ := p
          rw [e1] at he
          simp only at he
          split at he
          · next hr =>
            cases he
            refine pe_sub (pe_or (tb := fun _ _ _ => False) (H.e C h1 e1) ⟨fun _ _ _ _ _ _ f => f.elim⟩) fun σ Hh Q q => ⟨q.1, fun v H1 s1 p1 o1 => ⟨true, (read_ok s1.env p1 hr).bl, ?_⟩⟩
            rw [if_pos rfl]
            exact q.2 _ H1 s1 (by simp only [Pd, Rp]) trivial
          · next hr =>
            refine pe_sub (pe_or (H.e C h1 e1) (H.orr C h2 he)) fun σ Hh Q q => ⟨q.1, fun v H1 s1 p1 o1 => ⟨false, (read_ok s1.env p1 hr).bl, ?_⟩⟩
            rw [if_neg (by decide)]
            exact ⟨s1.env, fun w H2 s2 p2 o2 => q.2 w H2 (s1.trans s2) p2 (o2.ste s1)⟩
          · cases he
end
end
end Sv

namespace Sv
open PySem PySem.Spec PyProof.Rows L2
section
variable {cx : TCx} {F : Nat → Fn} {Ld : Nat → Bool} {X : Cx} {sc : Scope} {n : Nat}
theorem IHE.chn (H : IHE cx F Ld n) (C : Cxt cx F Ld X sc) {a b c : Expr} {op op' : CmpOp} {x y z : E} {pos : Pos} {Γ Γ' : Gm} {r : Rs} (ha : trE cx n sc a = some x) (hb : trE cx n sc b = some y) (hc : trE cx n sc c = some z) (he : evE F Ld (.chn (copOf op) (copOf op') x y z) Γ = some (r, Γ')) :
    DE X (.Compare a [op, op'] [b, c] pos) Γ r Γ' ∧ ∀ k, readR r Γ' = some (.bl k) → DT X (.Compare a [op, op'] [b, c] pos) Γ k Γ' := by
  have lm : lastMarks [op, op'] [b, c] = false := markO (trE_ordy hc)
  simp only [evE] at he
  cases e1 : evE F Ld x Γ with
  | none => rw [e1] at he; cases he
  | some p =>
    obtain ⟨r1, Γ1⟩ := p
    rw [e1] at he
    simp only at he
    cases e2 : evE F Ld y Γ1 with
    | none => rw [e2] at he; cases he
    | some p =>
      obtain ⟨r2, Γ2⟩ := p
      rw [e2] at he
      simp only at he
      cases d1 : readR r1 Γ2 with
      | none => rw [d1] at he; simp at he
      | some d1' =>
        cases d2 : readR r2 Γ2 with
        | none => rw [d1, d2] at he; simp at he
        | some d2' =>
          rw [d1, d2] at he
          simp only at he
          cases hb' : cmpD (copOf op) d1' d2' with
          | none => rw [hb'] at he; cases he
          | some k =>
            rw [hb'] at he
            obtain ⟨w, w1, w2⟩ := cmp_ok (X := X) C.hu hb'
            rw [copOf_op] at w1
            have A1 := H.e C ha e1
            have A2 := H.e C hb e2
            cases k with
            | false =>
              simp only [Option.some.injEq, Prod.mk.injEq] at he
              obtain ⟨rfl, rfl⟩ := he
              constructor
              · refine pe_sub (pe_chain (r' := fun _ _ _ _ => False) w1 (fun _ _ _ _ _ _ _ _ _ _ _ _ f => f.elim) A1 A2 (tc := fun _ _ _ => False) ⟨fun _ _ _ _ _ _ f => f.elim⟩ lm) fun σ Hh Q q => ⟨q.1, fun v H1 s1 p1 o1 => ⟨s1.env, fun u H2 s2 p2 o2 => w2 H2 v u _ (read_ok s2.env (p1.ste s2) d1) (read_ok s2.env p2 d2) fun t H3 sm f => ?_⟩⟩
                obtain ⟨s3, p3, o3⟩ := f.lift s2.env sm
                have et : t = .bl false := by simpa only [Fr, Rp] using f
                refine ⟨false, et, ?_⟩
                rw [if_neg (by decide)]
                exact q.2 _ H3 ((s1.trans s2).trans s3) (by simp only [Pd, Rp]) trivial
              · intro k hk
                simp only [readR, Option.some.injEq, D.bl.injEq] at hk
                subst hk
                refine pt_sub (pt_chain (r' := fun _ _ _ _ => False) w1 (fun _ _ _ _ _ _ _ _ _ _ _ _ f => f.elim) A1 A2 (tc := fun _ _ _ => False) ⟨fun _ _ _ _ _ _ f => f.elim⟩ lm) fun σ Hh Q q => ⟨q.1, fun v H1 s1 p1 o1 => ⟨s1.env, fun u H2 s2 p2 o2 => w2 H2 v u _ (read_ok s2.env (p1.ste s2) d1) (read_ok s2.env p2 d2) fun t H3 sm f => ?_⟩⟩
                obtain ⟨s3, p3, o3⟩ := f.lift s2.env sm
                have et : t = .bl false := by simpa only [Fr, Rp] using f
                refine ⟨false, et, ?_⟩
                rw [if_neg (by decide)]
                exact ⟨false, rfl, q.2 H3 ((s1.trans s2).trans s3)⟩
            | true =>
              simp only at he
              cases e3 : evE F Ld z Γ2 with
              | none => rw [e3] at he; cases he
              | some p =>
                obtain ⟨r3, Γ3⟩ := p
                rw [e3] at he
                simp only at he
                cases d2b : readR r2 Γ3 with
                | none => rw [d2b] at he; simp at he
                | some d2'' =>
                  cases d3 : readR r3 Γ3 with
                  | none => rw [d2b, d3] at he; simp at he
                  | some d3' =>
                    rw [d2b, d3] at he
                    simp only at he
                    cases hb2 : cmpD (copOf op') d2'' d3' with
                    | none => rw [hb2] at he; cases he
                    | some k =>
                      rw [hb2] at he
                      cases he
                      obtain ⟨w', w3, w4⟩ := cmp_ok (X := X) C.hu hb2
                      rw [copOf_op] at w3
                      have A3 := H.e C hc e3
                      constructor
                      · refine pe_sub (pe_chain w1 w3 A1 A2 A3 lm) fun σ Hh Q q => ⟨q.1, fun v H1 s1 p1 o1 => ⟨s1.env, fun u H2 s2 p2 o2 => w2 H2 v u _ (read_ok s2.env (p1.ste s2) d1) (read_ok s2.env p2 d2) fun t H3 sm f => ?_⟩⟩
                        obtain ⟨s3, p3, o3⟩ := f.lift s2.env sm
                        have et : t = .bl true := by simpa only [Fr, Rp] using f
                        refine ⟨true, et, ?_⟩
                        rw [if_pos rfl]
                        refine ⟨s3.env, fun t' H4 s4 p4 o4 => w4 H4 u t' _ (read_ok s4.env ((p2.ste s3).ste s4) d2b) (read_ok s4.env p4 d3) fun t'' H5 sm5 f5 => ?_⟩
                        obtain ⟨s5, p5, o5⟩ := f5.lift s4.env sm5
                        exact q.2 _ H5 ((((s1.trans s2).trans s3).trans s4).trans s5) p5 trivial
                      · intro k' hk
                        simp only [readR, Option.some.injEq, D.bl.injEq] at hk
                        subst hk
                        refine pt_sub (pt_chain w1 w3 A1 A2 A3 lm) fun σ Hh Q q => ⟨q.1, fun v H1 s1 p1 o1 => ⟨s1.env, fun u H2 s2 p2 o2 => w2 H2 v u _ (read_ok s2.env (p1.ste s2) d1) (read_ok s2.env p2 d2) fun t H3 sm f => ?_⟩⟩
                        obtain ⟨s3, p3, o3⟩ := f.lift s2.env sm
                        have et : t = .bl true := by simpa only [Fr, Rp] using f
                        refine ⟨true, et, ?_⟩
                        rw [if_pos rfl]
                        refine ⟨s3.env, fun t' H4 s4 p4 o4 => w4 H4 u t' _ (read_ok s4.env ((p2.ste s3).ste s4) d2b) (read_ok s4.env p4 d3) fun t'' H5 sm5 f5 => ?_⟩
                        obtain ⟨s5, p5, o5⟩ := f5.lift s4.env sm5
                        have et2 : t'' = .bl k := by simpa only [Fr, Rp] using f5
                        exact ⟨k, et2, q.2 H5 ((((s1.trans s2).trans s3).trans s4).trans s5)⟩
/-! tests -/
theorem pw_sub {X : Cx} {e : Expr} {t t' : TT} (h : PW X e t) (w : ∀ σ H Q, t' σ H Q → t σ H Q) : PW X e t' := ⟨fun wh pins s σ H Q I q => h.run wh pins s σ H Q I (w σ H Q q)⟩
theorem IHE.anT (H : IHE cx F Ld n) (C : Cxt cx F Ld X sc) {pos : Pos} : ∀ {vs : List Expr} {ir : T} {Γ Γ' : Gm} {k : Bool}, trBoolT .an (trT cx n sc) vs = some ir → evT F Ld ir Γ = some (k, Γ') → PW X (.BoolOp .And vs pos) (rdT X.K Γ k Γ')
  | [], ir, Γ, Γ', k, h, _ => by simp [trBoolT] at h
  | [a], ir, Γ, Γ', k, h, he => by
    simp only [trBoolT] at h
    exact pw_and1 (H.t C h he)
  | a :: b :: vs, ir, Γ, Γ', k, h, he => by
    simp only [trBoolT] at h
    cases h1 : trT cx n sc a with
    | none => rw [h1] at h; simp at h
    | some x =>
      cases h2 : trBoolT .an (trT cx n sc) (b :: vs) with
      | none => rw [h1, h2] at h; simp at h
      | some y =>
        rw [h1, h2] at h
        cases h
        simp only [evT] at he
        split at he
        · cases he
        · next Γ1 e1 =>
          refine pw_sub (pw_and (H.t C h1 e1) (H.anT C h2 he)) fun σ Hh Q q => ⟨q.1, fun H1 s1 => ?_⟩
          dsimp only
          rw [if_pos rfl]
          exact ⟨s1.env, fun H2 s2 => q.2 H2 (s1.trans s2)⟩
        · next Γ1 e1 =>
          cases he
          refine pw_sub (pw_and (tB' := fun _ _ _ => False) (H.t C h1 e1) ⟨fun _ _ _ _ _ _ _ f => f.elim⟩) fun σ Hh Q q => ⟨q.1, fun H1 s1 => ?_⟩
          dsimp only
          rw [if_neg (by decide)]
          exact q.2 H1 s1
theorem IHE.orT (H : IHE cx F Ld n) (C : Cxt cx F Ld X sc) {pos : Pos} : ∀ {vs : List Expr} {ir : T} {Γ Γ' : Gm} {k : Bool}, trBoolT .orr (trT cx n sc) vs = some ir → evT F Ld ir Γ = some (k, Γ') → PW X (.BoolOp .Or vs pos) (rdT X.K Γ k Γ')
  | [], ir, Γ, Γ', k, h, _ => by simp [trBoolT] at h
  | [a], ir, Γ, Γ', k, h, he => by
    simp only [trBoolT] at h
    exact pw_or1 (H.t C h he)
  | a :: b :: vs, ir, Γ, Γ', k, h, he => by
    simp only [trBoolT] at h
    cases h1 : trT cx n sc a with
    | none => rw [h1] at h; simp at h
    | some x =>
      cases h2 : trBoolT .orr (trT cx n sc) (b :: vs) with
      | none => rw [h1, h2] at h; simp at h
      | some y =>
        rw [h1, h2] at h
        cases h
        simp only [evT] at he
        split at he
        · cases he
        · next Γ1 e1 =>
          cases he
          refine pw_sub (pw_or (tB' := fun _ _ _ => False) (H.t C h1 e1) ⟨fun _ _ _ _ _ _ _ f => f.elim⟩) fun σ Hh Q q => ⟨q.1, fun H1 s1 => ?_⟩
          dsimp only
          rw [if_pos rfl]
          exact q.2 H1 s1
        · next Γ1 e1 =>
          refine pw_sub (pw_or (H.t C h1 e1) (H.orT C h2 he)) fun σ Hh Q q => ⟨q.1, fun H1 s1 => ?_⟩
          dsimp only
          rw [if_neg (by decide)]
          exact ⟨s1.env, fun H2 s2 => q.2 H2 (s1.trans s2)⟩
/-- a test's translation, by the sort of the expression -/
theorem IHE.test (H : IHE cx F Ld n) (C : Cxt cx F Ld X sc) {e : Expr} {ir : T} {Γ Γ' : Gm} {k : Bool} (h : trT cx (n + 1) sc e = some ir) (he : evT F Ld ir Γ = some (k, Γ')) : DT X e Γ k Γ' := by
  have dflt : ∀ {e : Expr}, (∀ whole, isTrue e X.env whole = (do let v ← whole; standAt e.pos; holding [v] (truthy v))) → (trE cx n sc e).map T.val = some ir → DT X e Γ k Γ' := by
    intro e hi hh
    cases h1 : trE cx n sc e with
    | none => rw [h1] at hh; cases hh
    | some x =>
      rw [h1] at hh
      cases hh
      simp only [evT] at he
      cases e1 : evE F Ld x Γ with
      | none => rw [e1] at he; cases he
      | some p =>
        obtain ⟨r, Γ1⟩ := p
        rw [e1] at he
        simp only at he
        split at he
        · next hr =>
          cases he
          exact dt_of_bl (H.e C h1 e1) hr hi
        · cases he
  cases e with
  | UnaryOp op a pos =>
    cases op with
    | Not =>
      simp only [trT] at h
      cases h1 : trT cx n sc a with
      | none => rw [h1] at h; cases h
      | some x =>
        rw [h1] at h
        cases h
        simp only [evT] at he
        cases e1 : evT F Ld x Γ with
        | none => rw [e1] at he; cases he
        | some p =>
          obtain ⟨k', Γ1⟩ := p
          rw [e1] at he
          cases he
          exact dt_not (H.t C h1 e1)
    | Invert => simp only [trT] at h; exact dflt (fun _ => rfl) h
    | UAdd => simp only [trT] at h; exact dflt (fun _ => rfl) h
    | USub => simp only [trT] at h; exact dflt (fun _ => rfl) h
  | BoolOp op vs pos =>
    cases op with
    | And =>
      simp only [trT] at h
      exact (H.anT C h he).pt
    | Or =>
      simp only [trT] at h
      exact (H.orT C h he).pt
  | IfExp a b c pos => simp [trT] at h
  | Compare a ops cs pos =>
    simp only [trT] at h
    cases h1 : trE cx n sc (.Compare a ops cs pos) with
    | none => rw [h1] at h; cases h
    | some x =>
      rw [h1] at h
      cases h
      simp only [evT] at he
      cases e1 : evE F Ld x Γ with
      | none => rw [e1] at he; cases he
      | some p =>
        obtain ⟨r, Γ1⟩ := p
        rw [e1] at he
        simp only at he
        split at he
        · next hr =>
          cases he
          exact H.cp C h1 e1 _ hr
        · cases he
  | _ => simp only [trT] at h; exact dflt (fun _ => rfl) h
end
end Sv

namespace Sv
open PySem PySem.Spec PyProof.Rows L2
section
variable {cx : TCx} {F : Nat → Fn} {Ld : Nat → Bool} {X : Cx} {sc : Scope} {n : Nat}
theorem fnIx {f : Str} {i : Nat} {l : List Str} (h : l.findIdx? (· == f) = some i) : l[i]? = some f := by
  rw [List.findIdx?_eq_some_iff_getElem] at h
  obtain ⟨lt, h1, _⟩ := h
  rw [List.getElem?_eq_getElem lt]
  simpa using h1
theorem fnNone {f : Str} {l : List Str} (h : l.findIdx? (· == f) = none) : f ∉ l := by
  rw [List.findIdx?_eq_none_iff] at h
  intro hm
  have := h f hm
  simp at this
theorem IHE.own (H : IHE cx F Ld n) (C : Cxt cx F Ld X sc) {f : Str} {i : Nat} {e : Expr} {es : List Expr} {irs : List E} {Γ Γ' : Gm} {r : Rs} {p pos : Pos} (hg : glob sc f = true) (hd : (f == ("__debug__" : Str)) = false) (hf : cx.fns.findIdx? (· == f) = some i) (ht : trL (trE cx n sc) (e :: es) = some irs)
    (he : evE F Ld (.call i irs) Γ = some (r, Γ')) : DE X (.Call (.Name f p) (e :: es) [] pos) Γ r Γ' := by
  obtain ⟨k, fa, fd, ps, m, FO, hr, hm, hk, hb, hlen⟩ := C.fns i f (fnIx hf)
  have od := trL_ordy (fun e ir h => trE_ordy h) ht
  have st : starEach (e :: es) X.env = (false, eval e X.env) :: starEach es X.env := star1 (od e (by simp))
  have sa : (backTo pos (starEach es X.env)).any (·.1) = false := starAll fun x hx => od x (by simp [hx])
  simp only [evE] at he
  cases e1 : evEs F Ld irs Γ with
  | none => rw [e1] at he; cases he
  | some q =>
    obtain ⟨rs, Γ1⟩ := q
    rw [e1] at he
    simp only at he
    have A := H.l C ht e1
    cases hld : Ld i with
    | true =>
      rw [hld] at he
      cases rs with
      | nil => simp [callE] at he
      | cons r0 rs' =>
        cases r0 with
        | val d => simp [callE] at he
        | new d => simp [callE] at he
        | slot j =>
          simp only [callE] at he
          cases h2 : takeRs rs' Γ1 with
          | none => rw [h2] at he; cases he
          | some q =>
            obtain ⟨ds, Γ2⟩ := q
            rw [h2] at he
            simp only at he
            cases h3 : ownAt Γ2 j with
            | none => rw [h3] at he; cases he
            | some d =>
              rw [h3] at he
              simp only at he
              split at he
              · next r' d' h4 =>
                split at he
                · next h5 =>
                  cases he
                  have := hlen _ _ h4
                  exact de_callL FO hr (C.gl hg) hm hk hb (dl_take A h2) h3 (by simpa using this) h4 h5 hd st sa
                · cases he
              · cases he
    | false =>
      rw [hld] at he
      simp only [callE] at he
      cases h2 : takeRs rs Γ1 with
      | none => rw [h2] at he; cases he
      | some q =>
        obtain ⟨ds, Γ2⟩ := q
        rw [h2] at he
        simp only at he
        split at he
        · next r' o h4 =>
          split at he
          · next h5 =>
            cases he
            have := hlen _ _ h4
            exact de_call FO hr (C.gl hg) hm hk hb (dc_take A h2) (by simpa using this) h4 h5 hd st sa
          · cases he
        · cases he
theorem biOf_name {x : Str} {b : Bi} (h : biOf x = some b) : b.name = x ∧ x ∈ bltNames ∧ b ≠ .str := by
  unfold biOf at h
  repeat' split at h
  all_goals first
    | (cases h; subst_vars; exact ⟨rfl, by decide, by decide⟩)
    | cases h
theorem tyOf_name {x : Str} {t : Ty} (h : tyOf? x = some t) : t.name = x ∧ x ∈ bltNames := by
  unfold tyOf? at h
  repeat' split at h
  all_goals first
    | (cases h; subst_vars; exact ⟨rfl, by decide⟩)
    | cases h
theorem IHE.bi (H : IHE cx F Ld n) (C : Cxt cx F Ld X sc) {b : Bi} {e : Expr} {es : List Expr} {irs : List E} {Γ Γ' : Gm} {r : Rs} {p pos : Pos} (hg : glob sc b.name = true) (hm : b.name ∈ bltNames) (hf : b.name ∉ cx.fns) (hns : b ≠ .str) (ht : trL (trE cx n sc) (e :: es) = some irs)
    (he : evE F Ld (.bi b irs) Γ = some (r, Γ')) : DE X (.Call (.Name b.name p) (e :: es) [] pos) Γ r Γ' := by
  have od := trL_ordy (fun e ir h => trE_ordy h) ht
  simp only [evE] at he
  cases e1 : evEs F Ld irs Γ with
  | none => rw [e1] at he; cases he
  | some q =>
    obtain ⟨rs, Γ1⟩ := q
    rw [e1] at he
    simp only at he
    cases h2 : readRs rs Γ1 with
    | none => rw [h2] at he; cases he
    | some ds =>
      rw [h2] at he
      simp only at he
      cases h3 : biD b ds with
      | none => rw [h3] at he; cases he
      | some r' =>
        rw [h3] at he
        cases he
        exact de_bi C.calm (C.gl hg) (C.blt _ hm hf) (H.l C ht e1) h2 h3 hns (star1 (od e (by simp))) (starAll fun x hx => od x (by simp [hx]))
theorem IHE.isi (H : IHE cx F Ld n) (C : Cxt cx F Ld X sc) {a t : Expr} {x : E} {ts : List Ty} {Γ Γ' : Gm} {r : Rs} {p pos : Pos} (hg : glob sc "isinstance" = true) (hf : ("isinstance" : Str) ∉ cx.fns) (ha : trE cx n sc a = some x) (ht : trTy sc t = some ts)
    (he : evE F Ld (.isi x ts) Γ = some (r, Γ')) : DE X (.Call (.Name "isinstance" p) [a, t] [] pos) Γ r Γ' := by
  simp only [evE] at he
  cases e1 : evE F Ld x Γ with
  | none => rw [e1] at he; cases he
  | some q =>
    obtain ⟨r1, Γ1⟩ := q
    rw [e1] at he
    simp only at he
    cases h2 : readR r1 Γ1 with
    | none => rw [h2] at he; cases he
    | some d =>
      rw [h2] at he
      simp only at he
      cases h3 : isiD d ts with
      | none => rw [h3] at he; cases he
      | some k =>
        rw [h3] at he
        cases he
        have A := H.e C ha e1
        have oa := trE_ordy ha
        have mi : X.mg "isinstance" = none := C.blt _ (by decide) hf
        unfold trTy at ht
        split at ht
        · next y py =>
          split at ht
          · next hgy =>
            cases hq : tyOf? y with
            | none => rw [hq] at ht; cases ht
            | some u =>
              rw [hq] at ht
              cases ht
              obtain ⟨e2, e3⟩ := tyOf_name hq
              subst e2
              simp only [isiD] at h3
              split at h3
              · next hn =>
                cases h3
                exact de_isi A h2 hn (C.gl hg) mi (C.gl hgy) (C.blt _ e3 (C.bf _ e3)) (star1 oa)
              · cases h3
          · cases ht
        · next y py z pz kk pp =>
          split at ht
          · next hgy =>
            rw [Bool.and_eq_true] at hgy
            cases hq : tyOf? y with
            | none => rw [hq] at ht; simp at ht
            | some u =>
              cases hq2 : tyOf? z with
              | none => rw [hq, hq2] at ht; simp at ht
              | some u2 =>
                rw [hq, hq2] at ht
                cases ht
                obtain ⟨e2, e3⟩ := tyOf_name hq
                obtain ⟨e4, e5⟩ := tyOf_name hq2
                subst e2
                subst e4
                simp only [isiD] at h3
                split at h3
                · next hn =>
                  cases h3
                  exact de_isi2 A h2 hn (C.gl hg) mi (C.gl hgy.1) (C.blt _ e3 (C.bf _ e3)) (C.gl hgy.2) (C.blt _ e5 (C.bf _ e5)) (star1 oa)
                · cases h3
          · cases ht
        · cases ht
theorem IHE.rng (H : IHE cx F Ld n) (C : Cxt cx F Ld X sc) {as : List Expr} {irs : List E} {tg : Expr} {Γ Γ' : Gm} {ds : List D} {p pos : Pos} (hg : glob sc "range" = true) (hf : ("range" : Str) ∉ cx.fns) (ht : trL (trE cx n sc) as = some irs) (h12 : (∃ a, as = [a]) ∨ ∃ a b, as = [a, b])
    (he : evI F Ld (.rng irs) Γ = some (ds, Γ')) : DI X tg (.Call (.Name "range" p) as [] pos) Γ ds Γ' := by
  have od := trL_ordy (fun e ir h => trE_ordy h) ht
  have mi : X.mg "range" = none := C.blt _ (by decide) hf
  simp only [evI] at he
  cases e1 : evEs F Ld irs Γ with
  | none => rw [e1] at he; cases he
  | some q =>
    obtain ⟨rs, Γ1⟩ := q
    rw [e1] at he
    simp only at he
    cases h2 : readRs rs Γ1 with
    | none => rw [h2] at he; cases he
    | some xs =>
      rw [h2] at he
      simp only at he
      cases h3 : rngD xs with
      | none => rw [h3] at he; cases he
      | some ys =>
        rw [h3] at he
        cases he
        have A := H.l C ht e1
        have hrl : ∀ {rs : List Rs} {xs : List D}, readRs rs Γ' = some xs → xs.length = rs.length := by
          intro rs
          induction rs with
          | nil => intro xs h; simp only [readRs, Option.some.injEq] at h; subst h; rfl
          | cons r rs ih =>
            intro xs h
            simp only [readRs] at h
            cases q1 : readR r Γ' with
            | none => rw [q1] at h; cases h
            | some d =>
              rw [q1] at h
              simp only at h
              cases q2 : readRs rs Γ' with
              | none => rw [q2] at h; cases h
              | some ds =>
                rw [q2] at h
                cases h
                rw [List.length_cons, List.length_cons, ih q2]
        have lx : xs.length = irs.length := by rw [hrl h2, evEs_len e1]
        have li : irs.length = as.length := by
          have key : ∀ {as : List Expr} {irs : List E}, trL (trE cx n sc) as = some irs → irs.length = as.length := by
            intro as
            induction as with
            | nil => intro irs h; simp only [trL, Option.some.injEq] at h; subst h; rfl
            | cons a as ih =>
              intro irs h
              simp only [trL] at h
              cases q1 : trE cx n sc a with
              | none => rw [q1] at h; simp at h
              | some x =>
                cases q2 : trL (trE cx n sc) as with
                | none => rw [q1, q2] at h; simp at h
                | some xs =>
                  rw [q1, q2] at h
                  cases h
                  rw [List.length_cons, List.length_cons, ih q2]
          exact key ht
        rcases h12 with ⟨a, rfl⟩ | ⟨a, b, rfl⟩
        · unfold rngD at h3
          split at h3
          · split at h3
            · next hs =>
              cases h3
              exact di_range1 A h2 hs (C.gl hg) mi (star1 (od a (by simp)))
            · cases h3
          · simp at lx li; omega
          · cases h3
        · unfold rngD at h3
          split at h3
          · simp at lx li; omega
          · split at h3
            · next hs =>
              cases h3
              rw [Bool.and_eq_true] at hs
              exact di_range2 A h2 hs.1 hs.2 (C.gl hg) mi (by rw [star1 (od a (by simp)), star1 (od b (by simp))]; rfl) (star1 (od b (by simp)))
            · cases h3
          · cases h3
theorem IHE.seq (H : IHE cx F Ld n) (C : Cxt cx F Ld X sc) {it tg : Expr} {x : E} {Γ Γ' : Gm} {ds : List D} (ht : trE cx n sc it = some x) (he : evI F Ld (.seq x) Γ = some (ds, Γ')) : DI X tg it Γ ds Γ' := by
  simp only [evI] at he
  cases e1 : evE F Ld x Γ with
  | none => rw [e1] at he; cases he
  | some q =>
    obtain ⟨r, Γ1⟩ := q
    rw [e1] at he
    simp only at he
    cases h2 : takeR r Γ1 with
    | none => rw [h2] at he; cases he
    | some q =>
      obtain ⟨d, Γ2⟩ := q
      rw [h2] at he
      simp only at he
      have A := de_take (H.e C ht e1) h2
      cases d <;> simp only [seqD, reduceCtorEq] at he
      · cases he; exact di_str A
      · cases he; exact di_tup A
      · cases he; exact di_lst A
theorem IHE.zip (H : IHE cx F Ld n) (C : Cxt cx F Ld X sc) {a b : Expr} {x y : E} {elts : List Expr} {kk : Nat} {tp p pos : Pos} {Γ Γ' : Gm} {ds : List D} (hg : glob sc "zip" = true) (hf : ("zip" : Str) ∉ cx.fns) (ha : trE cx n sc a = some x) (hb : trE cx n sc b = some y)
    (he : evI F Ld (.zip x y) Γ = some (ds, Γ')) : DI X (.Tuple elts kk tp) (.Call (.Name "zip" p) [a, b] [] pos) Γ ds Γ' := by
  simp only [evI] at he
  cases e1 : evE F Ld x Γ with
  | none => rw [e1] at he; cases he
  | some q =>
    obtain ⟨r1, Γ1⟩ := q
    rw [e1] at he
    simp only at he
    cases e2 : evE F Ld y Γ1 with
    | none => rw [e2] at he; cases he
    | some q =>
      obtain ⟨r2, Γ2⟩ := q
      rw [e2] at he
      simp only at he
      split at he
      · next d1 d2 Γ3 h3 =>
        cases h4 : bothSeq d1 d2 with
        | none => rw [h4] at he; cases he
        | some q =>
          obtain ⟨xs, ys⟩ := q
          rw [h4] at he
          cases he
          have A := dc_take (da_cons (H.e C ha e1) (da_cons (H.e C hb e2) da_nil (star1 (trE_ordy hb))) (star1 (trE_ordy ha))) h3
          exact di_zip A h4 (C.gl hg) (C.blt _ (by decide) hf) (star1 (trE_ordy ha)) (starAll fun z hz => by simp at hz; subst hz; exact trE_ordy hb)
      · cases he
theorem IHE.lrng1 (H : IHE cx F Ld n) (C : Cxt cx F Ld X sc) {Γ Γ' : Gm} {r : Rs} {p p2 p3 pos : Pos} {a : Expr} {x : E} (hg : glob sc "list" = true) (hf : ("list" : Str) ∉ cx.fns) (hg2 : glob sc "range" = true) (hf2 : ("range" : Str) ∉ cx.fns) (ha : trE cx n sc a = some x) (he : evE F Ld (.lrng [x]) Γ = some (r, Γ')) :
    DE X (.Call (.Name "list" p) [.Call (.Name "range" p2) [a] [] p3] [] pos) Γ r Γ' := by
  simp only [evE, evEs] at he
  cases e1 : evE F Ld x Γ with
  | none => rw [e1] at he; cases he
  | some q =>
    obtain ⟨r1, Γ1⟩ := q
    rw [e1] at he
    simp only [readRs] at he
    cases h2 : readR r1 Γ1 with
    | none => rw [h2] at he; cases he
    | some d =>
      rw [h2] at he
      cases d <;> simp only [lrngD, reduceCtorEq] at he
      split at he
      · next h3 =>
        split at h3
        · next h4 =>
          cases h3
          cases he
          exact de_lrng1 C.calm (C.gl hg) (C.blt _ (by decide) hf) (C.gl hg2) (C.blt _ (by decide) hf2) (H.e C ha e1) h2 h4 (star1 (trE_ordy ha)) rfl
        · cases h3
      · cases he
theorem IHE.lrng2 (H : IHE cx F Ld n) (C : Cxt cx F Ld X sc) {Γ Γ' : Gm} {r : Rs} {p p2 p3 pos : Pos} {a b : Expr} {x y : E} (hg : glob sc "list" = true) (hf : ("list" : Str) ∉ cx.fns) (hg2 : glob sc "range" = true) (hf2 : ("range" : Str) ∉ cx.fns) (ha : trE cx n sc a = some x) (hb : trE cx n sc b = some y) (he : evE F Ld (.lrng [x, y]) Γ = some (r, Γ')) :
    DE X (.Call (.Name "list" p) [.Call (.Name "range" p2) [a, b] [] p3] [] pos) Γ r Γ' := by
  simp only [evE, evEs] at he
  cases e1 : evE F Ld x Γ with
  | none => rw [e1] at he; cases he
  | some q =>
    obtain ⟨r1, Γ1⟩ := q
    rw [e1] at he
    simp only at he
    cases e2 : evE F Ld y Γ1 with
    | none => rw [e2] at he; cases he
    | some q =>
      obtain ⟨r2, Γ2⟩ := q
      rw [e2] at he
      simp only [readRs] at he
      cases h2 : readR r1 Γ2 with
      | none => rw [h2] at he; cases he
      | some d =>
        cases h3 : readR r2 Γ2 with
        | none => rw [h2, h3] at he; cases he
        | some d' =>
          rw [h2, h3] at he
          cases d <;> cases d' <;> simp only [lrngD, reduceCtorEq] at he
          split at he
          · next h4 =>
            split at h4
            · next h5 =>
              cases h4
              cases he
              exact de_lrng2 C.calm (C.gl hg) (C.blt _ (by decide) hf) (C.gl hg2) (C.blt _ (by decide) hf2) (H.e C ha e1) (H.e C hb e2) h2 h3 h5 (star1 (trE_ordy ha)) (star1 (trE_ordy hb)) rfl (starAll fun z hz => by simp at hz; subst hz; exact trE_ordy hb)
            · cases h4
          · cases he
end
end Sv

namespace Sv
open PySem PySem.Spec PyProof.Rows L2 HT
theorem rev_pick (xs : List Value) : ((List.range xs.length).filterMap fun (k : Nat) => xs.toArray[(((xs.length : Int) - 1) + (k : Int) * (-1)).toNat]?).toArray = xs.reverse.toArray := by
  congr 1
  have e : ∀ n, n ≤ xs.length → ((List.range n).filterMap fun (k : Nat) => xs.toArray[(((xs.length : Int) - 1) + (k : Int) * (-1)).toNat]?) = xs.reverse.take n := by
    intro n
    induction n with
    | zero => intro _; simp
    | succ n ih =>
      intro hn
      have j : (((xs.length : Int) - 1) + (n : Int) * (-1)).toNat = xs.length - 1 - n := by omega
      have lt : xs.length - 1 - n < xs.length := by omega
      rw [List.range_succ, List.filterMap_append, ih (by omega), List.filterMap_cons, j, List.filterMap_nil]
      rw [List.take_add_one, List.getElem?_reverse (by omega)]
      simp [List.getElem?_eq_getElem lt]
  rw [e _ (Nat.le_refl _), List.take_of_length_le (by simp)]
section
variable {prog : Program} {w : World} {A : Around} {E : Value → Shared → Prop} {s : Shared}
theorem rev_applied {q : Addr} {z : Value} {n : Nat} {Q : Int × Int × Nat → Shared → Prop} (hs : s.heap.IsSliceOf q .none .none z) (pz : IsPart z (some (-1))) (h : Q ((n : Int) - 1, -1, n) s) : wpAny (model prog w) A (Builtin.Slice.sliceApplied (.ref q) (pure (n : Int))) Q E s := by
  obtain ⟨o, ho, _, hd⟩ := id hs
  unfold Builtin.Slice.sliceApplied Builtin.Slice.sliceFields
  refine wpAny_bind (wpAny_bind (wpAny_field ho hd (x := .none) rfl (wpAny_bind (wpAny_field ho hd (x := .none) rfl (wpAny_bind (wpAny_field ho hd (x := z) rfl (wpAny_pure ?_)))))))
  refine wpAny_bind (slicePart_ pz ?_)
  show wpAny _ _ (if ((-1 : Int) == 0) = true then _ else _) _ _ s
  rw [if_neg (by decide)]
  refine wpAny_bind (slicePart_none (wpAny_bind (slicePart_none (wpAny_bind (wpAny_pure ?_)))))
  have e1 : Builtin.Slice.sliceAdjust none none (-1) (n : Int) = ((n : Int) - 1, -1) := by
    simp [Builtin.Slice.sliceAdjust]
  have e2 : Builtin.Slice.slicePlaces ((n : Int) - 1) (-1) (-1) = n := by
    unfold Builtin.Slice.slicePlaces
    simp only [show ¬ ((-1 : Int) > 0) by decide, if_false, show (- (-1 : Int)) = 1 by decide, Int.ediv_one]
    split <;> omega
  show wpAny _ _ (match Builtin.Slice.sliceAdjust none none (-1) (n : Int) with | (lo, hi) => pure (lo, (-1 : Int), Builtin.Slice.slicePlaces lo hi (-1))) _ _ s
  rw [e1]
  show wpAny _ _ (pure ((n : Int) - 1, (-1 : Int), Builtin.Slice.slicePlaces ((n : Int) - 1) (-1) (-1))) _ _ s
  rw [e2]
  exact wpAny_pure h
theorem rev_item {t q : Addr} {xs : List Value} {z : Value} {Q : Value → Shared → Prop} (ht : IsTup s.heap t xs.toArray) (hs : s.heap.IsSliceOf q .none .none z) (pz : IsPart z (some (-1))) (h : Q (.ref s.heap.objs.size) { s with heap := s.heap.push { cls := .type "tuple", data := .seq xs.reverse.toArray } }) (hz : xs.length ≤ sizeLine) :
    wpAny (model prog w) A (getItem (.ref t) (.ref q)) Q E s := by
  have ok : sizeOk (.seq xs.reverse.toArray) := by show xs.reverse.toArray.size ≤ sizeLine; simpa using hz
  obtain ⟨o, ho, hc, _⟩ := id hs
  have tq : s.TypeIs (.ref q) "slice" := ⟨o, ho, hc⟩
  unfold getItem
  try with_reducible refine wpAny_holding ?_
  first | refine wpAny_bind (wpAny_pure ?_) | skip
  refine wpAny_bind (wpAny_sequenceKey ht.typeIs (by decide) (wpAny_bind ?_))
  refine wpAny_callSpecial?_slot (name := Str.ofString "__getitem__") ht.typeIs PyProof.Rows.slot_tuple_getitem (wpAny_call_entry PyProof.Rows.slot_tuple_getitem ht.typeIs entry_tuple_getitem ?_ (args_tuple_getitem _ _))
  show wpAny _ _ (Builtin.Tuple.tupleItemsOf (.ref t) >>= _) _ _ s
  refine wpAny_bind (tupleItemsOf_ ht (wpAny_bind (wpAny_typeOf tq ?_)))
  rw [if_pos (by decide)]
  refine wpAny_bind (rev_applied hs pz ?_)
  show wpAny _ _ (if ((((xs.toArray.size : Nat) : Int) - 1) == 0 && (-1 : Int) == 1 && xs.toArray.size == xs.toArray.size) = true then _ else _) _ _ s
  rw [if_neg (by simp)]
  have e : ((List.range xs.toArray.size).filterMap fun (k : Nat) => xs.toArray[((((xs.toArray.size : Nat) : Int) - 1) + (k : Int) * (-1)).toNat]?).toArray = xs.reverse.toArray := by
    simp only [List.size_toArray]
    exact rev_pick xs
  rw [e]
  first
    | exact wpAny_bind (m := Builtin.Tuple.tupleExact _) (wpAny_newObj_type (wpAny_pure ⟨_, rfl, wpAny_pure h⟩) ok)
    | exact wpAny_bind (m := Builtin.Tuple.tupleExact _) (wpAny_newObj_type (wpAny_bind (wpAny_pure (wpAny_pure ⟨_, rfl, wpAny_pure h⟩))) ok)
    | exact wpAny_bind (wpAny_bind (m := Builtin.Tuple.tupleExact _) (wpAny_newObj_type (wpAny_pure (wpAny_pure ⟨_, rfl, wpAny_pure h⟩)) ok))
    | exact wpAny_bind (wpAny_bind (m := Builtin.Tuple.tupleExact _) (wpAny_newObj_type (wpAny_pure ⟨_, rfl, wpAny_pure h⟩) ok))
end
end Sv
namespace Sv
open PySem PySem.Spec PyProof.Rows L2 HT
def tRevT (K : PySem.W.Frag) (te : TE) : TE := fun σ H Q => te σ H fun x H1 => ∃ a xs, x = .ref a ∧ SqT K H1 a xs ∧ ∀ p, H1 p = none → Q (.ref p) (upd H1 p (.tup xs.reverse))
theorem pe_revT {X : Cx} {e : Expr} {te : TE} {k : Nat} {p1 p2 p3 pos : Pos} (he : PE X e te) : PE X (.Subscript e (.Slice none none (some (.UnaryOp .USub (.Constant (.int 1) k p1) p2)) p3) pos) (tRevT X.K te) := by
  refine ⟨fun pins s σ H Q J h => Subscript_ (thn (he.run pins s σ H _ J h) fun v sa ⟨x, Ha, Ja, ra, qa⟩ => ?_)⟩
  obtain ⟨a, xs, rfl, hx, fin⟩ := qa
  cases ra
  have mi : PO X (some (.UnaryOp .USub (.Constant (.int 1) k p1) p2)) (tPart (tUn (rU fun i => .int (-i)) (tC (.int 1)))) := po_some (pe_un un_neg pe_int)
  refine wpAny_Slice (thn (po_none.run pins sa σ Ha (fun o Hb => o = none ∧ Hb = Ha) Ja ⟨rfl, rfl⟩) fun v1 sb ⟨_, Hb, Jb, g1, rfl, eb⟩ => thn (po_none.run pins sb σ Hb (fun o Hc => o = none ∧ Hc = Hb) Jb ⟨rfl, rfl⟩) fun v2 sc ⟨_, Hc, Jc, g2, rfl, ec⟩ => thn (mi.run pins sc σ Hc (fun o Hd => o = some (-1) ∧ Hd = Hc) Jc ⟨1, rfl, -1, rfl, rfl, rfl⟩) fun v3 sd ⟨o, Hd, Jd, g3, eo, ed⟩ => ?_)
  subst eo ed ec eb
  cases g1; cases g2
  have Je : L2.Inv X pins σ Hd { sd with heap := sd.heap.push { cls := .type "slice", data := .fields #[.none, .none, v3] } } := Jd.kept (t' := sd.toks) fun b ob q => Heap.get?_push_of_some _ q
  obtain ⟨its, r, ht, hz⟩ := Je.tuple hx
  have hn := r.length
  show wpAny (model X.prog X.w) X.A (subscriptTail e (.Slice none none (some (.UnaryOp .USub (.Constant (.int 1) k p1) p2)) p3) (.ref a) (.ref sd.heap.objs.size)) (EP X pins σ Q) X.xe { sd with heap := sd.heap.push { cls := .type "slice", data := .fields #[.none, .none, v3] } }
  refine tail_any (ops := [.ref a, .ref sd.heap.objs.size]) ht.typeIs (PyProof.Rows.slot_tuple_getitem.lookup) ?_ (by with_unfolding_all rfl)
  refine rev_item ht (Heap.IsSliceOf.new _ .none .none v3) g3 ?_ (by omega)
  refine ⟨.ref _, _, Je.laid (t' := sd.toks) (o := .tup xs.reverse) (fun b ob q => Heap.get?_push_of_some _ q) (Nat.le_refl _) ?_, rfl, fin _ (Je.hok.fresh (Nat.le_refl _))⟩
  exact ⟨by simpa using hz, _, r.reverse, IsTup.new _ _⟩
end Sv
namespace Sv
open PySem PySem.Spec PyProof.Rows L2
section
variable {cx : TCx} {F : Nat → Fn} {Ld : Nat → Bool} {X : Cx} {sc : Scope} {n : Nat}
theorem RpL.reverse {K : PySem.W.Frag} {H : Hp} : ∀ {xs : List D} {vs : List V}, RpL K H xs vs → RpL K H xs.reverse vs.reverse
  | [], vs, h => by simp only [RpL] at h; subst h; simp [RpL]
  | x :: xs, vs, h => by
    simp only [RpL] at h
    obtain ⟨v, w, rfl, h1, h2⟩ := h
    rw [List.reverse_cons, List.reverse_cons]
    exact (RpL.reverse h2).snoc h1
theorem de_revT {X : Cx} {Γ Γ1 : Gm} {e : Expr} {r : Rs} {xs : List D} {k : Nat} {p1 p2 p3 pos : Pos} (he : DE X e Γ r Γ1) (hr : readR r Γ1 = some (.tup xs)) : DE X (.Subscript e (.Slice none none (some (.UnaryOp .USub (.Constant (.int 1) k p1) p2)) p3) pos) Γ (.val (.tup xs.reverse)) Γ1 :=
  pe_sub (pe_revT he) fun σ H Q q => ⟨q.1, fun v H1 s1 p1 o1 => by
    obtain ⟨a, vs, rfl, hs, hv⟩ := (read_ok s1.env p1 hr).tup
    refine ⟨a, vs, rfl, hs, fun p hp => ?_⟩
    have f : Fr X.K H1 (.val (.tup xs.reverse)) (.ref p) (upd H1 p (.tup vs.reverse)) := by
      simp only [Fr, Rp]
      exact ⟨p, _, rfl, SqT.of upd_same, RpL.per (Per.of_same (same_new hp)) _ _ hv.reverse⟩
    obtain ⟨s2, p2, o2⟩ := f.lift s1.env (same_new hp)
    exact q.2 _ _ (s1.trans s2) p2 (o2.ste s1)⟩
theorem de_revL {X : Cx} {Γ Γ1 : Gm} {e : Expr} {r : Rs} {xs : List D} {k : Nat} {p1 p2 p3 pos : Pos} (he : DE X e Γ r Γ1) (hr : readR r Γ1 = some (.lst xs)) : DE X (.Subscript e (.Slice none none (some (.UnaryOp .USub (.Constant (.int 1) k p1) p2)) p3) pos) Γ (.new (.lst xs.reverse)) Γ1 :=
  pe_sub (pe_revL he) fun σ H Q q => ⟨q.1, fun v H1 s1 p1 o1 => by
    obtain ⟨a, vs, rfl, hs, hv⟩ := (read_ok s1.env p1 hr).lst
    refine ⟨a, vs, rfl, hs, fun p hp => ?_⟩
    have f : Fr X.K H1 (.new (.lst xs.reverse)) (.ref p) (upd H1 p (.lst vs.reverse)) := ⟨p, rfl, hp, _, upd_same, RpL.per (Per.of_same (same_new hp)) _ _ hv.reverse⟩
    obtain ⟨s2, p2, o2⟩ := f.lift s1.env (same_new hp)
    exact q.2 _ _ (s1.trans s2) p2 (o2.ste s1)⟩
theorem IHE.comp (H : IHE cx F Ld n) (C : Cxt cx F Ld X sc) {elt tg it : Expr} {ifs : List Expr} {csc : Scope} {x : E} {t : Tg} {i : I} {cs : List T} {Γ : Gm} (hk : blkC cx.N sc csc (ownOf cx csc) = true) (hi : mkI cx sc (trE cx n sc) tg it = some i) (hg : trG cx csc n tg = some t) (hc : trTs cx n csc ifs = some cs) (he : trE cx n csc elt = some x)
    (hs : (t.slots.all fun j => ((ownOf cx csc).map (·.2)).contains j) = true) (hl : cs.length ≤ 1) {r : Rs} {Γ' : Gm} (hv : evE F Ld (.comp x t i cs ((ownOf cx csc).map (·.2))) Γ = some (r, Γ')) (hI : ∀ {ds : List D} {Γ1 : Gm}, evI F Ld i Γ = some (ds, Γ1) → DI X tg it Γ ds Γ1) (ot : ordy it = true) :
    ∃ ds Γ1 Γe out, r = .new (.lst out) ∧ Γ' = restore Γ1 Γe ((ownOf cx csc).map (·.2)) ∧ DI X tg it Γ ds Γ1 ∧ BlkOk X.N X.env.scope csc (ownOf cx csc) ∧
      (∀ (s : Shared) (Hh : Hp) (Ca : Addr) (cl : List (Str × Addr)) (fp : List Addr) (d : D) (Γ Γ1 : Gm), bindT t d Γ = some Γ1 → DG (X.blk s Hh csc (compEnvC csc cl Ca X.env) fp) tg t.slots Γ d Γ1) ∧
      (∀ (s : Shared) (Hh : Hp) (Ca : Addr) (cl : List (Str × Addr)) (fp : List Addr) (Γ : Gm) (b : Bool) (Γ1 : Gm), evCs F Ld cs Γ = some (b, Γ1) → PTs (X.blk s Hh csc (compEnvC csc cl Ca X.env) fp) ifs (rdT X.K Γ b Γ1)) ∧
      (∀ (s : Shared) (Hh : Hp) (Ca : Addr) (cl : List (Str × Addr)) (fp : List Addr) (Γ : Gm) (d : D) (Γ1 : Gm), (match evE F Ld x Γ with | none => none | some (r, Γ') => takeR r Γ') = some (d, Γ1) → DE (X.blk s Hh csc (compEnvC csc cl Ca X.env) fp) elt Γ (.val d) Γ1) ∧
      (∀ x, foldedSetIterable it X.env x = pure x) ∧ compL ((ownOf cx csc).map (·.2)) (bindT t) (evCs F Ld cs) (fun Γ => match evE F Ld x Γ with | none => none | some (r, Γ') => takeR r Γ') ds [] (wipeG Γ1 ((ownOf cx csc).map (·.2))) = some (out, Γe) ∧
      (∀ j ∈ (ownOf cx csc).map (·.2), ∀ d, Γ1[j]? ≠ some (.io d)) ∧ (∀ j ∈ t.slots, j ∈ (ownOf cx csc).map (·.2)) := by
  simp only [evE] at hv
  cases e1 : evI F Ld i Γ with
  | none => rw [e1] at hv; cases hv
  | some q =>
    obtain ⟨ds, Γ1⟩ := q
    rw [e1] at hv
    simp only at hv
    split at hv
    · next hn =>
      split at hv
      · cases hv
      · next out Γe hcl =>
        cases hv
        refine ⟨ds, Γ1, Γe, out, rfl, rfl, hI e1, C.blkOk hk, fun s Hh Ca cl fp d Γ Γ1 hb => (sound_G (C.blk s Hh Ca cl fp) n).1 tg t d Γ Γ1 hg hb, fun s Hh Ca cl fp Γ b Γ1 hb => H.ts (C.blk s Hh Ca cl fp) hc hl hb,
          fun s Hh Ca cl fp Γ d Γ1 hb => ?_, foldO ot, hcl, fun j hj d hd => ?_, fun j hj => ?_⟩
        · cases e2 : evE F Ld x Γ with
          | none => rw [e2] at hb; cases hb
          | some q =>
            obtain ⟨r, Γ2⟩ := q
            rw [e2] at hb
            exact de_take (H.e (C.blk s Hh Ca cl fp) he e2) hb
        · unfold notIo at hn
          rw [List.all_eq_true] at hn
          have := hn j hj
          rw [hd] at this
          cases this
        · rw [List.all_eq_true] at hs
          have := hs j hj
          simpa using this
    · cases hv
/-- the iterable of a translated loop is plain -/
theorem mkI_ordy {tg it : Expr} {i : I} (h : mkI cx sc (trE cx n sc) tg it = some i) : ordy it = true := by
  cases it <;> first
    | rfl
    | (simp only [mkI] at h
       simp only [Option.map_eq_some_iff] at h
       obtain ⟨x, h1, _⟩ := h
       exact trE_ordy h1)
theorem and3 {a b c : Bool} (h : (a && b && c) = true) : a = true ∧ b = true ∧ c = true := by
  rw [Bool.and_eq_true, Bool.and_eq_true] at h
  exact ⟨h.1.1, h.1.2, h.2⟩
theorem isRange_of {g : Str} (h : isRange cx sc g = true) : g = "range" ∧ glob sc "range" = true ∧ ("range" : Str) ∉ cx.fns := by
  unfold isRange at h
  obtain ⟨h1, h2, h3⟩ := and3 h
  have e : g = "range" := of_decide_eq_true h1
  subst e
  exact ⟨rfl, h2, by simpa using h3⟩
theorem isZip_of {g : Str} (h : isZip cx sc g = true) : g = "zip" ∧ glob sc "zip" = true ∧ ("zip" : Str) ∉ cx.fns := by
  unfold isZip at h
  obtain ⟨h1, h2, h3⟩ := and3 h
  have e : g = "zip" := of_decide_eq_true h1
  subst e
  exact ⟨rfl, h2, by simpa using h3⟩
theorem len12_of {as : List Expr} (h : len12 as = true) : (∃ a, as = [a]) ∨ ∃ a b, as = [a, b] := by
  unfold len12 at h
  split at h
  · exact .inl ⟨_, rfl⟩
  · exact .inr ⟨_, _, rfl⟩
  · cases h
theorem IHE.iter (H : IHE cx F Ld n) (C : Cxt cx F Ld X sc) {tg it : Expr} {i : I} {Γ Γ' : Gm} {ds : List D} (h : mkI cx sc (trE cx n sc) tg it = some i) (he : evI F Ld i Γ = some (ds, Γ')) : DI X tg it Γ ds Γ' := by
  have sq : ∀ {it : Expr}, (trE cx n sc it).map I.seq = some i → DI X tg it Γ ds Γ' := by
    intro it hh
    rw [Option.map_eq_some_iff] at hh
    obtain ⟨x, h1, rfl⟩ := hh
    exact H.seq C h1 he
  unfold mkI at h
  split at h
  · next g pg as pos =>
    split at h
    · next hr =>
      rw [Bool.and_eq_true] at hr
      obtain ⟨rfl, h2, h3⟩ := isRange_of hr.1
      rw [Option.map_eq_some_iff] at h
      obtain ⟨xs, h1, rfl⟩ := h
      exact H.rng C h2 h3 h1 (len12_of hr.2) he
    · split at h
      · next hz =>
        rw [Bool.and_eq_true] at hz
        obtain ⟨rfl, h2, h3⟩ := isZip_of hz.1
        have ht := hz.2
        unfold isTupleE at ht
        split at ht
        · unfold mkZip at h
          split at h
          · split at h
            · next x y h4 h5 =>
              cases h
              exact H.zip C h2 h3 h4 h5 he
            · cases h
          · cases h
        · cases ht
      · exact sq h
  · exact sq h
theorem IHE.disp (H : IHE cx F Ld n) (C : Cxt cx F Ld X sc) {es : List Expr} {irs : List E} {Γ Γ' : Gm} {r : Rs} {k : Nat} {pos : Pos} (ht : trL (trE cx n sc) es = some irs) :
    (evE F Ld (.tup irs) Γ = some (r, Γ') → DE X (.Tuple es k pos) Γ r Γ') ∧ (evE F Ld (.lst irs) Γ = some (r, Γ') → DE X (.List es pos) Γ r Γ') := by
  constructor
  · intro he
    simp only [evE] at he
    cases e1 : evEs F Ld irs Γ with
    | none => rw [e1] at he; cases he
    | some q =>
      obtain ⟨rs, Γ1⟩ := q
      rw [e1] at he
      simp only at he
      cases h2 : takeRs rs Γ1 with
      | none => rw [h2] at he; cases he
      | some q =>
        obtain ⟨ds, Γ2⟩ := q
        rw [h2] at he
        simp only at he
        split at he
        · next hl =>
          cases he
          exact de_tup (dc_take (H.l C ht e1) h2) (lim_size hl)
        · cases he
  · intro he
    simp only [evE] at he
    cases e1 : evEs F Ld irs Γ with
    | none => rw [e1] at he; cases he
    | some q =>
      obtain ⟨rs, Γ1⟩ := q
      rw [e1] at he
      simp only at he
      cases h2 : takeRs rs Γ1 with
      | none => rw [h2] at he; cases he
      | some q =>
        obtain ⟨ds, Γ2⟩ := q
        rw [h2] at he
        simp only at he
        split at he
        · next hl =>
          cases he
          exact de_lst (dc_take (H.l C ht e1) h2) (lim_size hl)
        · cases he
theorem IHE.ite (H : IHE cx F Ld n) (C : Cxt cx F Ld X sc) {c a b : Expr} {x : T} {y z : E} {Γ Γ' : Gm} {r : Rs} {pos : Pos} (hc : trT cx n sc c = some x) (ha : trE cx n sc a = some y) (hb : trE cx n sc b = some z) (he : evE F Ld (.ite x y z) Γ = some (r, Γ')) : DE X (.IfExp c a b pos) Γ r Γ' := by
  simp only [evE] at he
  split at he
  · cases he
  · next Γ1 e1 => exact de_if (H.t C hc e1) (fun _ => H.e C ha he) (fun h => by cases h)
  · next Γ1 e1 => exact de_if (H.t C hc e1) (fun h => by cases h) (fun _ => H.e C hb he)
theorem IHE.ix (H : IHE cx F Ld n) (C : Cxt cx F Ld X sc) {a b : Expr} {x y : E} {Γ Γ' : Gm} {r : Rs} {pos : Pos} (ha : trE cx n sc a = some x) (hb : trE cx n sc b = some y) (he : evE F Ld (.ix x y) Γ = some (r, Γ')) : DE X (.Subscript a b pos) Γ r Γ' := by
  simp only [evE] at he
  cases e1 : evE F Ld x Γ with
  | none => rw [e1] at he; cases he
  | some p =>
    obtain ⟨r1, Γ1⟩ := p
    rw [e1] at he
    simp only at he
    cases e2 : evE F Ld y Γ1 with
    | none => rw [e2] at he; cases he
    | some p =>
      obtain ⟨r2, Γ2⟩ := p
      rw [e2] at he
      simp only at he
      split at he
      · next d1 d2 h1 h2 =>
        split at he
        · next d h3 =>
          cases he
          obtain ⟨o, w1, w2⟩ := ix_ok (X := X) h3
          exact de_ix w1 (H.e C ha e1) (H.e C hb e2) (plainO (trE_ordy hb)) h1 h2 w2
        · cases he
      · cases he
theorem IHE.o (H : IHE cx F Ld n) (C : Cxt cx F Ld X sc) {e : Option Expr} {x : Option E} {Γ Γ' : Gm} {l : Option Int} (ht : trO (trE cx n sc) e = some x) (he : evO F Ld x Γ = some (l, Γ')) : DO X e Γ l Γ' := by
  cases e with
  | none =>
    simp only [trO, Option.some.injEq] at ht
    subst ht
    simp only [evO, Option.some.injEq, Prod.mk.injEq] at he
    obtain ⟨rfl, rfl⟩ := he
    exact do_none
  | some e =>
    simp only [trO] at ht
    cases h1 : trE cx n sc e with
    | none => rw [h1] at ht; cases ht
    | some y =>
      rw [h1] at ht
      cases ht
      simp only [evO] at he
      cases e1 : evE F Ld y Γ with
      | none => rw [e1] at he; cases he
      | some p =>
        obtain ⟨r1, Γ1⟩ := p
        rw [e1] at he
        simp only at he
        split at he
        · next hr =>
          cases he
          exact do_some (H.e C h1 e1) hr
        · cases he
theorem IHE.sl (H : IHE cx F Ld n) (C : Cxt cx F Ld X sc) {a : Expr} {lo hi : Option Expr} {x : E} {y z : Option E} {Γ Γ' : Gm} {r : Rs} {pos p2 : Pos} (ha : trE cx n sc a = some x) (hlo : trO (trE cx n sc) lo = some y) (hhi : trO (trE cx n sc) hi = some z) (he : evE F Ld (.sl x y z) Γ = some (r, Γ')) : DE X (.Subscript a (.Slice lo hi none p2) pos) Γ r Γ' := by
  simp only [evE] at he
  cases e1 : evE F Ld x Γ with
  | none => rw [e1] at he; cases he
  | some p =>
    obtain ⟨r1, Γ1⟩ := p
    rw [e1] at he
    simp only at he
    cases e2 : evO F Ld y Γ1 with
    | none => rw [e2] at he; cases he
    | some p =>
      obtain ⟨l, Γ2⟩ := p
      rw [e2] at he
      simp only at he
      cases e3 : evO F Ld z Γ2 with
      | none => rw [e3] at he; cases he
      | some p =>
        obtain ⟨u, Γ3⟩ := p
        rw [e3] at he
        simp only at he
        split at he
        · next d1 h1 =>
          split at he
          · next r' h2 =>
            cases he
            obtain ⟨o, w1, w2⟩ := sl_ok (X := X) h2
            exact de_slice w1 (H.e C ha e1) (H.o C hlo e2) (H.o C hhi e3) h1 w2
          · cases he
        · cases he
theorem IHE.app (H : IHE cx F Ld n) (C : Cxt cx F Ld X sc) {o a : Expr} {x y : E} {Γ Γ' : Gm} {r : Rs} {ap cp : Pos} (ho : trE cx n sc o = some x) (ha : trE cx n sc a = some y) (hl : (ap.endLine == cp.line) = true) (he : evE F Ld (.app x y) Γ = some (r, Γ')) (hb : attributeBase o "append" X.env (eval o X.env) = eval o X.env) :
    DE X (.Call (.Attribute o "append" ap) [a] [] cp) Γ r Γ' := by
  simp only [evE] at he
  split at he
  · next i Γ1 e1 =>
    split at he
    · next ys h1 =>
      cases e2 : evE F Ld y Γ1 with
      | none => rw [e2] at he; cases he
      | some p =>
        obtain ⟨r2, Γ2⟩ := p
        rw [e2] at he
        simp only at he
        cases h2 : takeR r2 Γ2 with
        | none => rw [h2] at he; cases he
        | some p =>
          obtain ⟨d, Γ3⟩ := p
          rw [h2] at he
          simp only at he
          split at he
          · next xs h3 =>
            split at he
            · next h4 =>
              cases he
              have A : DC X [a] Γ1 [d] Γ3 := dc_take (da_cons (H.e C ha e2) da_nil (star1 (trE_ordy ha))) (by simp only [takeRs]; rw [h2])
              exact de_append (H.e C ho e1) A h3 h4 hb (star1 (trE_ordy ha)) hl (by rw [h1]; exact fun z => by cases z) (fun zs hz => by rw [h1] at hz; cases hz; exact ⟨ys, rfl⟩)
            · cases he
          · cases he
    · cases he
  · cases he
theorem IHE.jn (H : IHE cx F Ld n) (C : Cxt cx F Ld X sc) {o a : Expr} {x y : E} {Γ Γ' : Gm} {r : Rs} {ap cp : Pos} (ho : trE cx n sc o = some x) (ha : trE cx n sc a = some y) (hl : (ap.endLine == cp.line) = true) (he : evE F Ld (.jn x y) Γ = some (r, Γ')) (hb : attributeBase o "join" X.env (eval o X.env) = eval o X.env) :
    DE X (.Call (.Attribute o "join" ap) [a] [] cp) Γ r Γ' := by
  simp only [evE] at he
  split at he
  · next z Γ1 e1 =>
    cases e2 : evE F Ld y Γ1 with
    | none => rw [e2] at he; cases he
    | some p =>
      obtain ⟨r2, Γ2⟩ := p
      rw [e2] at he
      simp only at he
      split at he
      · next d2 h2 =>
        split at he
        · next w h3 =>
          cases he
          exact de_join (H.e C ho e1) (H.e C ha e2) h2 h3 (star1 (trE_ordy ha)) hb hl
        · cases he
      · cases he
  · cases he
end
end Sv

namespace Sv
open PySem PySem.Spec PyProof.Rows L2
section
variable {cx : TCx} {F : Nat → Fn} {Ld : Nat → Bool}
theorem trL_ne {f : Expr → Option E} {a : Expr} {as : List Expr} {irs : List E} (h : trL f (a :: as) = some irs) : ∃ x xs, f a = some x ∧ trL f as = some xs ∧ irs = x :: xs := by
  simp only [trL] at h
  split at h
  · next x xs h1 h2 => cases h; exact ⟨x, xs, h1, h2, rfl⟩
  · cases h
theorem IHE.call {X : Cx} {sc : Scope} {n : Nat} (H : IHE cx F Ld n) (C : Cxt cx F Ld X sc) {f : Str} {args : List Expr} {ir : E} {Γ Γ' : Gm} {r : Rs} {p pos : Pos} (h : mkCall cx sc (trE cx n sc) f args = some ir) (he : evE F Ld ir Γ = some (r, Γ')) : DE X (.Call (.Name f p) args [] pos) Γ r Γ' := by
  unfold mkCall at h
  split at h
  · cases h
  · next hc =>
    simp only [Bool.or_eq_true, not_or, Bool.not_eq_true, Bool.not_eq_true', Bool.not_eq_false] at hc
    obtain ⟨⟨hg, hd⟩, hne⟩ := hc
    cases args with
    | nil => cases hne
    | cons e es =>
      split at h
      · next i hi =>
        rw [Option.map_eq_some_iff] at h
        obtain ⟨irs, h1, rfl⟩ := h
        exact H.own C hg hd hi h1 he
      · next hi =>
        unfold mkBi at h
        split at h
        · next hf =>
          subst hf
          cases es with
          | nil => simp [mkIsi] at h
          | cons t ts =>
            cases ts with
            | cons => simp [mkIsi] at h
            | nil =>
              simp only [mkIsi] at h
              split at h
              · next x tys h1 h2 =>
                cases h
                exact H.isi C hg (C.bf _ (by decide)) h1 h2 he
              · cases h
        · split at h
          · cases h
          · next b hb =>
            obtain ⟨e1, e2, e3⟩ := biOf_name hb
            subst e1
            split at h
            · next as has =>
              split at has
              · next hl =>
                unfold rangeArg at has
                split at has
                · next g pg as' pos' hx =>
                  cases hx
                  split at has
                  · next hr =>
                    cases has
                    rw [Bool.and_eq_true] at hr
                    obtain ⟨rfl, h2, h3⟩ := isRange_of hr.1
                    rw [Option.map_eq_some_iff] at h
                    obtain ⟨irs, h1, rfl⟩ := h
                    rw [hl] at hg ⊢
                    have hfl : ("list" : Str) ∉ cx.fns := C.bf _ (by decide)
                    rcases len12_of hr.2 with ⟨a, rfl⟩ | ⟨a, b', rfl⟩
                    · obtain ⟨x, xs, q1, q2, rfl⟩ := trL_ne h1
                      simp only [trL, Option.some.injEq] at q2
                      subst q2
                      exact H.lrng1 C hg hfl h2 h3 q1 he
                    · obtain ⟨x, xs, q1, q2, rfl⟩ := trL_ne h1
                      obtain ⟨y, ys, q3, q4, rfl⟩ := trL_ne q2
                      simp only [trL, Option.some.injEq] at q4
                      subst q4
                      exact H.lrng2 C hg hfl h2 h3 q1 q3 he
                  · cases has
                · cases has
              · cases has
            · rw [Option.map_eq_some_iff] at h
              obtain ⟨irs, h1, rfl⟩ := h
              exact H.bi C hg e2 (C.bf _ e2) e3 h1 he
theorem attrBase {o : Expr} {m : Str} {env : Env} {n : Nat} {sc : Scope} {x : E} (h : trE cx n sc o = some x) : attributeBase o m env (eval o env) = eval o env := by
  cases o with
  | Call f args kws pos =>
    cases f with
    | Name id p =>
      cases args with
      | nil =>
        cases n with
        | zero => simp [trE] at h
        | succ n =>
          cases kws with
          | nil => simp [trE, mkCall] at h
          | cons => simp [trE] at h
      | cons => rfl
    | _ => rfl
  | _ => rfl
theorem sound_E : ∀ n : Nat, IHE cx F Ld n := by
  intro n
  induction n with
  | zero => exact ⟨fun _ h _ => by simp [trE] at h, fun _ h _ => by simp [trE] at h, fun _ h _ => by simp [trT] at h, fun _ h _ _ => by simp [trTs] at h⟩
  | succ n H =>
    have cmpc : ∀ {X : Cx} {sc : Scope} {a : Expr} {ops : List CmpOp} {cs : List Expr} {pos : Pos} {ir : E} {Γ Γ' : Gm} {r : Rs}, Cxt cx F Ld X sc → trE cx (n + 1) sc (.Compare a ops cs pos) = some ir → evE F Ld ir Γ = some (r, Γ') → DE X (.Compare a ops cs pos) Γ r Γ' ∧ ∀ k, readR r Γ' = some (.bl k) → DT X (.Compare a ops cs pos) Γ k Γ' := by
      intro X sc a ops cs pos ir Γ Γ' r C h he
      cases ops with
      | nil => simp [trE] at h
      | cons op ops =>
        cases cs with
        | nil => cases ops <;> simp [trE] at h
        | cons b cs =>
          cases ops with
          | nil =>
            cases cs with
            | cons => simp [trE] at h
            | nil =>
              simp only [trE] at h
              split at h
              · next x y h1 h2 =>
                cases h
                exact H.cmp C h1 h2 he
              · cases h
          | cons op' ops =>
            cases cs with
            | nil => cases ops <;> simp [trE] at h
            | cons c cs =>
              cases ops with
              | cons => simp [trE] at h
              | nil =>
                cases cs with
                | cons => simp [trE] at h
                | nil =>
                  simp only [trE] at h
                  split at h
                  · next x y z h1 h2 h3 =>
                    cases h
                    exact H.chn C h1 h2 h3 he
                  · cases h
    refine ⟨fun {X sc e ir Γ Γ' r} C h he => ?_, fun C h he => (cmpc C h he).2, fun {X sc e ir Γ Γ' k} C h he => ?_, fun {X sc es irs Γ Γ' k} C h hl he => ?_⟩
    · unfold trE at h
      split at h
      · cases h; simp only [evE] at he; cases he; exact de_c pe_non fun K H => by simp only [Rp]
      · cases h; simp only [evE] at he; cases he; exact de_c pe_bl fun K H => by simp only [Rp]
      · cases h; simp only [evE] at he; cases he; exact de_c pe_int fun K H => by simp only [Rp]
      · split at h
        · next ok => cases h; simp only [evE] at he; cases he; exact de_c pe_str fun K H => by simp only [Rp, true_and]; exact strOkL_ok ok
        · cases h
      · exact C.name h he
      · rw [Option.map_eq_some_iff] at h
        obtain ⟨irs, h1, rfl⟩ := h
        exact (H.disp C h1).1 he
      · rw [Option.map_eq_some_iff] at h
        obtain ⟨irs, h1, rfl⟩ := h
        exact (H.disp (k := 0) C h1).2 he
      · split at h
        · next o x y h1 h2 h3 => cases h; exact H.bin C h1 h2 h3 he
        · cases h
      · rw [Option.map_eq_some_iff] at h
        obtain ⟨x, h1, rfl⟩ := h
        simp only [evE] at he
        split at he
        · cases he
        · next r1 Γ1 e1 =>
          split at he
          · next d1 h2 =>
            split at he
            · next d h3 =>
              cases he
              cases d1 <;> simp only [negD, reduceCtorEq] at h3
              cases h3
              exact de_un un_neg (H.e C h1 e1) h2 fun Hh v Q q k => ⟨_, q.int, k _ Hh (same_refl Hh) (by simp only [Fr, Rp])⟩
            · cases he
          · cases he
      · rw [Option.map_eq_some_iff] at h
        obtain ⟨x, h1, rfl⟩ := h
        simp only [evE] at he
        split at he
        · cases he
        · next r1 Γ1 e1 =>
          split at he
          · next k h2 =>
            cases he
            exact de_not (H.e C h1 e1) h2
          · cases he
      · exact H.an C h he
      · exact H.orr C h he
      · split at h
        · next x y h1 h2 => cases h; exact (H.cmp C h1 h2 he).1
        · cases h
      · split at h
        · next x y z h1 h2 h3 => cases h; exact (H.chn C h1 h2 h3 he).1
        · cases h
      · split at h
        · next x y z h1 h2 h3 => cases h; exact H.ite C h1 h2 h3 he
        · cases h
      · split at h
        · next x y z h1 h2 h3 => cases h; exact H.sl C h1 h2 h3 he
        · cases h
      · split at h
        · next hi =>
          subst hi
          rw [Option.map_eq_some_iff] at h
          obtain ⟨x, h1, rfl⟩ := h
          simp only [evE] at he
          split at he
          · cases he
          · next r1 Γ1 e1 =>
            split at he
            · next d1 h2 =>
              split at he
              · next r' h3 =>
                cases he
                cases d1 <;> simp only [revD, reduceCtorEq] at h3
                · cases h3; exact de_revT (H.e C h1 e1) h2
                · cases h3; exact de_revL (H.e C h1 e1) h2
              · cases he
            · cases he
        · cases h
      · split at h
        · next x y h1 h2 => cases h; exact H.ix C h1 h2 he
        · cases h
      · exact H.call C h he
      · split at h
        · next hl =>
          unfold mkMeth at h
          split at h
          · next x y h1 h2 =>
            split at h
            · next hm =>
              subst hm
              cases h
              exact H.app C h1 h2 hl he (attrBase h1)
            · split at h
              · next hm =>
                subst hm
                cases h
                exact H.jn C h1 h2 hl he (attrBase h1)
              · cases h
          · cases h
        · cases h
      · split at h
        · next hk =>
          obtain ⟨rfl, hk⟩ := hk
          split at h
          · next i t cs x h1 h2 h3 h4 =>
            unfold mkComp at h
            split at h
            · next hs =>
              cases h
              rw [Bool.and_eq_true, decide_eq_true_eq] at hs
              obtain ⟨ds, Γ1, Γe, out, rfl, rfl, q1, q2, q3, q4, q5, q6, q7, q8, q9⟩ := H.comp C hk h1 h2 h3 h4 hs.1 hs.2 he (fun e => H.iter C h1 e) (mkI_ordy h1)
              exact de_lc C.calm (by rw [C.N]; exact C.nd) q1 q2 q3 q4 q5 q6 q7 q8 q9
            · cases h
          · cases h
        · cases h
      · cases h
    · exact H.test C h he
    · cases es with
      | nil =>
        simp only [trTs, Option.some.injEq] at h
        subst h
        simp only [evCs, Option.some.injEq, Prod.mk.injEq] at he
        obtain ⟨rfl, rfl⟩ := he
        exact ⟨fun pins s σ Hh Q I q => pts_nil.run pins s σ Hh Q I (q.2 Hh (Ste.refl q.1))⟩
      | cons e es =>
        simp only [trTs] at h
        split at h
        · next x xs h1 h2 =>
          cases h
          have hx : xs = [] := List.eq_nil_of_length_eq_zero (by rw [List.length_cons] at hl; omega)
          subst hx
          cases es with
          | cons e2 es2 =>
            cases n with
            | zero => simp [trTs] at h2
            | succ n =>
              simp only [trTs] at h2
              split at h2 <;> cases h2
          | nil =>
            simp only [evCs] at he
            split at he
            · cases he
            · next Γ1 e1 => cases he; exact pts_one (H.t C h1 e1)
            · next Γ1 e1 => cases he; exact pts_one (H.t C h1 e1)
        · cases h
end
end Sv

namespace Sv
open PySem PySem.Spec PyProof.Rows L2
/-! several names at once -/
section
variable {X : Cx} {pins : List (Addr × Obj)} {s : Shared} {K : PySem.W.Frag} {Γ Γ' Γ0 Γ1 Γ2 : Gm} {σ σ' σ0 : L2.St} {H H' H0 : Hp}
theorem settle_new : ∀ {rs rs' : List Rs} {Γ Γ' : Gm}, settleRs rs Γ = some (rs', Γ') → rs'.map isNew = rs.map isNew ∧ ∀ r ∈ rs', notSlot r = true
  | [], rs', Γ, Γ', h => by
    simp only [settleRs, Option.some.injEq, Prod.mk.injEq] at h
    obtain ⟨rfl, rfl⟩ := h
    exact ⟨rfl, fun _ h => by simp at h⟩
  | r :: rs, rs', Γ, Γ', h => by
    simp only [settleRs] at h
    cases h1 : settleR r Γ with
    | none => rw [h1] at h; cases h
    | some q =>
      obtain ⟨r1, Γ1⟩ := q
      rw [h1] at h
      simp only at h
      cases h2 : settleRs rs Γ1 with
      | none => rw [h2] at h; cases h
      | some q =>
        obtain ⟨rs1, Γ2⟩ := q
        rw [h2] at h
        cases h
        obtain ⟨a, b⟩ := settle_new h2
        have : isNew r1 = isNew r ∧ notSlot r1 = true := by
          cases r with
          | val d => simp only [settleR] at h1; cases h1; exact ⟨rfl, rfl⟩
          | new d => simp only [settleR] at h1; cases h1; exact ⟨rfl, rfl⟩
          | slot i =>
            simp only [settleR] at h1
            split at h1
            · cases h1; exact ⟨rfl, rfl⟩
            · cases h1
        refine ⟨by rw [List.map_cons, List.map_cons, a, this.1], fun x hx => ?_⟩
        rcases List.mem_cons.1 hx with rfl | hx
        · exact this.2
        · exact b x hx
theorem zip_new {α : Type} {f : α → Bool} : ∀ {as bs : List α} {vs : List V}, as.map f = bs.map f → ∀ p ∈ as.zip vs, f p.1 = true → ∃ b, (b, p.2) ∈ bs.zip vs ∧ f b = true
  | [], _, _, _, p, hp, _ => by simp at hp
  | a :: as, [], _, h, _, _, _ => by simp at h
  | a :: as, b :: bs, [], _, p, hp, _ => by simp at hp
  | a :: as, b :: bs, v :: vs, h, p, hp, hf => by
    rw [List.map_cons, List.map_cons] at h
    injection h with h1 h2
    rw [List.zip_cons_cons, List.mem_cons] at hp
    rcases hp with rfl | hp
    · exact ⟨b, by rw [List.zip_cons_cons]; exact List.mem_cons_self, by rw [← h1]; exact hf⟩
    · obtain ⟨c, hc, hf'⟩ := zip_new h2 p hp hf
      exact ⟨c, by rw [List.zip_cons_cons]; exact List.mem_cons_of_mem _ hc, hf'⟩
theorem settles_ok : ∀ {rs rs' : List Rs} {vs : List V} {Γ Γ' : Gm} {H : Hp}, Inv X pins σ H s → EnvOk K Γ σ H → Pds K Γ σ H rs vs → settleRs rs Γ = some (rs', Γ') → ∃ H', Inv X pins σ H' s ∧ Ste K Γ σ H Γ' σ H' ∧ Pds K Γ' σ H' rs' vs
  | [], rs', vs, Γ, Γ', H, I, e, p, h => by
    simp only [settleRs, Option.some.injEq, Prod.mk.injEq] at h
    obtain ⟨rfl, rfl⟩ := h
    exact ⟨H, I, Ste.refl e, p⟩
  | r :: rs, rs', vs, Γ, Γ', H, I, e, p, h => by
    obtain ⟨v, ws, rfl, p1, p2, p3⟩ := p
    simp only [settleRs] at h
    cases h1 : settleR r Γ with
    | none => rw [h1] at h; cases h
    | some q =>
      obtain ⟨r1, Γ1⟩ := q
      rw [h1] at h
      simp only at h
      cases h2 : settleRs rs Γ1 with
      | none => rw [h2] at h; cases h
      | some q =>
        obtain ⟨rs1, Γ2⟩ := q
        rw [h2] at h
        cases h
        have nn := (settle_new h2).1
        cases r with
        | val d =>
          simp only [settleR] at h1
          cases h1
          obtain ⟨H2, I2, S2, P2⟩ := settles_ok I e p2 h2
          exact ⟨H2, I2, S2, v, ws, rfl, p1.ste S2, P2, fun z => by cases z⟩
        | new d =>
          simp only [settleR] at h1
          cases h1
          obtain ⟨H2, I2, S2, P2⟩ := settles_ok I e p2 h2
          refine ⟨H2, I2, S2, v, ws, rfl, p1.ste S2, P2, fun z p hp np => ?_⟩
          obtain ⟨b, hb, nb⟩ := zip_new nn p hp np
          exact p3 rfl (b, p.2) hb nb
        | slot i =>
          simp only [settleR] at h1
          split at h1
          · next d Γ3 ht =>
            cases h1
            obtain ⟨H1, I1, S1, rp, ps1, _⟩ := take_ok I (Ste.refl e) p1 trivial p2 p3 ht
            obtain ⟨H2, I2, S2, P2⟩ := settles_ok I1 S1.env ps1 h2
            exact ⟨H2, I2, S1.trans S2, v, ws, rfl, Rp.per S2.per _ _ rp, P2, fun z => by cases z⟩
          · cases h1
theorem da_settle {es : List Expr} {rs rs' : List Rs} (h : DA X es Γ rs Γ1) (hs : settleRs rs Γ1 = some (rs', Γ2)) : DA X es Γ rs' Γ2 := by
  refine ⟨fun pos pins s σ H Q I q => ?_⟩
  refine thn (h.run pos pins s σ H (fun vs H1 => Ste X.K Γ σ H Γ1 σ H1 ∧ Pds X.K Γ1 σ H1 rs vs ∧ Origs Γ σ H rs vs) I ⟨q.1, fun vs H1 a b c => ⟨a, b, c⟩⟩) fun us s' hh => ?_
  obtain ⟨vs, H1, I1, rv, A, p, og⟩ := hh
  obtain ⟨H2, I2, B, P2⟩ := settles_ok I1 A.env p hs
  refine ⟨vs, H2, I2, rv, q.2 vs H2 (A.trans B) P2 fun p hp => ?_⟩
  cases hr : p.1 with
  | val d => trivial
  | slot i => trivial
  | new d =>
    obtain ⟨b, hb, nb⟩ := zip_new (settle_new hs).1 p hp (by rw [hr]; rfl)
    have := og _ hb
    cases b with
    | val d => cases nb
    | slot i => cases nb
    | new d' => exact this
theorem de_settle {e : Expr} {r r' : Rs} (h : DE X e Γ r Γ1) (hs : settleR r Γ1 = some (r', Γ2)) : DE X e Γ r' Γ2 := by
  cases r with
  | val d => simp only [settleR] at hs; cases hs; exact h
  | new d => simp only [settleR] at hs; cases hs; exact h
  | slot i =>
    simp only [settleR] at hs
    split at hs
    · next d Γ3 ht => cases hs; exact de_take h ht
    · cases hs
def setAll (σ : L2.St) : List Nat → List V → L2.St
  | i :: is, v :: vs => setAll (σ.set i (some v)) is vs
  | _, _ => σ
theorem setAll_length : ∀ {is : List Nat} {vs : List V} {σ : L2.St}, (setAll σ is vs).length = σ.length
  | [], _, _ => rfl
  | _ :: _, [], _ => rfl
  | i :: is, v :: vs, σ => by rw [setAll, setAll_length, List.length_set]
theorem binds_ok : ∀ {is : List Nat} {rs : List Rs} {vs : List V} {Γ Γ' : Gm} {σ : L2.St}, Ste K Γ0 σ0 H0 Γ σ H → Pds K Γ σ H rs vs → (∀ r ∈ rs, notSlot r = true) → Origs Γ0 σ0 H0 rs vs → bindRs is rs Γ = some Γ' → Ste K Γ0 σ0 H0 Γ' (setAll σ is vs) H
  | [], [], vs, Γ, Γ', σ, A, p, n, og, h => by
    simp only [bindRs, Option.some.injEq] at h
    subst h
    cases p
    exact A
  | [], _ :: _, _, _, _, _, _, _, _, _, h => by simp [bindRs] at h
  | _ :: _, [], _, _, _, _, _, _, _, _, h => by simp [bindRs] at h
  | i :: is, r :: rs, vs, Γ, Γ', σ, A, p, n, og, h => by
    obtain ⟨v, ws, rfl, p1, p2, p3⟩ := p
    simp only [bindRs] at h
    cases h1 : bindR i r Γ with
    | none => rw [h1] at h; cases h
    | some Γ1 =>
      rw [h1] at h
      simp only at h
      have B := A.bind A.env.len h1 p1 (og _ (by rw [List.zip_cons_cons]; exact List.mem_cons_self))
      rw [setAll]
      refine binds_ok B ?_ (fun x hx => n x (List.mem_cons_of_mem _ hx)) (fun p hp => og p (by rw [List.zip_cons_cons]; exact List.mem_cons_of_mem _ hp)) h
      -- the others wait on
      have key : ∀ {rs : List Rs} {ws : List V}, Pds K Γ σ H rs ws → (∀ r ∈ rs, notSlot r = true) → (isNew r = true → ∀ p ∈ rs.zip ws, isNew p.1 = true → p.2 ≠ v) → Pds K Γ1 (σ.set i (some v)) H rs ws := by
        intro rs
        induction rs with
        | nil => intro ws q _ _; exact q
        | cons r2 rs ih =>
          intro ws q nq dq
          obtain ⟨v2, ws2, rfl, q1, q2, q3⟩ := q
          refine ⟨v2, ws2, rfl, ?_, ih q2 (fun x hx => nq x (List.mem_cons_of_mem _ hx)) (fun z p hp => dq z p (by rw [List.zip_cons_cons]; exact List.mem_cons_of_mem _ hp)), q3⟩
          cases r2 with
          | val d => exact q1
          | slot j => have := nq _ List.mem_cons_self; cases this
          | new d =>
            obtain ⟨b, rfl, c, nb⟩ := q1
            refine ⟨b, rfl, c, fun cc => ?_⟩
            obtain ⟨hm, s1, hs1, rfl⟩ := bindR_some h1
            obtain ⟨lt, nio⟩ := mayBind_lt hm
            obtain ⟨j, e, hj, hb⟩ := cc
            by_cases z : j = i
            · subst z
              rw [set_lt (by rw [A.env.len]; exact lt)] at hb
              cases hb
              cases r with
              | val d => cases hs1; rcases hj with hj | hj <;> (rw [set_lt lt] at hj; cases hj)
              | slot k => cases hs1
              | new d2 => exact dq rfl (.new d, .ref b) (by rw [List.zip_cons_cons]; exact List.mem_cons_self) rfl rfl
            · rw [get_set_ne (Ne.symm z)] at hb
              exact nb ⟨j, e, (own_set_ne (Ne.symm z)).1 hj, hb⟩
      exact key p2 (fun x hx => n x (List.mem_cons_of_mem _ hx)) p3
theorem Pds.same {Hn : Hp} (e : EnvOk K Γ σ H) (sm : Same H Hn) {rs : List Rs} {vs : List V} (h : Pds K Γ σ H rs vs) : Pds K Γ σ Hn rs vs := Pds.ste (Ste.same e sm) rs vs h
end
section
variable {cx : TCx} {F : Nat → Fn} {Ld : Nat → Bool} {X : Cx} {sc : Scope}
def gNms (is : List Nat) : TGs := fun vs σ H Q => vs.length = is.length ∧ Q (setAll σ is vs) H
theorem trPar_ok (C : Cxt cx F Ld X sc) : ∀ {ts : List Expr} {is : List Nat}, trPar cx sc ts = some is → PGs X ts (gNms is) ∧ (assignEach ts X.env).length = is.length ∧ (assignEach ts X.env).findIdx? (·.1) = none
  | [], is, h => by
    simp only [trPar, Option.some.injEq] at h
    subst h
    exact ⟨pgs_sub' pgs_nil fun vs σ H Q q => ⟨List.eq_nil_of_length_eq_zero q.1, q.2⟩, rfl, rfl⟩
  | e :: ts, is, h => by
    cases e <;> simp only [trPar, reduceCtorEq] at h
    next x p =>
    split at h
    · next hl =>
      split at h
      · next i is' h1 h2 =>
        cases h
        obtain ⟨a1, a2, a3⟩ := trPar_ok C h2
        obtain ⟨l1, l2⟩ := C.loc hl
        refine ⟨pgs_sub' (pgs_cons (pg_name (by rw [C.N]; exact C.nd) (by rw [C.N]; exact ixOf_get h1) l1 l2) a1 rfl) fun vs σ H Q q => ?_, ?_, ?_⟩
        · cases vs with
          | nil => exact absurd q.1 (by simp)
          | cons v vs => exact ⟨v, vs, rfl, by have := q.1; simpa using this, q.2⟩
        · show ((false, _) :: assignEach ts X.env).length = _
          rw [List.length_cons, List.length_cons, a2]
        · show List.findIdx? _ ((false, _) :: assignEach ts X.env) = none
          rw [List.findIdx?_cons, a3]
          rfl
      · cases h
    · cases h
/-- a, b = x, y by a tuple -/
theorem ds_parT {ts es : List Expr} {is : List Nat} {rs : List Rs} {Γ Γ1 Γ2 : Gm} {k k2 : Nat} {p p2 pos : Pos} (C : Cxt cx F Ld X sc) (ht : trPar cx sc ts = some is) (ha : DA X es Γ rs Γ1) (hn : ∀ r ∈ rs, notSlot r = true) (hl : rs.length = is.length) (hz : is.length ≤ lim) (hb : bindRs is rs Γ1 = some Γ2)
    (hw : swappedStores [.Tuple ts k p] (.Tuple es k2 p2) X.env = pure none) : DS X (.Assign [.Tuple ts k p] (.Tuple es k2 p2) pos) Γ .nx Γ2 := by
  obtain ⟨a1, a2, a3⟩ := trPar_ok C ht
  refine ps_sub (ps_asg (pe_tup ha) (pg_tup C.calm a1 a2 a3) rfl hw rfl) fun D σ H q => ⟨q.1, fun vs H1 s1 p1 o1 => ?_⟩
  have lv : vs.length = is.length := by rw [Pds.length rs vs p1, hl]
  refine ⟨by rw [lv]; exact lim_size hz, fun t ht => ⟨t, vs, rfl, SqT.of upd_same, lv, lv, ?_⟩⟩
  have s2 := Ste.same s1.env (same_new (o := .tup vs) ht)
  exact q.2.2 _ _ (binds_ok (s1.trans s2) (Pds.ste s2 rs vs p1) hn o1 hb)
end
end Sv

namespace Sv
open PySem PySem.Spec PyProof.Rows L2
theorem parWay_cases {sc : Scope} {ts es : List Expr} {b : Bool} (h : parWay sc ts es = some b) : es.length = ts.length ∧
    ((b = false ∧ ((ts.length == 2 || ts.length == 3) = false ∨ ((parNames sc ts).length != ts.length || (parNames sc ts).eraseDups.length != (parNames sc ts).length) = true ∨ es.all (foldedForSure 8) = true)) ∨
     (b = true ∧ (ts.length == 2 || ts.length == 3) = true ∧ ((parNames sc ts).length != ts.length || (parNames sc ts).eraseDups.length != (parNames sc ts).length) = false ∧ es.all (foldedForSure 8) = false ∧ es.all (constantsAlone 8) = false)) := by
  unfold parWay at h
  split at h
  · cases h
  · next h0 =>
    refine ⟨by simpa using h0, ?_⟩
    split at h
    · next h1 => cases h; exact .inl ⟨rfl, .inl (by simpa using h1)⟩
    · next h1 =>
      split at h
      · next h2 => cases h; exact .inl ⟨rfl, .inr (.inl h2)⟩
      · next h2 =>
        split at h
        · next h3 => cases h; exact .inl ⟨rfl, .inr (.inr h3)⟩
        · next h3 =>
          split at h
          · cases h
          · next h4 =>
            cases h
            exact .inr ⟨rfl, by
              cases hx : (ts.length == 2 || ts.length == 3) with
              | true => rfl
              | false => rw [hx] at h1; exact absurd rfl h1, Bool.eq_false_iff.2 h2, Bool.eq_false_iff.2 h3, Bool.eq_false_iff.2 h4⟩
theorem noStar {es : List Expr} (od : ∀ e ∈ es, ordy e = true) {f : Expr → Bool} (hf : ∀ e, ordy e = true → f e = false) : es.any f = false := by
  rw [List.any_eq_false]
  intro e he
  rw [hf e (od e he)]
  decide
theorem way_false {env : Env} {ts es : List Expr} {k k2 : Nat} {p p2 : Pos} (od : ∀ e ∈ es, ordy e = true) (hk : env.scope.kind = .function) (h : parWay env.scope ts es = some false) : swappedStores [.Tuple ts k p] (.Tuple es k2 p2) env = pure none := by
  obtain ⟨h2, h3⟩ := parWay_cases h
  rcases h3 with ⟨_, h3⟩ | ⟨h3, _⟩
  · unfold swappedStores
    simp only
    rcases h3 with h3 | h3 | h3
    · rw [if_pos (by rw [h3]; rfl)]
    · by_cases c : (!(ts.length == 2 || ts.length == 3) || es.length != ts.length || env.blockKind != .function) = true
      · rw [if_pos c]
      · rw [if_neg c, if_neg (by rw [noStar od (fun e he => by cases e <;> first | rfl | cases he)]; decide)]
        show (if ((parNames env.scope ts).length != ts.length || (parNames env.scope ts).eraseDups.length != (parNames env.scope ts).length) = true then pure none else _) = pure none
        rw [if_pos h3]
    · by_cases c : (!(ts.length == 2 || ts.length == 3) || es.length != ts.length || env.blockKind != .function) = true
      · rw [if_pos c]
      · rw [if_neg c, if_neg (by rw [noStar od (fun e he => by cases e <;> first | rfl | cases he)]; decide)]
        show (if ((parNames env.scope ts).length != ts.length || (parNames env.scope ts).eraseDups.length != (parNames env.scope ts).length) = true then pure none else _) = pure none
        by_cases c2 : ((parNames env.scope ts).length != ts.length || (parNames env.scope ts).eraseDups.length != (parNames env.scope ts).length) = true
        · rw [if_pos c2]
        · rw [if_neg c2, if_pos h3]
  · cases h3
theorem way_true {env : Env} {ts es : List Expr} {k k2 : Nat} {p p2 : Pos} (od : ∀ e ∈ es, ordy e = true) (hk : env.scope.kind = .function) (h : parWay env.scope ts es = some true) : swappedStores [.Tuple ts k p] (.Tuple es k2 p2) env = pure (some (parNames env.scope ts)) ∧ (ts.length = 2 ∨ ts.length = 3) ∧ (parNames env.scope ts).length = ts.length := by
  obtain ⟨h2, h3⟩ := parWay_cases h
  rcases h3 with ⟨h3, _⟩ | ⟨_, h3, h4, h5, h6⟩
  · cases h3
  · have hb : env.blockKind = .function := by
      unfold Env.blockKind
      rw [hk]
      rfl
    refine ⟨?_, by simpa using h3, ?_⟩
    · unfold swappedStores
      simp only
      rw [if_neg (by rw [h3, hb, h2]; simp), if_neg (by rw [noStar od (fun e he => by cases e <;> first | rfl | cases he)]; decide)]
      show (if ((parNames env.scope ts).length != ts.length || (parNames env.scope ts).eraseDups.length != (parNames env.scope ts).length) = true then pure none else _) = pure _
      rw [if_neg (by rw [h4]; decide), if_neg (by rw [h5]; decide), if_neg (by rw [h6]; decide)]
      rfl
    · rw [Bool.or_eq_false_iff] at h4
      simpa using h4.1
section
variable {cx : TCx} {F : Nat → Fn} {Ld : Nat → Bool} {X : Cx} {sc : Scope}
theorem parNames_local {sc : Scope} {l : Nat} : ∀ {ts : List Expr}, (ts.filterMap (pnm sc l)).length = ts.length → ts.filterMap (pnm sc l) = ts.filterMap nameOf ∧ ∀ e ∈ ts, ∃ x p, e = .Name x p ∧ sc.names.lookup x = some .local
  | [], _ => ⟨rfl, fun e he => by simp at he⟩
  | t :: ts, h => by
    have le : (ts.filterMap (pnm sc l)).length ≤ ts.length := List.length_filterMap_le _ _
    rw [List.filterMap_cons] at h
    cases hb : pnm sc l t with
    | none => rw [hb, List.length_cons] at h; simp only at h; omega
    | some b =>
      rw [hb] at h
      simp only [List.length_cons] at h
      have hh : (ts.filterMap (pnm sc l)).length = ts.length := by omega
      obtain ⟨i1, i2⟩ := parNames_local hh
      cases t <;> simp only [pnm, reduceCtorEq] at hb
      next x p =>
      split at hb
      · next hc =>
        rw [Bool.and_eq_true] at hc
        refine ⟨by rw [List.filterMap_cons, List.filterMap_cons, i1]; simp only [pnm, nameOf]; rw [if_pos (by rw [Bool.and_eq_true]; exact hc)], fun e he => ?_⟩
        rcases List.mem_cons.1 he with rfl | he
        · exact ⟨x, p, rfl, by simpa using hc.1⟩
        · exact i2 e he
      · cases hb
theorem ds_parS {ts es : List Expr} {is : List Nat} {rs : List Rs} {Γ Γ1 Γ2 : Gm} {k k2 : Nat} {p p2 pos : Pos} (C : Cxt cx F Ld X sc) (hsc : X.env.scope = sc) (hk : sc.kind = .function) (ht : trPar cx sc ts = some is) (hnd : is.Nodup) (ha : DA X es Γ rs Γ1) (hn : ∀ r ∈ rs, notSlot r = true) (hl : rs.length = is.length) (hle : es.length = ts.length) (hb : bindRs is rs Γ1 = some Γ2)
    (od : ∀ e ∈ es, ordy e = true) (hw : parWay sc ts es = some true) : DS X (.Assign [.Tuple ts k p] (.Tuple es k2 p2) pos) Γ .nx Γ2 := by
  subst hsc
  obtain ⟨w1, w2, w3⟩ := way_true (k := k) (k2 := k2) (p := p) (p2 := p2) od hk hw
  have w1' : swappedStores [.Tuple ts k p] (.Tuple es k2 p2) X.env = pure (some (parNames X.env.scope ts)) := w1
  obtain ⟨nms, loc⟩ := parNames_local w3
  have nms' : parNames X.env.scope ts = ts.filterMap nameOf := nms
  rw [nms'] at w1'
  have hN : X.N.Nodup := by rw [C.N]; exact C.nd
  rcases w2 with w2 | w2
  · obtain ⟨t1, t2, rfl⟩ : ∃ a b, ts = [a, b] := by
      match ts, w2 with
      | [a, b], _ => exact ⟨a, b, rfl⟩
    obtain ⟨e1, e2, rfl⟩ : ∃ a b, es = [a, b] := by
      match es, hle with
      | [a, b], _ => exact ⟨a, b, rfl⟩
    obtain ⟨x, px, rfl, hx⟩ := loc t1 (by simp)
    obtain ⟨y, py, rfl, hy⟩ := loc t2 (by simp)
    have w4 : [Expr.Name x px, .Name y py].filterMap nameOf = [x, y] := rfl
    rw [w4] at w1'
    simp only [trPar] at ht
    split at ht
    · split at ht
      · next i is' h1 h2 =>
        cases ht
        split at h2
        · split at h2
          · next j js h3 h4 =>
            cases h2
            cases h4
            refine ps_sub (ps_par C.calm hN (by rw [C.N]; exact ixOf_get h1) (by rw [C.N]; exact ixOf_get h3) (by intro z; subst z; simp at hnd) hx hy ha w1' rfl) fun D σ H q => ⟨q.1, fun vs H1 s1 p1 o1 => ?_⟩
            have lv : vs.length = 2 := by rw [Pds.length rs vs p1, hl]; rfl
            obtain ⟨v, w, rfl⟩ : ∃ a b, vs = [a, b] := by
              match vs, lv with
              | [a, b], _ => exact ⟨a, b, rfl⟩
            exact ⟨v, w, rfl, q.2.2 _ H1 (binds_ok s1 p1 hn o1 hb)⟩
          · cases h2
        · cases h2
      · cases ht
    · cases ht
  · obtain ⟨t1, t2, t3, rfl⟩ : ∃ a b c, ts = [a, b, c] := by
      match ts, w2 with
      | [a, b, c], _ => exact ⟨a, b, c, rfl⟩
    obtain ⟨e1, e2, e3, rfl⟩ : ∃ a b c, es = [a, b, c] := by
      match es, hle with
      | [a, b, c], _ => exact ⟨a, b, c, rfl⟩
    obtain ⟨x, px, rfl, hx⟩ := loc t1 (by simp)
    obtain ⟨y, py, rfl, hy⟩ := loc t2 (by simp)
    obtain ⟨z, pz, rfl, hz⟩ := loc t3 (by simp)
    have w4 : [Expr.Name x px, .Name y py, .Name z pz].filterMap nameOf = [x, y, z] := rfl
    rw [w4] at w1'
    simp only [trPar] at ht
    split at ht
    · split at ht
      · next i is' h1 h2 =>
        cases ht
        split at h2
        · split at h2
          · next j js h3 h4 =>
            cases h2
            split at h4
            · split at h4
              · next l ls h5 h6 =>
                cases h4
                cases h6
                refine ps_sub (ps_par3 C.calm hN (by rw [C.N]; exact ixOf_get h1) (by rw [C.N]; exact ixOf_get h3) (by rw [C.N]; exact ixOf_get h5) (by intro z; subst z; simp at hnd) (by intro z; subst z; simp at hnd) (by intro z; subst z; simp at hnd) hx hy hz ha w1' rfl) fun D σ H q => ⟨q.1, fun vs H1 s1 p1 o1 => ?_⟩
                have lv : vs.length = 3 := by rw [Pds.length rs vs p1, hl]; rfl
                obtain ⟨v, w, u, rfl⟩ : ∃ a b c, vs = [a, b, c] := by
                  match vs, lv with
                  | [a, b, c], _ => exact ⟨a, b, c, rfl⟩
                exact ⟨v, w, u, rfl, q.2.2 _ H1 (binds_ok s1 p1 hn o1 hb)⟩
              · cases h4
            · cases h4
          · cases h2
        · cases h2
      · cases ht
    · cases ht
end
end Sv

namespace Sv
open PySem PySem.Spec PyProof.Rows L2
section
variable {cx : TCx} {F : Nat → Fn} {Ld : Nat → Bool} {W : Nat} {X : Cx} {sc : Scope}
theorem swaps_other {e : Expr} {n : Nat} {y : E} {t : Option Expr} {l : Nat} {env : Env} (h : trE cx n sc e = some y) (hc : ∀ elt gs csc pos, e ≠ .ListComp elt gs csc pos) : swapsWith e t l env = pure false := by
  cases e <;> first
    | rfl
    | exact absurd rfl (hc _ _ _ _)
    | (cases n <;> simp [trE] at h)
theorem swaps_lc {elt : Expr} {gs : List Comprehension} {csc : Scope} {pos px : Pos} {x : Str} {l : Nat} {env : Env} : swapsWith (.ListComp elt gs csc pos) (some (.Name x px)) l env = pure (env.blockKind == .function && env.kindOf x == some .local && px.line == pos.line && !(csc.names.any fun (n, k) => n == x && (k == .local || k == .cell))) := rfl
theorem set_sound (C : Cxt cx F Ld X sc) {n : Nat} {x : Str} {px pos : Pos} {e : Expr} {i : Nat} {y : E} {Γ Γ1 Γ2 Γ3 : Gm} {r r' : Rs} (hl : locl sc x = true) (hi : ixOf cx x = some i) (ht : trE cx n sc e = some y) (he : evE F Ld y Γ = some (r, Γ1)) (hs : settleR r Γ1 = some (r', Γ2)) (hb : bindR i r' Γ2 = some Γ3) :
    DS X (.Assign [.Name x px] e pos) Γ .nx Γ3 := by
  obtain ⟨l1, l2⟩ := C.loc hl
  have hN : X.N.Nodup := by rw [C.N]; exact C.nd
  have hix : X.N[i]? = some x := by rw [C.N]; exact ixOf_get hi
  have H := sound_E (cx := cx) (F := F) (Ld := Ld) n
  have dflt : swapsWith e (some (.Name x px)) pos.line X.env = pure false → DS X (.Assign [.Name x px] e pos) Γ .nx Γ3 := fun hsw => ds_set hN hix l1 (de_settle (H.e C ht he) hs) hb hsw l2
  by_cases hc : ∃ elt gs csc pos, e = .ListComp elt gs csc pos
  · obtain ⟨elt, gs, csc, cpos, rfl⟩ := hc
    cases hb1 : (X.env.blockKind == .function && X.env.kindOf x == some .local && px.line == cpos.line && !(csc.names.any fun (n, k) => n == x && (k == .local || k == .cell))) with
    | false => exact dflt (by rw [swaps_lc, hb1])
    | true =>
      have hloc : X.env.scope.names.lookup x = some .local := by
        simp only [Bool.and_eq_true, beq_iff_eq] at hb1
        exact hb1.1.1.2
      have hsw : swapsWith (.ListComp elt gs csc cpos) (some (.Name x px)) pos.line X.env = pure true := by rw [swaps_lc, hb1]
      cases n with
      | zero => simp [trE] at ht
      | succ n =>
        have H' := sound_E (cx := cx) (F := F) (Ld := Ld) n
        cases gs with
        | nil => simp [trE] at ht
        | cons g gs =>
          cases gs with
          | cons => simp [trE] at ht
          | nil =>
            obtain ⟨tg, it, ifs, a⟩ := g
            simp only [trE] at ht
            split at ht
            · next hk =>
              obtain ⟨rfl, hk⟩ := hk
              split at ht
              · next i0 t cs x0 h1 h2 h3 h4 =>
                unfold mkComp at ht
                split at ht
                · next hsl =>
                  cases ht
                  rw [Bool.and_eq_true, decide_eq_true_eq] at hsl
                  obtain ⟨ds, Γ4, Γe, out, rfl, rfl, q1, q2, q3, q4, q5, q6, q7, q8, q9⟩ := H'.comp C hk h1 h2 h3 h4 hsl.1 hsl.2 he (fun e => H'.iter C h1 e) (mkI_ordy h1)
                  simp only [settleR] at hs
                  cases hs
                  exact ds_lc C.calm hN hix hloc hsw q1 q2 q3 q4 q5 q6 q7 q8 q9 hb
                · cases ht
              · cases ht
            · cases ht
  · exact dflt (swaps_other ht fun elt gs csc pos h => hc ⟨elt, gs, csc, pos, h⟩)
theorem sound_S (C : Cxt cx F Ld X sc) (hsc : X.env.scope = sc) (hk : sc.kind = .function) (hp : PassesOwn (model X.prog X.w) X.A X.env X.xe) : ∀ n : Nat,
    (∀ st ir Γ fl Γ', trS cx n sc st = some ir → evS F Ld W ir Γ = some (fl, Γ') → DS X st Γ fl Γ') ∧ ∀ sts irs Γ fl Γ', trSs cx n sc sts = some irs → evSs F Ld W irs Γ = some (fl, Γ') → DSs X sts Γ fl Γ' := by
  intro n
  induction n with
  | zero => exact ⟨fun _ _ _ _ _ h => by simp [trS] at h, fun _ _ _ _ _ h => by simp [trSs] at h⟩
  | succ n ih =>
    have H := sound_E (cx := cx) (F := F) (Ld := Ld) n
    have hN : X.N.Nodup := by rw [C.N]; exact C.nd
    refine ⟨fun st ir Γ fl Γ' h he => ?_, fun sts irs Γ fl Γ' h he => ?_⟩
    · unfold trS at h
      split at h
      · -- x = e
        split at h
        · next hl =>
          split at h
          · next i y h1 h2 =>
            cases h
            simp only [evS] at he
            split at he
            · cases he
            · next r Γ1 e1 =>
              split at he
              · cases he
              · next r' Γ2 e2 =>
                split at he
                · cases he
                · next Γ3 e3 =>
                  cases he
                  exact set_sound C hl h1 h2 e1 e2 e3
          · cases h
        · cases h
      · -- a, b = x, y
        next ts k p es k2 p2 pos =>
        split at h
        · next b is ys h1 h2 h3 =>
          split at h
          · next hnd =>
            rw [Bool.and_eq_true, Bool.and_eq_true, decide_eq_true_eq, decide_eq_true_eq, decide_eq_true_eq] at hnd
            cases h
            simp only [evS] at he
            split at he
            · cases he
            · next rs Γ1 e1 =>
              split at he
              · cases he
              · next rs' Γ2 e2 =>
                split at he
                · cases he
                · next Γ3 e3 =>
                  cases he
                  have od := trL_ordy (fun e ir h => trE_ordy h) h3
                  have A := da_settle (H.l C h3 e1) e2
                  obtain ⟨n1, n2⟩ := settle_new e2
                  have len : rs'.length = is.length := by
                    have := congrArg List.length n1
                    rw [List.length_map, List.length_map] at this
                    rw [this, evEs_len e1, hnd.1.2]
                  have les : es.length = ts.length := (parWay_cases h1).1
                  cases b with
                  | true => exact ds_parS C hsc hk h2 hnd.1.1 A n2 len les e3 od h1
                  | false =>
                    refine ds_parT C h2 A n2 len ?_ e3 (way_false od (by rw [hsc]; exact hk) (by rw [hsc]; exact h1))
                    exact Nat.le_trans hnd.2 (by decide)
          · cases h
        · cases h
      · -- a, b = e
        next ts k p e pos hne =>
        split at h
        · next t y h1 h2 =>
          cases h
          simp only [evS] at he
          split at he
          · cases he
          · next r Γ1 e1 =>
            split at he
            · cases he
            · next d Γ2 e2 =>
              split at he
              · cases he
              · next Γ3 e3 =>
                cases he
                have hw : swappedStores [.Tuple ts k p] e X.env = pure none := by
                  cases e <;> first | rfl | exact absurd rfl (hne _ _ _)
                refine ds_asg (de_take (H.e C h2 e1) e2) ((sound_G C n).1 _ t d Γ2 _ h1 e3) ?_ hw rfl
                by_cases hc : ∃ elt gs csc pos, e = .ListComp elt gs csc pos
                · obtain ⟨elt, gs, csc, cpos, rfl⟩ := hc
                  rfl
                · unfold swapsWithSole
                  exact swaps_other h2 fun elt gs csc pos h => hc ⟨elt, gs, csc, pos, h⟩
        · cases h
      · -- x[i] = e
        next o ix p2 e pos =>
        split at h
        · next x y z h1 h2 h3 =>
          cases h
          simp only [evS] at he
          split at he
          · cases he
          · next r Γ1 e1 =>
            split at he
            · cases he
            · next d Γ2 e2 =>
              split at he
              · next i Γ3 e3 =>
                split at he
                · cases he
                · next r2 Γ4 e4 =>
                  split at he
                  · next m xs e5 e6 =>
                    split at he
                    · next j e7 =>
                      cases he
                      have ha : ∀ v, assign (.Subscript o ix p2) X.env v = (do
                          let ov ← holding [v] (eval o X.env)
                          let iv ← holding [v, ov] (eval ix X.env)
                          standAt p2
                          holding [v, ov, iv] (setItem ov iv v)
                          release [v, ov, iv] []) := by
                        have oi := trE_ordy h2
                        intro v
                        cases ix <;> first | rfl | cases oi
                      refine ds_ixset (de_take (H.e C h3 e1) e2) (H.e C h1 e3) (H.e C h2 e4) e5 e6 e7 ha ?_ ?_ rfl
                      · by_cases hc : ∃ elt gs csc pos, e = .ListComp elt gs csc pos
                        · obtain ⟨elt, gs, csc, cpos, rfl⟩ := hc
                          rfl
                        · unfold swapsWithSole
                          exact swaps_other h3 fun elt gs csc pos h => hc ⟨elt, gs, csc, pos, h⟩
                      · cases e <;> rfl
                    · cases he
                  · cases he
              · cases he
        · cases h
      · -- x op= e
        next x px op e pos =>
        split at h
        · next hl =>
          split at h
          · next i o y h1 h2 h3 =>
            cases h
            obtain ⟨l1, l2⟩ := C.loc hl
            simp only [evS] at he
            split at he
            · next m e0 =>
              split at he
              · cases he
              · next r Γ1 e1 =>
                split at he
                · next m2 e2 =>
                  split at he
                  · next k e3 =>
                    split at he
                    · cases he
                    · next Γ2 e4 =>
                      cases he
                      rw [← bopOf_op h2]
                      exact ds_augI hN (by rw [C.N]; exact ixOf_get h1) l1 e0 (H.e C h3 e1) e2 e3 e4 l2
                  · cases he
                · cases he
            · cases he
          · cases h
        · cases h
      · -- a text alone
        cases h
        simp only [evS] at he
        cases he
        exact ds_doc
      · -- e alone
        next e pos hne =>
        split at h
        · next hcall =>
          rw [Option.map_eq_some_iff] at h
          obtain ⟨y, h1, rfl⟩ := h
          simp only [evS] at he
          split at he
          · cases he
          · next r Γ1 e1 =>
            cases he
            refine ds_drop (H.e C h1 e1) ?_
            cases e <;> first | rfl | cases hcall
        · cases h
      · -- if
        split at h
        · next x y z h1 h2 h3 =>
          cases h
          simp only [evS] at he
          split at he
          · cases he
          · next Γ1 e1 => exact ds_if (H.t C h1 e1) (fun _ => ih.2 _ _ _ _ _ h2 he) (fun z => by cases z)
          · next Γ1 e1 => exact ds_if (H.t C h1 e1) (fun z => by cases z) (fun _ => ih.2 _ _ _ _ _ h3 he)
        · cases h
      · -- while
        split at h
        · next x y h1 h2 =>
          cases h
          simp only [evS] at he
          exact ds_while hp (fun Γ k Γ1 e => H.t C h1 e) (fun Γ fl Γ1 e => ih.2 _ _ _ _ _ h2 e) he
        · cases h
      · -- for
        split at h
        · next t i y h1 h2 h3 =>
          cases h
          simp only [evS] at he
          split at he
          · cases he
          · next ds Γ1 e1 => exact ds_for hp C.calm (H.iter C h2 e1) (fun d Γ Γ1 e => (sound_G C n).1 _ t d Γ Γ1 h1 e) (fun Γ fl Γ1 e => ih.2 _ _ _ _ _ h3 e) he (foldO (mkI_ordy h2))
        · cases h
      · -- return
        cases h
        simp only [evS] at he
        cases he
        exact ds_retN
      · -- return e
        rw [Option.map_eq_some_iff] at h
        obtain ⟨y, h1, rfl⟩ := h
        simp only [evS] at he
        split at he
        · cases he
        · next i Γ1 e1 =>
          split at he
          · next d e2 => cases he; exact ds_retM (H.e C h1 e1) e2
          · next d e2 =>
            cases he
            exact ds_ret (de_take (H.e C h1 e1) (by simp only [takeR]; rw [e2])) rfl
          · cases he
        · next r Γ1 hns e1 =>
          cases he
          refine ds_ret (H.e C h1 e1) ?_
          cases r with
          | slot i => exact absurd rfl (hns i)
          | val d => rfl
          | new d => rfl
      · cases h; simp only [evS] at he; cases he; exact ds_break
      · cases h; simp only [evS] at he; cases he; exact ds_continue
      · cases h; simp only [evS] at he; cases he; exact ds_pass
      · cases h; simp only [evS] at he; cases he
      · cases h
    · cases sts with
      | nil =>
        simp only [trSs, Option.some.injEq] at h
        subst h
        simp only [evSs] at he
        cases he
        exact dss_nil
      | cons st sts =>
        simp only [trSs] at h
        split at h
        · next x xs h1 h2 =>
          cases h
          simp only [evSs] at he
          split at he
          · cases he
          · next Γ1 e1 => exact dss_cons (ih.1 _ _ _ _ _ h1 e1) (ih.2 _ _ _ _ _ h2 he)
          · next fl' Γ1 hn e1 =>
            cases he
            exact dss_stop (ih.1 _ _ _ _ _ h1 e1) fun z => by subst z; exact hn rfl
        · cases h
end
end Sv

namespace Sv
open PySem PySem.Spec PyProof.Rows L2
/-! a def of the text keeps what its body makes of its arguments -/
structure FnIn (P : Program) (w : World) (K : PySem.W.Frag) (mg : Str → Option Value) (base : Heap) (x : Str) (k np : Nat) (sem : Fn) : Prop where
  ex : ∃ f fd ps, FnOk P w K mg base CX0 k f fd ps (spOf K np sem) ∧ mg x = some (.ref f) ∧ PySem.W.keepIn K (.ref f) = true ∧ L2.Binds K fd ps []
  len : ∀ as out, sem as = some out → as.length = np
theorem FnIn.imp {P : Program} {w : World} {K : PySem.W.Frag} {mg : Str → Option Value} {base : Heap} {x : Str} {k np : Nat} {sem sem' : Fn} (h : FnIn P w K mg base x k np sem) (hi : ∀ as out, sem' as = some out → sem as = some out) : FnIn P w K mg base x k np sem' where
  ex := by
    obtain ⟨f, fd, ps, F, r⟩ := h.ex
    refine ⟨f, fd, ps, F.imp fun vs H Q E q => ?_, r⟩
    obtain ⟨as, r, o, q1, q2, q3, q4, q5, q6⟩ := q
    exact ⟨as, r, o, q1, q2, q3, q4, hi _ _ q5, q6⟩
  len := fun as out e => h.len as out (hi _ _ e)
theorem FnIn.mono {P : Program} {w : World} {K : PySem.W.Frag} {mg : Str → Option Value} {base : Heap} {x : Str} {k k' np : Nat} {sem : Fn} (h : FnIn P w K mg base x k np sem) (hk : k ≤ k') : FnIn P w K mg base x k' np sem where
  ex := by
    obtain ⟨f, fd, ps, F, r⟩ := h.ex
    exact ⟨f, fd, ps, F.mono hk, r⟩
  len := h.len
section
variable {P : Program} {w : World} {K : PySem.W.Frag} {mg : Str → Option Value} {base : Heap}
/-- the module's facts that a def's body leans on -/
structure Top (cx : TCx) (F : Nat → Fn) (k : Nat) (P : Program) (w : World) (K : PySem.W.Frag) (mg : Str → Option Value) (base : Heap) : Prop where
  cons : ∀ x d, cx.cons.lookup x = some d → ∃ u v, mg x = some u ∧ RelV v u ∧ ∀ K H, Rp K H d v
  fns : ∀ i x, cx.fns[i]? = some x → ∃ np, FnIn P w K mg base x k np (F i)
  blt : ∀ x ∈ bltNames, x ∉ cx.fns → mg x = none
  bf : ∀ x ∈ bltNames, x ∉ cx.fns
theorem okA_io_tail {as : List Sl} (h : okA as = true) : ∀ i d, as[i]? = some (.io d) → i = 0 := by
  intro i d hi
  cases as with
  | nil => simp at hi
  | cons s as =>
    cases i with
    | zero => rfl
    | succ i =>
      exfalso
      rw [List.getElem?_cons_succ] at hi
      have hm := List.mem_of_getElem? hi
      cases s with
      | io e =>
        simp only [okA, List.all_eq_true] at h
        have := h _ hm
        simp at this
      | _ =>
        simp only [okA, List.all_cons, Bool.and_eq_true, List.all_eq_true] at h
        have := h.2 _ hm
        simp at this
theorem okA_kind {as : List Sl} (h : okA as = true) : ∀ (i : Nat) s, as[i]? = some s → (∃ d, s = .sh d) ∨ (∃ d, s = .io d ∧ i = 0) := by
  intro i s hi
  cases as with
  | nil => simp at hi
  | cons s0 as =>
    have key : ∀ s, s ∈ as → ∃ d, s = Sl.sh d := by
      intro s hs
      cases s0 with
      | io e =>
        simp only [okA, List.all_eq_true] at h
        have := h _ hs
        cases s <;> simp at this
        exact ⟨_, rfl⟩
      | _ =>
        simp only [okA, List.all_cons, Bool.and_eq_true, List.all_eq_true] at h
        have := h.2 _ hs
        cases s <;> simp at this
        exact ⟨_, rfl⟩
    cases i with
    | zero =>
      simp only [List.getElem?_cons_zero, Option.some.injEq] at hi
      subst hi
      cases s0 with
      | io e => exact .inr ⟨e, rfl, rfl⟩
      | sh e => exact .inl ⟨e, rfl⟩
      | no => simp [okA] at h
      | ow e => simp [okA] at h
    | succ i =>
      rw [List.getElem?_cons_succ] at hi
      exact .inl (key s (List.mem_of_getElem? hi))
/-- the body's slots at the start -/
theorem env_start {as : List Sl} {vs : List V} {N : List Str} {H : Hp} (e : EnvOk K as (vs.map some) H) (hl : as.length = vs.length) (hn : vs.length ≤ N.length) : EnvOk K (as ++ List.replicate (N.length - vs.length) .no) (L2.start N vs) H := by
  have ga : ∀ (i : Nat) s, (as ++ List.replicate (N.length - vs.length) Sl.no)[i]? = some s → (i < as.length ∧ as[i]? = some s) ∨ s = .no := by
    intro i s h
    by_cases lt : i < as.length
    · rw [List.getElem?_append_left lt] at h
      exact .inl ⟨lt, h⟩
    · right
      rw [List.getElem?_append_right (by omega)] at h
      have := List.mem_of_getElem? h
      exact (List.mem_replicate.1 this).2
  have gv : ∀ (i : Nat), i < as.length → (L2.start N vs)[i]? = (vs.map some)[i]? := by
    intro i lt
    unfold L2.start
    rw [List.getElem?_append_left (by rw [List.length_map]; omega)]
  have ow : ∀ i d, Own (as ++ List.replicate (N.length - vs.length) Sl.no) i d → i < as.length ∧ Own as i d := by
    intro i d h
    rcases h with h | h
    · rcases ga i _ h with ⟨a, b⟩ | b
      · exact ⟨a, .inl b⟩
      · cases b
    · rcases ga i _ h with ⟨a, b⟩ | b
      · exact ⟨a, .inr b⟩
      · cases b
  refine ⟨fun i d h => ?_, fun i d h => ?_, fun i j d f a h1 h2 h3 h4 => ?_, ?_⟩
  · rcases ga i _ h with ⟨a, b⟩ | b
    · rw [gv i a]
      exact e.sh i d b
    · cases b
  · obtain ⟨a, b⟩ := ow i d h
    rw [gv i a]
    exact e.mu i d b
  · obtain ⟨a1, b1⟩ := ow i d h1
    obtain ⟨a2, b2⟩ := ow j f h2
    rw [gv i a1] at h3
    rw [gv j a2] at h4
    exact e.df i j d f a b1 b2 h3 h4
  · unfold L2.start
    rw [List.length_append, List.length_append, List.length_map, List.length_replicate, List.length_replicate, hl]
/-- behind the body: what the caller sees -/
theorem Ste.exit {as : List Sl} {vs : List V} {N : List Str} {H H' : Hp} {Γ : Gm} {σ' : L2.St} (ok : okA as = true) (e : EnvOk K as (vs.map some) H) (hl : as.length = vs.length) (hn : vs.length ≤ N.length)
    (A : Ste K (as ++ List.replicate (N.length - vs.length) .no) (L2.start N vs) H Γ σ' H') : Ste K as (vs.map some) H (outA as (ioOut as Γ)) (vs.map some) H' ∧ (∀ b, Cell (outA as (ioOut as Γ)) (vs.map some) b → Cell Γ σ' b) ∧ ∀ b, Cell (as ++ List.replicate (N.length - vs.length) Sl.no) (L2.start N vs) b → Cell as (vs.map some) b := by
  have kind := okA_kind ok
  have cellA : ∀ b, Cell (as ++ List.replicate (N.length - vs.length) Sl.no) (L2.start N vs) b → Cell as (vs.map some) b := by
    rintro b ⟨i, d, hi, hb⟩
    have lt : i < as.length := by
      apply Classical.byContradiction
      intro ge
      have : (as ++ List.replicate (N.length - vs.length) Sl.no)[i]? = (List.replicate (N.length - vs.length) Sl.no)[i - as.length]? := List.getElem?_append_right (by omega)
      rcases hi with hi | hi
      · rw [this] at hi; have := (List.mem_replicate.1 (List.mem_of_getElem? hi)).2; cases this
      · rw [this] at hi; have := (List.mem_replicate.1 (List.mem_of_getElem? hi)).2; cases this
    refine ⟨i, d, ?_, ?_⟩
    · unfold Own at hi ⊢
      rw [List.getElem?_append_left lt] at hi
      exact hi
    · unfold L2.start at hb
      rw [List.getElem?_append_left (by rw [List.length_map]; omega)] at hb
      exact hb
  suffices h : Ste K as (vs.map some) H (outA as (ioOut as Γ)) (vs.map some) H' ∧ ∀ b, Cell (outA as (ioOut as Γ)) (vs.map some) b → Cell Γ σ' b from ⟨h.1, h.2, cellA⟩
  cases as with
  | nil =>
    have e0 : outA [] (ioOut [] Γ) = [] := rfl
    rw [e0]
    refine ⟨⟨e, ⟨fun i d h => by simp at h, fun i d h => by rcases h with h | h <;> simp at h, fun i j d f a h => by rcases h with h | h <;> simp at h, e.len⟩, fun b o hb nb => A.keep b o hb fun c => nb (cellA b c), A.live, fun b c => .inl c, fun i d h => by simp at h, rfl, rfl⟩, ?_⟩
    rintro b ⟨i, d, h, _⟩
    rcases h with h | h <;> simp at h
  | cons s0 as =>
    -- all but a first lent one are as they were
    have same : ∀ (as' : List Sl), as'.length = (s0 :: as).length → (∀ i s, as'[i]? = some s → (∃ d, s = .sh d ∧ (s0 :: as)[i]? = some (.sh d)) ∨ (i = 0 ∧ ∃ d0 d, s0 = .io d0 ∧ s = .io d ∧ Γ[0]? = some (.io d))) → (∀ d0, s0 = .io d0 → ∃ d, as'[0]? = some (.io d)) →
        Ste K (s0 :: as) (vs.map some) H as' (vs.map some) H' ∧ ∀ b, Cell as' (vs.map some) b → Cell Γ σ' b := by
      intro as' len ks k0
      have io0 : ∀ d0, s0 = .io d0 → σ'[0]? = (vs.map some)[0]? := by
        intro d0 h0
        have := (A.io 0 d0 (by rw [h0]; rfl)).2
        rw [this]
        unfold L2.start
        rw [List.getElem?_append_left (by rw [List.length_map]; rw [List.length_cons] at hl; omega)]
      have cel : ∀ b, Cell as' (vs.map some) b → Cell Γ σ' b ∧ Cell (s0 :: as) (vs.map some) b := by
        rintro b ⟨i, d, hi, hb⟩
        have : ∃ s, as'[i]? = some s ∧ (s = .ow d ∨ s = .io d) := by
          rcases hi with hi | hi
          · exact ⟨_, hi, .inl rfl⟩
          · exact ⟨_, hi, .inr rfl⟩
        obtain ⟨s, h1, h2⟩ := this
        rcases ks i s h1 with ⟨d', h3, _⟩ | ⟨rfl, d0, d', h3, h4, h5⟩
        · subst h3; rcases h2 with h2 | h2 <;> cases h2
        · refine ⟨⟨0, d', .inr h5, by rw [io0 d0 h3]; exact hb⟩, ⟨0, d0, .inr (by rw [h3]; rfl), hb⟩⟩
      refine ⟨⟨e, ⟨fun i d h => ?_, fun i d h => ?_, fun i j d f a h1 h2 _ _ => ?_, by rw [List.length_map, len, hl]⟩, fun b o hb nb => A.keep b o hb fun c => nb (cellA b c), A.live, fun b c => .inl (cel b c).2, fun i d h => ?_, len, rfl⟩, fun b c => (cel b c).1⟩
      · rcases ks i _ h with ⟨d', h3, h4⟩ | ⟨rfl, d0, d', h3, h4, h5⟩
        · cases h3
          obtain ⟨v, q1, q2⟩ := e.sh i d h4
          exact ⟨v, q1, Rp.per A.per d v q2⟩
        · cases h4
      · have : ∃ s, as'[i]? = some s ∧ (s = .ow d ∨ s = .io d) := by
          rcases h with h | h
          · exact ⟨_, h, .inl rfl⟩
          · exact ⟨_, h, .inr rfl⟩
        obtain ⟨s, h1, h2⟩ := this
        rcases ks i s h1 with ⟨d', h3, _⟩ | ⟨rfl, d0, d', h3, h4, h5⟩
        · subst h3; rcases h2 with h2 | h2 <;> cases h2
        · have ed : d' = d := by subst h4; rcases h2 with h2 | h2 <;> cases h2; rfl
          subst ed
          obtain ⟨a, q1, q2⟩ := A.env.mu 0 d' (.inr h5)
          rw [io0 d0 h3] at q1
          exact ⟨a, q1, q2⟩
      · have z : ∀ i d, Own as' i d → i = 0 := by
          intro i d h
          have : ∃ s, as'[i]? = some s ∧ (s = .ow d ∨ s = .io d) := by
            rcases h with h | h
            · exact ⟨_, h, .inl rfl⟩
            · exact ⟨_, h, .inr rfl⟩
          obtain ⟨s, h1, h2⟩ := this
          rcases ks i s h1 with ⟨d', h3, _⟩ | ⟨h3, _⟩
          · subst h3; rcases h2 with h2 | h2 <;> cases h2
          · exact h3
        rw [z i d h1, z j f h2]
      · rcases kind i _ h with ⟨d', h3⟩ | ⟨d', h3, rfl⟩
        · cases h3
        · cases h3
          obtain ⟨d2, q⟩ := k0 d (by simpa using h)
          exact ⟨⟨d2, q⟩, rfl⟩
    cases s0 with
    | io d0 =>
      obtain ⟨⟨d1, h1⟩, _⟩ := A.io 0 d0 rfl
      have ho : ioOut (.io d0 :: as) Γ = some d1 := by
        cases Γ with
        | nil => simp at h1
        | cons g Γ =>
          simp only [List.getElem?_cons_zero, Option.some.injEq] at h1
          subst h1
          rfl
      rw [ho]
      refine same (.io d1 :: as) rfl (fun i s hs => ?_) (fun d0' _ => ⟨d1, rfl⟩)
      cases i with
      | zero => simp only [List.getElem?_cons_zero, Option.some.injEq] at hs; subst hs; exact .inr ⟨rfl, d0, d1, rfl, rfl, h1⟩
      | succ i =>
        rw [List.getElem?_cons_succ] at hs
        rcases kind (i + 1) s (by rw [List.getElem?_cons_succ]; exact hs) with ⟨d, hd⟩ | ⟨d, _, hd⟩
        · exact .inl ⟨d, hd, by rw [List.getElem?_cons_succ, hs, hd]⟩
        · exact absurd hd (by omega)
    | sh d0 =>
      have ho : outA (.sh d0 :: as) (ioOut (.sh d0 :: as) Γ) = .sh d0 :: as := rfl
      rw [ho]
      refine same _ rfl (fun i s hs => ?_) (fun d h => by cases h)
      rcases kind i s hs with ⟨d, hd⟩ | ⟨d, hd, rfl⟩
      · exact .inl ⟨d, hd, by rw [hs, hd]⟩
      · simp only [List.getElem?_cons_zero, Option.some.injEq] at hs
        subst hs
        cases hd
    | no => simp [okA] at ok
    | ow d0 => simp [okA] at ok
theorem fn_sound {cx : TCx} {F : Nat → Fn} {Ld : Nat → Bool} {W k n : Nat} {x : Str} {st : Stmt} {f : Addr} {fd : FuncData} {ps : List Str} {ir : List S} (Fu : Fun K x x st f fd) (Sc : FnScope cx.N ps (defScope st)) (hb : trSs cx n (defScope st) (defBody st) = some ir) (T : Top cx F k P w K mg base) (hx : mg x = some (.ref f)) (hps : ps.length ≤ cx.N.length) (hbi : L2.Binds K fd ps []) :
    FnIn P w K mg base x (k + 1) ps.length (runF F Ld W ⟨ps.length, cx.N.length, ir⟩) := by
  refine ⟨⟨f, fd, ps, Fu.ok Sc (fun vs H Q E h => ?_) (fun cdv A outer s H vs Q E hr h => ?_), hx, Fu.kp, hbi⟩, fun as out h => ?_⟩
  · obtain ⟨as, r, o, h1, _⟩ := h
    exact h1
  · obtain ⟨as, r, o, h1, h2, h3, h4, h5, h6, q⟩ := h
    have C : Cxt cx F Ld (cxOf CX0 P w K mg base cx.N x (defScope st) f cdv A outer s H E).nox (defScope st) := {
      calm := rfl
      N := rfl
      nd := Sc.nd
      lk := fun x k h => .inl h
      fn := fun _ _ => rfl
      cons := T.cons
      fns := fun i y hy => by
        obtain ⟨np, I⟩ := T.fns i y hy
        obtain ⟨f', fd', ps', F', a, b, c⟩ := I.ex
        exact ⟨k, f', fd', ps', np, F', hr, a, b, c, I.len⟩
      blt := T.blt
      bf := T.bf
      hu := by have := hr.un; show (A.deeper _).units + 65 < cLine; omega }
    unfold runF at h5
    rw [if_pos h2] at h5
    have hl : as.length = vs.length := by rw [h1, h2]
    have hn : vs.length ≤ cx.N.length := by rw [h1]; exact hps
    have E0 := env_start (N := cx.N) h4 hl hn
    have e1 : as ++ List.replicate (cx.N.length - ps.length) Sl.no = as ++ List.replicate (cx.N.length - vs.length) Sl.no := by rw [h1]
    rw [e1] at h5
    have L0 := E0.len
    split at h5
    · next Γ he =>
      cases h5
      refine ⟨_, (sound_S C rfl Sc.kind PassesOwn.never n).2 _ _ _ _ _ hb he, E0, L0, fun σ' H' A => ?_⟩
      obtain ⟨B, c1, c2⟩ := A.exit h3 h4 hl hn
      exact q .non H' B (by simp only [Pd, Rp]) trivial
    · next r' Γ he =>
      cases h5
      refine ⟨_, (sound_S C rfl Sc.kind PassesOwn.never n).2 _ _ _ _ _ hb he, E0, L0, fun v σ' H' A p og ns => ?_⟩
      obtain ⟨B, c1, c2⟩ := A.exit h3 h4 hl hn
      refine q v H' B ?_ ?_
      · cases r with
        | val d => exact p
        | slot i => cases h6
        | new d =>
          obtain ⟨a, e, c, nc⟩ := p
          exact ⟨a, e, c, fun cc => nc (c1 a cc)⟩
      · cases r with
        | val d => trivial
        | slot i => trivial
        | new d =>
          intro a ea
          rcases og a ea with c | c
          · exact .inl (c2 a c)
          · exact .inr c
    · cases h5
  · unfold runF at h
    split at h
    · next hh => exact hh
    · cases h
end
end Sv

namespace Sv
open PySem PySem.Spec PyProof.Rows L2
/-! a whole program -/
structure DefI where
  name : Str
  st : Stmt
  N : List Str
  ps : List Str
  ir : List S
  ld : Bool
structure Prg where
  defs : List DefI
  cons : List (Str × D)
def Prg.fns (p : Prg) : List Str := p.defs.map (·.name)
def Prg.ld (p : Prg) (i : Nat) : Bool := match p.defs[i]? with
  | some d => d.ld
  | none => false
def Prg.FT (p : Prg) (W : Nat) : Nat → Nat → Fn
  | 0, _ => fun _ => none
  | n + 1, i => match p.defs[i]? with
    | some d => runF (p.FT W n) p.ld W ⟨d.ps.length, d.N.length, d.ir⟩
    | none => fun _ => none
def Prg.cx (p : Prg) (d : DefI) : TCx := ⟨d.N, p.fns, p.cons⟩
/-- what is looked at in the text -/
structure DefOk (p : Prg) (d : DefI) : Prop where
  sc : FnScope d.N d.ps (defScope d.st)
  tr : trSs (p.cx d) 100 (defScope d.st) (defBody d.st) = some d.ir
  le : d.ps.length ≤ d.N.length
  bi : ∀ (kV doc pm : Value) (an : Option Addr) (cdv ct : Value) (us : List Value), us.length = d.ps.length → bindArgs (PySem.W.fnOf d.name d.name (defArgs d.st) (defBody d.st) (defScope d.st) .none kV doc pm an cdv ct) ⟨us, []⟩ = pure (d.ps.zip us)
structure TopOk (p : Prg) (K : PySem.W.Frag) (mg : Str → Option Value) : Prop where
  defs : ∀ d ∈ p.defs, ∃ f fd, mg d.name = some (.ref f) ∧ FunD K d.name d.name (defArgs d.st) (defBody d.st) (defScope d.st) [] [] f fd
  cons : ∀ x d, p.cons.lookup x = some d → ∃ u v, mg x = some u ∧ RelV v u ∧ ∀ K H, Rp K H d v
  blt : ∀ x ∈ bltNames, mg x = none
section
variable {P : Program} {w : World} {K : PySem.W.Frag} {mg : Str → Option Value} {base : Heap}
theorem fn_soundF {cx : TCx} {F : Nat → Fn} {Ld : Nat → Bool} {W k n : Nat} {x : Str} {st : Stmt} {f : Addr} {fd : FuncData} {ps : List Str} {ir : List S} (Fu : FunD K x x (defArgs st) (defBody st) (defScope st) [] [] f fd) (Sc : FnScope cx.N ps (defScope st)) (hb : trSs cx n (defScope st) (defBody st) = some ir) (T : Top cx F k P w K mg base) (hps : ps.length ≤ cx.N.length) :
    FnOk P w K mg base CX0 (k + 1) f fd ps (spOf K ps.length (runF F Ld W ⟨ps.length, cx.N.length, ir⟩)) := by
  refine Fu.ok Sc (fun vs H Q E h => ?_) (fun cdv A outer s H vs Q E hr h => ?_)
  · obtain ⟨as, r, o, h1, _⟩ := h
    exact h1
  · obtain ⟨as, r, o, h1, h2, h3, h4, h5, h6, q⟩ := h
    have C : Cxt cx F Ld (cxOf CX0 P w K mg base cx.N x (defScope st) f cdv A outer s H E).nox (defScope st) := {
      calm := rfl
      N := rfl
      nd := Sc.nd
      lk := fun x k h => .inl h
      fn := fun _ _ => rfl
      cons := T.cons
      fns := fun i y hy => by
        obtain ⟨np, I⟩ := T.fns i y hy
        obtain ⟨f', fd', ps', F', a, b, c⟩ := I.ex
        exact ⟨k, f', fd', ps', np, F', hr, a, b, c, I.len⟩
      blt := T.blt
      bf := T.bf
      hu := by have := hr.un; show (A.deeper _).units + 65 < cLine; omega }
    unfold runF at h5
    rw [if_pos h2] at h5
    have hl : as.length = vs.length := by rw [h1, h2]
    have hn : vs.length ≤ cx.N.length := by rw [h1]; exact hps
    have E0 := env_start (N := cx.N) h4 hl hn
    have e1 : as ++ List.replicate (cx.N.length - ps.length) Sl.no = as ++ List.replicate (cx.N.length - vs.length) Sl.no := by rw [h1]
    rw [e1] at h5
    have L0 := E0.len
    split at h5
    · next Γ he =>
      cases h5
      refine ⟨_, PSs.nox ((sound_S C rfl Sc.kind PassesOwn.never n).2 _ _ _ _ _ hb he), E0, L0, fun σ' H' A => ?_⟩
      obtain ⟨B, c1, c2⟩ := A.exit h3 h4 hl hn
      exact q .non H' B (by simp only [Pd, Rp]) trivial
    · next r' Γ he =>
      cases h5
      refine ⟨_, PSs.nox ((sound_S C rfl Sc.kind PassesOwn.never n).2 _ _ _ _ _ hb he), E0, L0, fun v σ' H' A p og ns => ?_⟩
      obtain ⟨B, c1, c2⟩ := A.exit h3 h4 hl hn
      refine q v H' B ?_ ?_
      · cases r with
        | val d => exact p
        | slot i => cases h6
        | new d =>
          obtain ⟨a, e, c, nc⟩ := p
          exact ⟨a, e, c, fun cc => nc (c1 a cc)⟩
      · cases r with
        | val d => trivial
        | slot i => trivial
        | new d =>
          intro a ea
          rcases og a ea with c | c
          · exact .inl (c2 a c)
          · exact .inr c
    · cases h5
theorem fn_soundD {cx : TCx} {F : Nat → Fn} {Ld : Nat → Bool} {W k n : Nat} {x : Str} {st : Stmt} {f : Addr} {fd : FuncData} {ps : List Str} {ir : List S} (Fu : FunD K x x (defArgs st) (defBody st) (defScope st) [] [] f fd) (Sc : FnScope cx.N ps (defScope st)) (hb : trSs cx n (defScope st) (defBody st) = some ir) (T : Top cx F k P w K mg base) (hx : mg x = some (.ref f)) (hps : ps.length ≤ cx.N.length) (hbi : L2.Binds K fd ps []) :
    FnIn P w K mg base x (k + 1) ps.length (runF F Ld W ⟨ps.length, cx.N.length, ir⟩) := by
  refine ⟨⟨f, fd, ps, fn_soundF Fu Sc hb T hps, hx, Fu.kp, hbi⟩, fun as out h => ?_⟩
  unfold runF at h
  split at h
  · next hh => exact hh
  · cases h
theorem all_in {p : Prg} {W : Nat} (D : ∀ d ∈ p.defs, DefOk p d) (T : TopOk p K mg) (bf : ∀ x ∈ bltNames, x ∉ p.fns) : ∀ (n i : Nat) (d : DefI), p.defs[i]? = some d → FnIn P w K mg base d.name n d.ps.length (p.FT W n i) := by
  intro n
  induction n with
  | zero =>
    intro i d hd
    obtain ⟨f, fd, h1, h2⟩ := T.defs d (List.mem_of_getElem? hd)
    exact ⟨⟨f, fd, d.ps, ⟨fun vs H Q E h => (by obtain ⟨as, r, o, _, _, _, _, h5, _⟩ := h; cases h5), fun A outer s H args us vs Q E _ _ _ _ h => (by obtain ⟨as, r, o, _, _, _, _, h5, _⟩ := h; cases h5)⟩, h1, h2.kp, h2.bindsN fun kV doc pm an cdv ct us hl => (D d (List.mem_of_getElem? hd)).bi kV doc pm an cdv ct us hl⟩, fun as out h => (by cases h)⟩
  | succ n ih =>
    intro i d hd
    have hm := List.mem_of_getElem? hd
    obtain ⟨f, fd, h1, h2⟩ := T.defs d hm
    have O := D d hm
    have e : p.FT W (n + 1) i = runF (p.FT W n) p.ld W ⟨d.ps.length, d.N.length, d.ir⟩ := by
      simp only [Prg.FT]
      rw [hd]
    rw [e]
    refine fn_soundD (cx := p.cx d) (n := 100) h2 O.sc O.tr ⟨T.cons, fun j x hj => ?_, fun x hx _ => T.blt x hx, bf⟩ h1 O.le (h2.bindsN fun kV doc pm an cdv ct us hl => O.bi kV doc pm an cdv ct us hl)
    unfold Prg.cx Prg.fns at hj
    simp only [List.getElem?_map, Option.map_eq_some_iff] at hj
    obtain ⟨d', q1, rfl⟩ := hj
    exact ⟨_, ih j d' q1⟩
theorem one_ok {p : Prg} {W : Nat} (D : ∀ d ∈ p.defs, DefOk p d) (T : TopOk p K mg) (bf : ∀ x ∈ bltNames, x ∉ p.fns) (n i : Nat) {d : DefI} (hd : p.defs[i]? = some d) {f : Addr} {fd : FuncData} (Fu : FunD K d.name d.name (defArgs d.st) (defBody d.st) (defScope d.st) [] [] f fd) :
    FnOk P w K mg base CX0 (n + 1) f fd d.ps (spOf K d.ps.length (p.FT W (n + 1) i)) := by
  have O := D d (List.mem_of_getElem? hd)
  have e : p.FT W (n + 1) i = runF (p.FT W n) p.ld W ⟨d.ps.length, d.N.length, d.ir⟩ := by
    simp only [Prg.FT]
    rw [hd]
  rw [e]
  refine fn_soundF (cx := p.cx d) (n := 100) Fu O.sc O.tr ⟨T.cons, fun j x hj => ?_, fun x hx _ => T.blt x hx, bf⟩ O.le
  unfold Prg.cx Prg.fns at hj
  simp only [List.getElem?_map, Option.map_eq_some_iff] at hj
  obtain ⟨d', q1, rfl⟩ := hj
  exact ⟨_, all_in D T bf n j d' q1⟩
/-- the law: from what its def makes of every script -/
theorem law_sp {p : Prg} {W n i : Nat} {np : Nat} (hnp : np = 1) (h : ∀ ns : List Int, ns.length ≤ 63 → p.FT W n i [.sh (.scr ns)] = some (.val (.bl true), none)) (H : Hp) (a : Addr) (ns : List Int) (hl : ns.length ≤ 63) (hO : Only H) (hS : SqL K H a (ns.map V.int)) :
    spOf K np (p.FT W n i) [.ref a] H (fun v _ => v = .bl true) fun _ _ _ => False := by
  subst hnp
  have hs : SqS K H a (ns.map V.int) := by
    rcases hS with (hS | hS) | hS
    · rcases hO a with z | ⟨o, xs, z⟩ <;> rw [hS] at z <;> cases z
    · exact .inl hS
    · exact .inr hS
  refine ⟨[.sh (.scr ns)], .val (.bl true), none, rfl, rfl, rfl, ⟨fun i d hd => ?_, fun i d hd => ?_, fun i j d e a hd => ?_, rfl⟩, h ns hl, rfl, fun v H' _ p _ => by simpa only [Pd, Rp] using p⟩
  · cases i with
    | zero =>
      simp only [List.getElem?_cons_zero, Option.some.injEq, Sl.sh.injEq] at hd
      subst hd
      refine ⟨.ref a, rfl, ?_⟩
      simp only [Rp]
      exact ⟨a, rfl, hs⟩
    | succ i => simp at hd
  · rcases hd with hd | hd <;> cases i <;> simp at hd
  · rcases hd with hd | hd <;> cases i <;> simp at hd
end
end Sv

namespace Sv
open PySem PySem.Spec PyProof.Rows L2
/-! plain facts on the loops -/
theorem compL_inv {vs : List Nat} {fg : D → Gm → Option Gm} {ft : Gm → Option (Bool × Gm)} {fe : Gm → Option (D × Gm)} {P : List D → Gm → Prop} {L : Nat} (hL : L ≤ 1000000) : ∀ (ds acc : List D) (Γ : Gm),
    (∀ d ∈ ds, ∀ acc Γ, P acc Γ → acc.length < L → ∃ Γ1 Γ2 e Γ3, fg d Γ = some Γ1 ∧ ft Γ1 = some (true, Γ2) ∧ fe Γ2 = some (e, Γ3) ∧ P (acc ++ [e]) (wipeG Γ3 vs)) → P acc Γ → acc.length + ds.length ≤ L →
    ∃ out Γe, compL vs fg ft fe ds acc Γ = some (out, Γe) ∧ P out Γe ∧ out.length = acc.length + ds.length
  | [], acc, Γ, _, h, _ => ⟨acc, Γ, rfl, h, rfl⟩
  | d :: ds, acc, Γ, hs, h, hl => by
    simp only [List.length_cons] at hl
    obtain ⟨Γ1, Γ2, e, Γ3, e1, e2, e3, h'⟩ := hs d List.mem_cons_self acc Γ h (by omega)
    obtain ⟨out, Γe, q1, q2, q3⟩ := compL_inv hL ds (acc ++ [e]) (wipeG Γ3 vs) (fun d hd => hs d (List.mem_cons_of_mem _ hd)) h' (by simp; omega)
    refine ⟨out, Γe, ?_, q2, by rw [q3]; simp; omega⟩
    simp only [compL, e1, e2, e3]
    rw [if_pos (by omega)]
    exact q1
/-- a comprehension that leaves the slots as they are -/
theorem compL_pure {vs : List Nat} {fg : D → Gm → Option Gm} {ft : Gm → Option (Bool × Gm)} {fe : Gm → Option (D × Gm)} {p : D → Bool} {f : D → D} {Γ : Gm} : ∀ (ds acc : List D),
    (∀ d ∈ ds, ∃ Γ1 Γ2, fg d Γ = some Γ1 ∧ ft Γ1 = some (p d, Γ2) ∧ (p d = false → wipeG Γ2 vs = Γ) ∧ (p d = true → ∃ Γ3, fe Γ2 = some (f d, Γ3) ∧ wipeG Γ3 vs = Γ)) → acc.length + ds.length ≤ 1000000 →
    compL vs fg ft fe ds acc Γ = some (acc ++ (ds.filter p).map f, Γ)
  | [], acc, _, _ => by simp [compL]
  | d :: ds, acc, hs, hl => by
    obtain ⟨Γ1, Γ2, e1, e2, e3, e4⟩ := hs d List.mem_cons_self
    simp only [List.length_cons] at hl
    simp only [compL, e1, e2]
    cases hp : p d with
    | false =>
      simp only [hp, e3 hp]
      rw [compL_pure ds acc (fun d hd => hs d (List.mem_cons_of_mem _ hd)) (by omega)]
      simp [List.filter_cons, hp]
    | true =>
      obtain ⟨Γ3, q1, q2⟩ := e4 hp
      simp only [hp, q1, q2]
      rw [if_pos (by omega), compL_pure ds (acc ++ [f d]) (fun d hd => hs d (List.mem_cons_of_mem _ hd)) (by simp; omega)]
      simp [List.filter_cons, hp]
theorem compL_map {vs : List Nat} {fg : D → Gm → Option Gm} {ft : Gm → Option (Bool × Gm)} {fe : Gm → Option (D × Gm)} {f : D → D} {Γ : Gm} (ds : List D)
    (hs : ∀ d ∈ ds, ∃ Γ1 Γ2 Γ3, fg d Γ = some Γ1 ∧ ft Γ1 = some (true, Γ2) ∧ fe Γ2 = some (f d, Γ3) ∧ wipeG Γ3 vs = Γ) (hl : ds.length ≤ 1000000) :
    compL vs fg ft fe ds [] Γ = some (ds.map f, Γ) := by
  have := compL_pure (vs := vs) (fg := fg) (ft := ft) (fe := fe) (p := fun _ => true) (f := f) (Γ := Γ) ds [] (fun d hd => by
    obtain ⟨Γ1, Γ2, Γ3, a, b, c, e⟩ := hs d hd
    exact ⟨Γ1, Γ2, a, b, fun h => by (cases h), fun _ => ⟨Γ3, c, e⟩⟩) (by simpa using hl)
  simpa [List.filter_eq_self.2] using this
theorem evSs_app (F : Nat → Fn) (Ld : Nat → Bool) (W : Nat) : ∀ (a b : List S) (Γ Γ1 : Gm), evSs F Ld W a Γ = some (.nx, Γ1) → evSs F Ld W (a ++ b) Γ = evSs F Ld W b Γ1
  | [], b, Γ, Γ1, h => by
    simp only [evSs, Option.some.injEq, Prod.mk.injEq, true_and] at h
    rw [h]
    rfl
  | s :: a, b, Γ, Γ1, h => by
    simp only [evSs, List.cons_append] at h ⊢
    cases hs : evS F Ld W s Γ with
    | none => rw [hs] at h; cases h
    | some p =>
      obtain ⟨fl, Γ2⟩ := p
      rw [hs] at h
      cases fl <;> simp only [Option.some.injEq, Prod.mk.injEq, reduceCtorEq, false_and] at h ⊢
      exact evSs_app F Ld W a b Γ2 Γ1 h
theorem runF_rt {F : Nat → Fn} {Ld : Nat → Bool} {W : Nat} {f : Fd} {as : List Sl} {Γ0 Γ : Gm} {r : Rs} (hl : as.length = f.np) (h0 : as ++ List.replicate (f.ns - f.np) .no = Γ0) (h : evSs F Ld W f.body Γ0 = some (.rt r, Γ)) : runF F Ld W f as = some (r, ioOut as Γ) := by
  simp only [runF]
  rw [if_pos hl, h0, h]
theorem evSs_cut (F : Nat → Fn) (Ld : Nat → Bool) (W : Nat) (n : Nat) (a : List S) (Γ Γ1 : Gm) (h : evSs F Ld W (a.take n) Γ = some (.nx, Γ1)) : evSs F Ld W a Γ = evSs F Ld W (a.drop n) Γ1 := by
  have := evSs_app F Ld W (a.take n) (a.drop n) Γ Γ1 h
  rwa [List.take_append_drop] at this
/-- a for-loop whose body always goes on -/
theorem forL_inv {g : D → Gm → Option Gm} {b : Gm → Option (Fl × Gm)} {P : Nat → Gm → Prop} : ∀ (ds : List D) (i : Nat) (Γ : Gm),
    (∀ d ∈ ds, ∀ i Γ, P i Γ → ∃ Γ1 Γ2, g d Γ = some Γ1 ∧ b Γ1 = some (.nx, Γ2) ∧ P (i + 1) Γ2) → P i Γ → ∃ Γe, forL g b ds Γ = some (.nx, Γe) ∧ P (i + ds.length) Γe
  | [], i, Γ, _, h => ⟨Γ, rfl, h⟩
  | d :: ds, i, Γ, hs, h => by
    obtain ⟨Γ1, Γ2, e1, e2, h'⟩ := hs d List.mem_cons_self i Γ h
    obtain ⟨Γe, q1, q2⟩ := forL_inv ds (i + 1) Γ2 (fun d hd => hs d (List.mem_cons_of_mem _ hd)) h'
    refine ⟨Γe, ?_, by rw [List.length_cons, show i + (ds.length + 1) = i + 1 + ds.length by omega]; exact q2⟩
    simp only [forL, e1, e2]
    exact q1
theorem forL_invL {g : D → Gm → Option Gm} {b : Gm → Option (Fl × Gm)} {P : Nat → Gm → Prop} {L : Nat} : ∀ (ds : List D) (i : Nat) (Γ : Gm),
    (∀ d ∈ ds, ∀ i Γ, P i Γ → i < L → ∃ Γ1 Γ2, g d Γ = some Γ1 ∧ b Γ1 = some (.nx, Γ2) ∧ P (i + 1) Γ2) → P i Γ → i + ds.length ≤ L → ∃ Γe, forL g b ds Γ = some (.nx, Γe) ∧ P (i + ds.length) Γe
  | [], i, Γ, _, h, _ => ⟨Γ, rfl, h⟩
  | d :: ds, i, Γ, hs, h, hl => by
    rw [List.length_cons] at hl
    obtain ⟨Γ1, Γ2, e1, e2, h'⟩ := hs d List.mem_cons_self i Γ h (by omega)
    obtain ⟨Γe, q1, q2⟩ := forL_invL ds (i + 1) Γ2 (fun d hd => hs d (List.mem_cons_of_mem _ hd)) h' (by omega)
    refine ⟨Γe, ?_, by rw [List.length_cons, show i + (ds.length + 1) = i + 1 + ds.length by omega]; exact q2⟩
    simp only [forL, e1, e2]
    exact q1
theorem nodup_le {α : Type} [DecidableEq α] : ∀ (l m : List α), l.Nodup → (∀ x ∈ l, x ∈ m) → l.length ≤ m.length
  | [], m, _, _ => Nat.zero_le _
  | a :: l, m, hn, h => by
    rw [List.nodup_cons] at hn
    have ha := h a List.mem_cons_self
    have := nodup_le l (m.erase a) hn.2 fun x hx => (List.mem_erase_of_ne (fun e => hn.1 (by rw [← e]; exact hx))).2 (h x (List.mem_cons_of_mem _ hx))
    rw [List.length_erase_of_mem ha] at this
    have : 0 < m.length := List.length_pos_of_mem ha
    simp only [List.length_cons]
    omega
/-! the box and what is taken from it -/
def Bx (c : Int) (b : D) : Prop := ∃ x0 x1 x2, b = .lst [.int x0, .int x1, .int x2] ∧ 0 ≤ x1 ∧ x1 < 2 ^ 40 ∧ 0 ≤ x2 ∧ x2 ≤ c
theorem Bx.mono {c c' : Int} {b : D} (h : Bx c b) (hc : c ≤ c') : Bx c' b := by
  obtain ⟨x0, x1, x2, e, h1, h2, h3, h4⟩ := h
  exact ⟨x0, x1, x2, e, h1, h2, h3, Int.le_trans h4 hc⟩
def irTake : List S := [
    .iff (.val (.cmp .gt (.ix (.var 0) (.cst (.int (0)))) (.cst (.int (0))))) [.set 2 (.bin .mod (.ix (.var 0) (.cst (.int (0)))) (.var 1)), .ixs (.var 0) (.cst (.int (0))) (.bin .fdiv (.ix (.var 0) (.cst (.int (0)))) (.var 1)), .ret (some (.var 2))] [],
    .ixs (.var 0) (.cst (.int (2))) (.bin .add (.ix (.var 0) (.cst (.int (2)))) (.cst (.int (1)))),
    .set 3 (.bin .mod (.bin .pow (.bin .add (.ix (.var 0) (.cst (.int (1)))) (.bin .mul (.cst (.int (39373))) (.ix (.var 0) (.cst (.int (2)))))) (.cst (.int (5)))) (.cst (.int (2147483647)))),
    .ret (some (.bin .mod (.bin .fdiv (.bin .mod (.bin .add (.bin .mul (.var 3) (.bin .add (.bin .mod (.var 3) (.cst (.int (40009)))) (.cst (.int (7))))) (.bin .mul (.ix (.var 0) (.cst (.int (2)))) (.cst (.int (7919))))) (.cst (.int (2147483629)))) (.cst (.int (64)))) (.var 1)))]
def TakeFn (f : Fn) : Prop := ∀ (c k : Int) (b : D), Bx c b → c ≤ 1000000 → 0 < k → k < 1000000 → ∃ r b', f [.io b, .sh (.int k)] = some (.val (.int r), some b') ∧ 0 ≤ r ∧ r < k ∧ Bx (c + 1) b'
theorem fitsR {j : Int} (h0 : -1000000000000000000 ≤ j) (h1 : j ≤ 1000000000000000000) : fits64 j = true := by
  simp only [fits64, Bool.and_eq_true, decide_eq_true_eq]
  omega
theorem take_fn (F : Nat → Fn) (Ld : Nat → Bool) (W : Nat) : TakeFn (runF F Ld W ⟨2, 4, irTake⟩) := by
  intro c k b hb hc h0 hk
  obtain ⟨x0, x1, x2, rfl, h1, h2, h3, h4⟩ := hb
  have f1 : fits64 (x1 + 39373 * (x2 + 1)) = true := fitsR (by omega) (by omega)
  have g : ∀ a : Int, 0 ≤ a % k ∧ a % k < k := fun a => ⟨Int.emod_nonneg _ (by omega), Int.emod_lt_of_pos _ h0⟩
  by_cases hx : 0 < x0
  · refine ⟨x0 % k, .lst [.int (x0 / k), .int x1, .int x2], ?_, (g _).1, (g _).2, _, _, _, rfl, h1, h2, h3, by omega⟩
    have hkk : 0 < k ∧ k < 1073741824 := by omega
    simp [runF, irTake, evSs, evS, evE, evEs, evT, readR, takeR, Sv.bound, settleR, bindR, mayBind, slOf, ownAt, setOwn, ixD, atI, ixN, cmpD, binD, hx, h0, hkk, ioOut]
  · have f2 : fits64 ((x1 + 39373 * (x2 + 1)) ^ 5 % 2147483647) = true := by
      have a1 := Int.emod_nonneg ((x1 + 39373 * (x2 + 1)) ^ 5) (show (2147483647 : Int) ≠ 0 by decide)
      have a2 := Int.emod_lt_of_pos ((x1 + 39373 * (x2 + 1)) ^ 5) (show (0 : Int) < 2147483647 by decide)
      exact fitsR (by omega) (by omega)
    have f3 : ∀ j : Int, (fits64 j || fits64 7919) = true := fun j => by rw [show fits64 7919 = true by decide, Bool.or_true]
    have f4 : ∀ j : Int, (fits64 39373 || fits64 j) = true := fun j => by rw [show fits64 39373 = true by decide, Bool.true_or]
    refine ⟨(((x1 + 39373 * (x2 + 1)) ^ 5 % 2147483647 * ((x1 + 39373 * (x2 + 1)) ^ 5 % 2147483647 % 40009 + 7) + (x2 + 1) * 7919) % 2147483629 / 64) % k, .lst [.int x0, .int x1, .int (x2 + 1)], ?_, (g _).1, (g _).2, _, _, _, rfl, h1, h2, by omega, by omega⟩
    simp [runF, irTake, evSs, evS, evE, evEs, evT, readR, takeR, Sv.bound, settleR, bindR, mayBind, slOf, ownAt, setOwn, ixD, atI, ixN, cmpD, binD, hx, h0, f1, f2, f3, f4, ioOut, -Bool.or_eq_true]
def irBox : List S := [
    .set 2 (.cst (.int (0))),
    .iff (.val (.cmp .lt (.var 1) (.bi .len [(.var 0)]))) [.set 2 (.ix (.var 0) (.var 1))] [],
    .ret (some (.lst [(.bin .mul (.bi .abs [(.var 2)]) (.bi .int [(.cmp .ge (.bi .abs [(.var 2)]) (.bin .pow (.cst (.int (10))) (.cst (.int (18)))))])), (.bin .add (.bin .add (.bin .mod (.var 2) (.cst (.int (2147483629)))) (.bin .mul (.cst (.int (7919))) (.var 1))) (.cst (.int (11)))), (.cst (.int (0)))]))]
def BoxFn (f : Fn) : Prop := ∀ (ns : List Int) (k : Int), 0 ≤ k → k ≤ 1000 → ∃ b, f [.sh (.scr ns), .sh (.int k)] = some (.new b, none) ∧ Bx 0 b
theorem box_fn (F : Nat → Fn) (Ld : Nat → Bool) (W : Nat) : BoxFn (runF F Ld W ⟨2, 3, irBox⟩) := by
  intro ns k h0 hk
  have f4 : (fits64 7919 || fits64 k) = true := by rw [show fits64 7919 = true by decide, Bool.true_or]
  have f5 : fits64 10 = true := by decide
  have key : ∀ x : Int, ∃ b, Bx 0 b ∧ evSs F Ld W (irBox.drop 2) [.sh (.scr ns), .sh (.int k), .sh (.int x)] = some (.rt (.new b), [.sh (.scr ns), .sh (.int k), .sh (.int x)]) := by
    intro x
    have a1 := Int.emod_nonneg x (show (2147483629 : Int) ≠ 0 by decide)
    have a2 := Int.emod_lt_of_pos x (show (0 : Int) < 2147483629 by decide)
    have f6 : ∀ (j : Int) (q : Prop) [Decidable q], (fits64 j || fits64 (if q then 1 else 0)) = true := fun j q _ => by
      by_cases h : q <;> simp only [h, if_true, if_false] <;> rw [Bool.or_eq_true] <;> exact .inr (by decide)
    refine ⟨.lst [.int ((if x < 0 then -x else x) * (if decide ((10 : Int) ^ 18 ≤ if x < 0 then -x else x) = true then 1 else 0)), .int (x % 2147483629 + 7919 * k + 11), .int 0], ⟨_, _, _, rfl, by omega, by omega, by omega, by omega⟩, ?_⟩
    simp [irBox, evSs, evS, evE, evEs, evT, readR, readRs, takeR, takeRs, Sv.bound, cmpD, binD, biD, f4, f5, f6, lim, -Bool.or_eq_true]
  have hf : irBox = irBox.take 2 ++ irBox.drop 2 := rfl
  have go : ∀ x : Int, evSs F Ld W (irBox.take 2) [.sh (.scr ns), .sh (.int k), .no] = some (.nx, [.sh (.scr ns), .sh (.int k), .sh (.int x)]) → ∃ b, runF F Ld W ⟨2, 3, irBox⟩ [.sh (.scr ns), .sh (.int k)] = some (.new b, none) ∧ Bx 0 b := by
    intro x hx
    obtain ⟨b, q1, q2⟩ := key x
    refine ⟨b, ?_, q1⟩
    exact runF_rt (f := ⟨2, 3, irBox⟩) (as := [.sh (.scr ns), .sh (.int k)]) rfl rfl ((evSs_cut F Ld W 2 irBox _ _ hx).trans q2)
  by_cases hlt : k < (ns.length : Int)
  · have hi : k.toNat < ns.length := by omega
    refine go ns[k.toNat] ?_
    simp [irBox, evSs, evS, evE, evEs, evT, readR, readRs, takeR, takeRs, Sv.bound, settleR, bindR, mayBind, slOf, cmpD, biD, ixD, atI, ixN, hlt, h0, hi]
  · refine go 0 ?_
    simp [irBox, evSs, evS, evE, evEs, evT, readR, readRs, takeR, takeRs, Sv.bound, settleR, bindR, mayBind, slOf, cmpD, biD, hlt]
end Sv

namespace Sv
open PySem PySem.Spec PyProof.Rows L2
mutual
def pl : D → Bool
  | .non => true
  | .bl _ => true
  | .int _ => true
  | .str _ => true
  | .tup ds => decide (ds.length ≤ 1000000) && pls ds
  | .lst ds => decide (ds.length ≤ 1000000) && pls ds
  | _ => false
def pls : List D → Bool
  | [] => true
  | d :: ds => pl d && pls ds
end
theorem pls_mem : ∀ {ds : List D} {d : D}, pls ds = true → d ∈ ds → pl d = true
  | e :: ds, d, h, hm => by
    simp only [pls, Bool.and_eq_true] at h
    rcases List.mem_cons.1 hm with rfl | hm
    · exact h.1
    · exact pls_mem h.2 hm
theorem depL_mem : ∀ {ds : List D} {d : D}, d ∈ ds → dep d ≤ depL ds
  | e :: ds, d, hm => by
    simp only [depL]
    rcases List.mem_cons.1 hm with rfl | hm
    · omega
    · have := depL_mem hm; omega
theorem ev_comp {F : Nat → Fn} {Ld : Nat → Bool} {e : E} {t : Tg} {it : I} {cs : List T} {vs : List Nat} {Γ Γ1 Γe : Gm} {ds out : List D} (h1 : evI F Ld it Γ = some (ds, Γ1)) (h2 : notIo Γ1 vs = true) (h3 : compL vs (bindT t) (evCs F Ld cs) (fun Γ => match evE F Ld e Γ with
          | none => none
          | some (r, Γ') => takeR r Γ') ds [] (wipeG Γ1 vs) = some (out, Γe)) : evE F Ld (.comp e t it cs vs) Γ = some (.new (.lst out), restore Γ1 Γe vs) := by
  simp only [evE, h1, h2, if_true]
  split
  · next h => cases h3.symm.trans h
  · next h => cases h3.symm.trans h; rfl
theorem ev_for {F : Nat → Fn} {Ld : Nat → Bool} {W : Nat} {t : Tg} {it : I} {b : List S} {Γ Γ1 : Gm} {ds : List D} {q : Option (Fl × Gm)} (h1 : evI F Ld it Γ = some (ds, Γ1)) (h2 : forL (bindT t) (evSs F Ld W b) ds Γ1 = q) : evS F Ld W (.frr t it b) Γ = q := by
  simp only [evS, h1, h2]
def SameAt (f : Fn) (m : Nat) : Prop := ∀ d, pl d = true → dep d < m → f [.sh d, .sh d] = some (.val (.bl true), none)
def irSame (s : Nat) : List S := [
    .iff (.val (.isi (.var 1) [.list, .tuple])) [.iff (.orr (.val (.cmp .ne (.isi (.var 0) [.list]) (.isi (.var 1) [.list]))) (.val (.cmp .ne (.isi (.var 0) [.tuple]) (.isi (.var 1) [.tuple])))) [.ret (some (.cst (.bl false)))] [], .ret (some (.an (.cmp .eq (.bi .len [(.var 0)]) (.bi .len [(.var 1)])) (.bi .all [(.comp (.call s [(.var 2), (.var 3)]) (.tp [(.nm 2), (.nm 3)]) (.zip (.var 0) (.var 1)) [] [2, 3])])))] [],
    .iff (.orr (.val (.cmp .is (.var 1) (.cst .non))) (.val (.isi (.var 1) [.str]))) [.ret (some (.an (.cmp .eq (.var 0) (.var 1)) (.cmp .eq (.isi (.var 0) [.str]) (.isi (.var 1) [.str]))))] [],
    .ret (some (.an (.isi (.var 0) [.int]) (.an (.cmp .eq (.isi (.var 0) [.bool]) (.isi (.var 1) [.bool])) (.cmp .eq (.var 0) (.var 1)))))]
theorem zip_self (ds : List D) : zipD ds ds = ds.map fun d => .tup [d, d] := by
  unfold zipD
  rw [List.zip_eq_zipWith, List.map_zipWith, List.zipWith_self]
theorem bools_true (ds : List D) : boolsOf (ds.map fun _ => D.bl true) = some (ds.map fun _ => true) := by
  induction ds with
  | nil => rfl
  | cons d ds ih => simp [boolsOf, ih]
theorem same_fn (F : Nat → Fn) (Ld : Nat → Bool) (W s m : Nat) (hs : SameAt (F s) m) (hl : Ld s = false) : SameAt (runF F Ld W ⟨2, 4, irSame s⟩) (m + 1) := by
  intro d hp hd
  have seq : ∀ (ds : List D) (x : D), ds.length ≤ 1000000 → pls ds = true → depL ds < m → compL [2, 3] (bindT (.tp [.nm 2, .nm 3])) (evCs F Ld []) (fun Γ => match evE F Ld (.call s [(.var 2), (.var 3)]) Γ with
          | none => none
          | some (r, Γ') => takeR r Γ') (zipD ds ds) [] [.sh x, .sh x, .no, .no] = some (ds.map fun _ => .bl true, [.sh x, .sh x, .no, .no]) := by
    intro ds x h1 h2 h3
    rw [zip_self, compL_map (f := fun _ => .bl true)]
    · simp
    · intro e he
      obtain ⟨d, hm, rfl⟩ := List.mem_map.1 he
      refine ⟨[.sh x, .sh x, .sh d, .sh d], [.sh x, .sh x, .sh d, .sh d], [.sh x, .sh x, .sh d, .sh d], ?_, rfl, ?_, rfl⟩
      · simp [bindT, bindTs, bindR, mayBind, slOf]
      · simp [evE, evEs, Sv.bound, callE, hl, takeRs, takeR, hs d (pls_mem h2 hm) (Nat.lt_of_le_of_lt (depL_mem hm) h3), notSlot]
    · simpa using h1
  have cmp : ∀ (ds : List D) (x : D), bothSeq x x = some (ds, ds) → ds.length ≤ 1000000 → pls ds = true → depL ds < m → evE F Ld (.comp (.call s [(.var 2), (.var 3)]) (.tp [(.nm 2), (.nm 3)]) (.zip (.var 0) (.var 1)) [] [2, 3]) [.sh x, .sh x, .no, .no] = some (.new (.lst (ds.map fun _ => .bl true)), [.sh x, .sh x, .no, .no]) := by
    intro ds x hb h1 h2 h3
    exact ev_comp (ds := zipD ds ds) (Γ1 := [.sh x, .sh x, .no, .no]) (by simp [evI, evE, Sv.bound, takeRs, takeR, hb]) rfl (seq ds x h1 h2 h3)
  cases d with
  | non => simp [runF, irSame, evSs, evS, evE, evEs, evT, readR, takeR, Sv.bound, isiD, isi1, noT, cmpD, isNon, dep, eqD, ioOut]
  | bl b => simp [runF, irSame, evSs, evS, evE, evEs, evT, readR, takeR, Sv.bound, isiD, isi1, noT, cmpD, isNon, dep, eqD, ioOut]
  | int b => simp [runF, irSame, evSs, evS, evE, evEs, evT, readR, takeR, Sv.bound, isiD, isi1, noT, cmpD, isNon, dep, eqD, ioOut]
  | str b => simp [runF, irSame, evSs, evS, evE, evEs, evT, readR, takeR, Sv.bound, isiD, isi1, noT, cmpD, isNon, dep, eqD, ioOut]
  | tup ds =>
    simp only [pl, Bool.and_eq_true, decide_eq_true_eq] at hp
    simp only [dep] at hd
    have h1 := cmp ds (.tup ds) rfl hp.1 hp.2 (by omega)
    have h2 := bools_true ds
    simp [runF, irSame, evSs, evS, evE, evEs, evT, ↓h1, h2, readR, readRs, Sv.bound, isiD, isi1, noT, cmpD, dep, eqD, ioOut, biD]
  | lst ds =>
    simp only [pl, Bool.and_eq_true, decide_eq_true_eq] at hp
    simp only [dep] at hd
    have h1 := cmp ds (.lst ds) rfl hp.1 hp.2 (by omega)
    have h2 := bools_true ds
    simp [runF, irSame, evSs, evS, evE, evEs, evT, ↓h1, h2, readR, readRs, Sv.bound, isiD, isi1, noT, cmpD, dep, eqD, ioOut, biD]
  | _ => cases hp
theorem Prg.ft {p : Prg} {W n i : Nat} {d : DefI} (h : p.defs[i]? = some d) : p.FT W (n + 1) i = runF (p.FT W n) p.ld W ⟨d.ps.length, d.N.length, d.ir⟩ := by
  simp only [Prg.FT]
  rw [h]
end Sv

namespace Sv
open PySem PySem.Spec PyProof.Rows L2
def abc : Str := ("abcdefghijklmnopqrstuvwxyz" : Str)
theorem abc_cps : abc.cps.toList = (List.range 26).map fun (k : Nat) => 97 + k := by decide +kernel
def isL (c : Nat) : Prop := 97 ≤ c ∧ c ≤ 122
def chD (c : Nat) : D := .str ⟨#[c]⟩
theorem abc_at {r : Int} (h0 : 0 ≤ r) (h1 : r < 26) : ∃ c, isL c ∧ ixD (.str abc) (.int r) = some (chD c) := by
  refine ⟨97 + r.toNat, ⟨by omega, by omega⟩, ?_⟩
  have hl : abc.length ≤ lim := by decide +kernel
  have e : atI abc.cps.toList r = some (97 + r.toNat) := by
    rw [abc_cps]
    unfold atI
    have : ixN ((List.range 26).map fun (k : Nat) => 97 + k).length r = some r.toNat := by
      unfold ixN
      simp [h0, h1]
    rw [this]
    have lt : r.toNat < 26 := by omega
    simp [lt]
  simp only [ixD, hl, if_true, e]
  rfl
theorem strs_ch (cs : List Nat) : strsOf (cs.map chD) = some (cs.map fun c => (⟨#[c]⟩ : Str)) := by
  induction cs with
  | nil => rfl
  | cons c cs ih => simp [strsOf, chD, ih]
theorem join_ch : ∀ (cs : List Nat), Str.join Str.empty (cs.map fun c => (⟨#[c]⟩ : Str)) = ⟨cs.toArray⟩
  | [] => rfl
  | [c] => rfl
  | c :: d :: cs => by
    have := join_ch (d :: cs)
    simp only [List.map_cons] at this ⊢
    unfold Str.join
    rw [this]
    show (⟨(#[c] ++ #[]) ++ (d :: cs).toArray⟩ : Str) = _
    simp
theorem joinD_ch (cs : List Nat) (h : cs.length ≤ 1000) : joinD Str.empty (.lst (cs.map chD)) = some ⟨cs.toArray⟩ := by
  simp only [joinD, strs_ch]
  rw [if_pos, join_ch]
  have : ((cs.map fun c => (⟨#[c]⟩ : Str)).map (·.length)).sum = cs.length := by
    clear h
    induction cs with
    | nil => rfl
    | cons c cs ih => simp only [List.map_cons, List.sum_cons, ih, List.length_cons]; show 1 + _ = _; omega
  rw [this]
  show cs.length + _ * 0 ≤ 1000000
  omega
def okS (s : Sl) : Prop := s = .no ∨ ∃ d, s = .sh d
def comp1 (tk : Nat) : E := .comp (.ix (.var 2) (.call tk [(.var 0), (.cst (.int (26)))])) (.nm 6) (.rng [(.ix (.lst [(.cst (.int (1))), (.cst (.int (1))), (.cst (.int (2))), (.cst (.int (6)))]) (.call tk [(.var 0), (.cst (.int (4)))]))]) [] [6]
def comp3 : E := .comp (.bin .add (.sl (.var 5) none (some (.cst (.int (5))))) (.var 8)) (.nm 8) (.seq (.var 2)) [] [8]
def comp2 : E := .comp (.var 7) (.nm 7) (.seq (.bin .add (.lst [(.var 5)]) comp3)) [(.val (.cmp .nin (.var 7) (.var 3)))] [7]
def bodyN (tk : Nat) : List S := [.set 5 (.jn (.cst (.str ("" : Str))) (comp1 tk)), .ex (.app (.var 3) (.ix comp2 (.cst (.int (0)))))]
def irNames (tk : Nat) : List S := [
    .par [2, 3] [(.cst (.str ("abcdefghijklmnopqrstuvwxyz" : Str))), (.lst [])],
    .frr (.nm 4) (.rng [(.var 1)]) (bodyN tk),
    .ret (some (.var 3))]
section
variable {F : Nat → Fn} {Ld : Nat → Bool} {W tk : Nat}
theorem comp1_ok (ht : TakeFn (F tk)) (hl : Ld tk = true) {b : D} {c : Int} {m s3 s4 s5 s7 s8 : Sl} (hb : Bx c b) (hc : c ≤ 900000) :
    ∃ (cs : List Nat) (b' : D), evE F Ld (comp1 tk) [.io b, m, .sh (.str abc), s3, s4, s5, .no, s7, s8] = some (.new (.lst (cs.map chD)), [.io b', m, .sh (.str abc), s3, s4, s5, .no, s7, s8]) ∧ Bx (c + 7) b' ∧ 1 ≤ cs.length ∧ cs.length ≤ 6 ∧ ∀ c ∈ cs, isL c := by
  obtain ⟨r, b1, e1, r0, r1, hb1⟩ := ht c 4 b hb (by omega) (by decide) (by decide)
  have hq : ∃ q : Int, ixD (.lst [.int 1, .int 1, .int 2, .int 6]) (.int r) = some (.int q) ∧ 1 ≤ q ∧ q ≤ 6 := by
    have : r = 0 ∨ r = 1 ∨ r = 2 ∨ r = 3 := by omega
    rcases this with rfl | rfl | rfl | rfl
    · exact ⟨1, rfl, by decide, by decide⟩
    · exact ⟨1, rfl, by decide, by decide⟩
    · exact ⟨2, rfl, by decide, by decide⟩
    · exact ⟨6, rfl, by decide, by decide⟩
  obtain ⟨q, eq, q1, q2⟩ := hq
  have hI : evI F Ld (.rng [(.ix (.lst [(.cst (.int (1))), (.cst (.int (1))), (.cst (.int (2))), (.cst (.int (6)))]) (.call tk [(.var 0), (.cst (.int (4)))]))]) [.io b, m, .sh (.str abc), s3, s4, s5, .no, s7, s8] = some (rangeD 0 q.toNat, [.io b1, m, .sh (.str abc), s3, s4, s5, .no, s7, s8]) := by
    have sm : small62 q = true := by simp only [small62, Bool.and_eq_true, decide_eq_true_eq]; omega
    simp [evI, evEs, evE, takeRs, takeR, lim, callE, Sv.bound, hl, ownAt, e1, notSlot, setOwn, readR, eq, readRs, rngD, sm]
  have step : ∀ d ∈ rangeD 0 q.toNat, ∀ (acc : List D) (Γ : Gm), (∃ (b : D) (cs : List Nat), Γ = [.io b, m, .sh (.str abc), s3, s4, s5, .no, s7, s8] ∧ acc = cs.map chD ∧ Bx (c + 1 + acc.length) b ∧ ∀ c ∈ cs, isL c) → acc.length < q.toNat → ∃ Γ1 Γ2 e Γ3, bindT (.nm 6) d Γ = some Γ1 ∧ evCs F Ld [] Γ1 = some (true, Γ2) ∧ (match evE F Ld (.ix (.var 2) (.call tk [(.var 0), (.cst (.int (26)))])) Γ2 with
          | none => none
          | some (r, Γ') => takeR r Γ') = some (e, Γ3) ∧ ∃ (b : D) (cs : List Nat), wipeG Γ3 [6] = [.io b, m, .sh (.str abc), s3, s4, s5, .no, s7, s8] ∧ acc ++ [e] = cs.map chD ∧ Bx (c + 1 + (acc ++ [e]).length) b ∧ ∀ c ∈ cs, isL c := by
    intro d hd acc Γ ⟨b, cs, eΓ, eo, hB, hC⟩ hlt
    obtain ⟨r', b', e', r0', r1', hB'⟩ := ht _ 26 b hB (by omega) (by decide) (by decide)
    obtain ⟨ch, hL, hch⟩ := abc_at r0' r1'
    refine ⟨_, _, chD ch, [.io b', m, .sh (.str abc), s3, s4, s5, .sh d, s7, s8], by rw [eΓ]; rfl, rfl, ?_, b', cs ++ [ch], rfl, by simp [eo], ?_, ?_⟩
    · simp [evE, evEs, Sv.bound, callE, hl, takeRs, takeR, ownAt, e', notSlot, setOwn, readR, hch]
    · refine hB'.mono ?_
      simp
      omega
    · intro x hx
      rcases List.mem_append.1 hx with hx | hx
      · exact hC x hx
      · rw [List.mem_singleton.1 hx]; exact hL
  obtain ⟨out, Γe, p1, ⟨b2, cs, eΓ, eo, hb2, hcs⟩, p3⟩ := compL_inv (L := q.toNat) (by omega) (rangeD 0 q.toNat) [] [.io b1, m, .sh (.str abc), s3, s4, s5, .no, s7, s8] step ⟨b1, [], rfl, rfl, by simpa using hb1, fun _ h => by cases h⟩ (by simp [rangeD])
  have hn : out.length = q.toNat := by rw [p3]; simp [rangeD]
  refine ⟨cs, b2, ?_, hb2.mono (by omega), ?_, ?_, hcs⟩
  · subst eΓ eo
    exact ev_comp (F := F) (Ld := Ld) hI (vs := [6]) rfl p1
  · rw [eo, List.length_map] at hn
    omega
  · rw [eo, List.length_map] at hn
    omega
end
end Sv

namespace Sv
open PySem PySem.Spec PyProof.Rows L2
def okN (s : Str) : Prop := 1 ≤ s.length ∧ s.length ≤ 6 ∧ ∀ c ∈ s.cps.toList, isL c
def cand (w : Str) (c : Nat) : Str := ⟨(w.cps.toList.take 5).toArray ++ #[c]⟩
def cands (w : Str) : List Str := w :: ((List.range 26).map fun (k : Nat) => 97 + k).map (cand w)
theorem cand_inj {w : Str} {c d : Nat} (h : cand w c = cand w d) : c = d := by
  unfold cand at h
  have := congrArg (fun s : Str => s.cps.toList) h
  simp at this
  exact this
theorem cands_ok {w : Str} (hw : okN w) : ∀ x ∈ cands w, okN x := by
  intro x hx
  rcases List.mem_cons.1 hx with rfl | hx
  · exact hw
  · obtain ⟨c, hc, rfl⟩ := List.mem_map.1 hx
    obtain ⟨k, hk, rfl⟩ := List.mem_map.1 hc
    have hk := List.mem_range.1 hk
    refine ⟨?_, ?_, fun d hd => ?_⟩
    · show 1 ≤ ((w.cps.toList.take 5).toArray ++ #[97 + k]).size
      simp
    · show ((w.cps.toList.take 5).toArray ++ #[97 + k]).size ≤ 6
      simp
      omega
    · have : d ∈ w.cps.toList.take 5 ∨ d = 97 + k := by simpa [cand] using hd
      rcases this with h | h
      · exact hw.2.2 d (List.mem_of_mem_take h)
      · subst h; exact ⟨by omega, by omega⟩
theorem cands_new (w : Str) (ss : List Str) (h : ss.length < 26) : ∃ x ∈ cands w, x ∉ ss := by
  apply Classical.byContradiction
  intro hn
  have hall : ∀ x ∈ cands w, x ∈ ss := fun x hx => Classical.byContradiction fun h => hn ⟨x, hx, h⟩
  have nd : ((List.range 26).map fun (k : Nat) => 97 + k).Nodup := by decide
  have nd2 : (((List.range 26).map fun (k : Nat) => 97 + k).map (cand w)).Nodup := by
    rw [List.nodup_iff_pairwise_ne, List.pairwise_map]
    exact (List.nodup_iff_pairwise_ne.1 nd).imp fun hne e => hne (cand_inj e)
  have := nodup_le _ ss nd2 fun x hx => hall x (List.mem_cons_of_mem _ hx)
  simp at this
  omega
section
variable {F : Nat → Fn} {Ld : Nat → Bool} {W tk : Nat}
theorem comp3_ok {w : Str} (hw : w.length ≤ 1000) {s0 s1 s3 s4 s6 s7 : Sl} : evE F Ld comp3 [s0, s1, .sh (.str abc), s3, s4, .sh (.str w), s6, s7, .no] = some (.new (.lst ((((List.range 26).map fun (k : Nat) => 97 + k).map (cand w)).map .str)), [s0, s1, .sh (.str abc), s3, s4, .sh (.str w), s6, s7, .no]) := by
  have hl : w.length ≤ lim := Nat.le_trans hw (by decide)
  have es : signs abc = ((List.range 26).map fun (k : Nat) => 97 + k).map chD := by
    unfold signs
    rw [abc_cps]
    rfl
  refine ev_comp (ds := signs abc) (Γ1 := [s0, s1, .sh (.str abc), s3, s4, .sh (.str w), s6, s7, .no]) (Γe := [s0, s1, .sh (.str abc), s3, s4, .sh (.str w), s6, s7, .no]) (by simp [evI, evE, Sv.bound, takeR, seqD]) rfl ?_
  have hm := compL_map (vs := [8]) (fg := bindT (.nm 8)) (ft := evCs F Ld []) (fe := fun Γ => match evE F Ld (.bin .add (.sl (.var 5) none (some (.cst (.int (5))))) (.var 8)) Γ with
          | none => none
          | some (r, Γ') => takeR r Γ') (f := fun d => match d with | .str x => .str (⟨(w.cps.toList.take 5).toArray⟩ ++ x) | d => d) (Γ := [s0, s1, .sh (.str abc), s3, s4, .sh (.str w), s6, s7, .no]) (signs abc) ?_ (by rw [es]; simp)
  · refine hm.trans ?_
    rw [es, List.map_map, List.map_map]
    rfl
  · intro d hd
    rw [es] at hd
    obtain ⟨c, hc, rfl⟩ := List.mem_map.1 hd
    refine ⟨[s0, s1, .sh (.str abc), s3, s4, .sh (.str w), s6, s7, .sh (chD c)], [s0, s1, .sh (.str abc), s3, s4, .sh (.str w), s6, s7, .sh (chD c)], [s0, s1, .sh (.str abc), s3, s4, .sh (.str w), s6, s7, .sh (chD c)], rfl, rfl, ?_, rfl⟩
    have hc1 : cutD w.cps.toList none (some 5) = w.cps.toList.take 5 := by
      unfold cutD
      show (w.cps.toList.drop 0).take (min 5 w.cps.toList.length - 0) = _
      rw [List.drop_zero, Nat.sub_zero, List.take_eq_take_min]
      simp
    have h2 : (⟨(w.cps.toList.take 5).toArray⟩ : Str).length + (⟨#[c]⟩ : Str).length ≤ lim := by
      show (w.cps.toList.take 5).toArray.size + 1 ≤ 1000000
      simp
      omega
    simp [evE, evO, Sv.bound, readR, slD, hl, hc1, chD, binD, h2, takeR]
theorem dep_strs (ss : List Str) : dep (.lst (ss.map .str)) ≤ 64 := by
  have : depL (ss.map .str) = 0 := by
    induction ss with
    | nil => rfl
    | cons s ss ih => simp [depL, dep, ih]
  simp [dep, this]
theorem inD_strs (x : Str) (ss : List Str) : inD (.str x) (ss.map .str) = decide (x ∈ ss) := by
  induction ss with
  | nil => rfl
  | cons s ss ih =>
    unfold inD at ih ⊢
    rw [List.map_cons, List.any_cons, ih]
    simp only [eqD, List.mem_cons]
    by_cases h : s = x
    · simp [h]
    · simp [h, Ne.symm h, show ¬ x = s from fun e => h e.symm]
theorem comp2_ok {w : Str} {ss : List Str} (hw : w.length ≤ 1000) {s0 s1 s4 s6 : Sl} : evE F Ld comp2 [s0, s1, .sh (.str abc), .ow (.lst (ss.map .str)), s4, .sh (.str w), s6, .no, .no] = some (.new (.lst (((cands w).filter fun x => decide (x ∉ ss)).map .str)), [s0, s1, .sh (.str abc), .ow (.lst (ss.map .str)), s4, .sh (.str w), s6, .no, .no]) := by
  have h3 := comp3_ok (F := F) (Ld := Ld) hw (s0 := s0) (s1 := s1) (s3 := .ow (.lst (ss.map .str))) (s4 := s4) (s6 := s6) (s7 := .no)
  refine ev_comp (ds := (cands w).map .str) (Γ1 := [s0, s1, .sh (.str abc), .ow (.lst (ss.map .str)), s4, .sh (.str w), s6, .no, .no]) (Γe := [s0, s1, .sh (.str abc), .ow (.lst (ss.map .str)), s4, .sh (.str w), s6, .no, .no]) ?_ rfl ?_
  · simp [evI, evE, evEs, ↓h3, Sv.bound, takeR, takeRs, lim, readR, binD, seqD, cands]
  · have hm := compL_pure (vs := [7]) (fg := bindT (.nm 7)) (ft := evCs F Ld [(.val (.cmp .nin (.var 7) (.var 3)))]) (fe := fun Γ => match evE F Ld (.var 7) Γ with
          | none => none
          | some (r, Γ') => takeR r Γ') (p := fun d => !inD d (ss.map .str)) (f := id) (Γ := [s0, s1, .sh (.str abc), .ow (.lst (ss.map .str)), s4, .sh (.str w), s6, .no, .no]) ((cands w).map .str) [] ?_ (by simp [cands])
    · refine hm.trans ?_
      rw [List.nil_append, List.map_id, List.filter_map]
      congr 5
      funext x
      simp [inD_strs]
    · intro d hd
      obtain ⟨x, hx, rfl⟩ := List.mem_map.1 hd
      have hd := dep_strs ss
      refine ⟨[s0, s1, .sh (.str abc), .ow (.lst (ss.map .str)), s4, .sh (.str w), s6, .sh (.str x), .no], [s0, s1, .sh (.str abc), .ow (.lst (ss.map .str)), s4, .sh (.str w), s6, .sh (.str x), .no], rfl, ?_, fun _ => rfl, fun _ => ⟨[s0, s1, .sh (.str abc), .ow (.lst (ss.map .str)), s4, .sh (.str w), s6, .sh (.str x), .no], ?_, rfl⟩⟩
      · have hx0 : dep (.str x) ≤ 64 := by simp [dep]
        simp [evCs, evT, evE, Sv.bound, readR, cmpD, memD, hx0, hd]
        cases inD (.str x) (ss.map .str) <;> rfl
      · simp [evE, Sv.bound, takeR]
theorem step_ok (ht : TakeFn (F tk)) (hl : Ld tk = true) {b : D} {c : Int} {m s5 : Sl} {d : D} {ss : List Str} (hb : Bx c b) (hc : c ≤ 900000) (h5 : okS s5) (hs : ss.length < 26) :
    ∃ b' w x, evSs F Ld W (bodyN tk) [.io b, m, .sh (.str abc), .ow (.lst (ss.map .str)), .sh d, s5, .no, .no, .no] = some (.nx, [.io b', m, .sh (.str abc), .ow (.lst ((ss ++ [x]).map .str)), .sh d, .sh w, .no, .no, .no]) ∧ Bx (c + 7) b' ∧ x ∉ ss ∧ okN x := by
  obtain ⟨cs, b', e1, hb', l1, l2, hL⟩ := comp1_ok (F := F) (Ld := Ld) ht hl (m := m) (s3 := .ow (.lst (ss.map .str))) (s4 := .sh d) (s5 := s5) (s7 := .no) (s8 := .no) hb hc
  have hw : okN ⟨cs.toArray⟩ := ⟨by show 1 ≤ cs.toArray.size; simpa using l1, by show cs.toArray.size ≤ 6; simpa using l2, by simpa using hL⟩
  have hj := joinD_ch cs (by omega)
  have e2 := comp2_ok (F := F) (Ld := Ld) (w := ⟨cs.toArray⟩) (ss := ss) (by have := hw.2.1; omega) (s0 := .io b') (s1 := m) (s4 := .sh d) (s6 := .no)
  obtain ⟨y, hy, hyn⟩ := cands_new ⟨cs.toArray⟩ ss hs
  have hne : ∃ x r, ((cands ⟨cs.toArray⟩).filter fun x => decide (x ∉ ss)) = x :: r := by
    cases hf : ((cands ⟨cs.toArray⟩).filter fun x => decide (x ∉ ss)) with
    | nil =>
      have : y ∈ ((cands ⟨cs.toArray⟩).filter fun x => decide (x ∉ ss)) := List.mem_filter.2 ⟨hy, by simpa using hyn⟩
      rw [hf] at this
      cases this
    | cons x r => exact ⟨x, r, rfl⟩
  obtain ⟨x, r, hx⟩ := hne
  have hxm : x ∈ ((cands ⟨cs.toArray⟩).filter fun x => decide (x ∉ ss)) := by rw [hx]; exact List.mem_cons_self
  have hxm := List.mem_filter.1 hxm
  refine ⟨b', .str ⟨cs.toArray⟩, x, ?_, hb', by simpa using hxm.2, cands_ok hw x hxm.1⟩
  rw [hx] at e2
  have hb5 : mayBind [.io b', m, .sh (.str abc), .ow (.lst (ss.map .str)), .sh d, s5, .no, .no, .no] 5 = true := by
    rcases h5 with rfl | ⟨d, rfl⟩ <;> rfl
  have hs2 : ss.length < 1000000 := by omega
  have he : ("" : Str) = Str.empty := rfl
  simp [bodyN, evSs, evS, evE, ↓e1, ↓e2, readR, he, hj, settleR, bindR, hb5, slOf, Sv.bound, ownAt, ixD, atI, ixN, takeR, hs2, setOwn]
end
end Sv

namespace Sv
open PySem PySem.Spec PyProof.Rows L2
def NamesFn (f : Fn) : Prop := ∀ (c : Int) (m : Nat) (b : D), Bx c b → c ≤ 800000 → m ≤ 25 → ∃ (ss : List Str) (b' : D), f [.io b, .sh (.int m)] = some (.new (.lst (ss.map .str)), some b') ∧ ss.length = m ∧ ss.Nodup ∧ (∀ s ∈ ss, okN s) ∧ Bx (c + 7 * m) b'
theorem rng_ev {F : Nat → Fn} {Ld : Nat → Bool} {q : Int} {Γ : Gm} {e : E} {r : Rs} {Γ1 : Gm} (h : evE F Ld e Γ = some (r, Γ1)) (hr : readR r Γ1 = some (.int q)) (sm : small62 q = true) : evI F Ld (.rng [e]) Γ = some (rangeD 0 q.toNat, Γ1) := by
  simp only [evI, evEs, h, readRs, hr, rngD, sm, if_true]
theorem names_run {F : Nat → Fn} {Ld : Nat → Bool} {W tk : Nat} {a b c d : Gm} {r : Rs} (ha : ("abcdefghijklmnopqrstuvwxyz" : Str) = abc) (h1 : evS F Ld W (.par [2, 3] [(.cst (.str abc)), (.lst [])]) a = some (.nx, b)) (hf : evS F Ld W (.frr (.nm 4) (.rng [(.var 1)]) (bodyN tk)) b = some (.nx, c)) (h3 : evS F Ld W (.ret (some (.var 3))) c = some (.rt r, d)) : evSs F Ld W (irNames tk) a = some (.rt r, d) := by
  unfold irNames
  rw [ha, evSs, h1]
  simp only
  rw [evSs, hf]
  simp only
  rw [evSs, h3]
theorem names_fn {F : Nat → Fn} {Ld : Nat → Bool} {W tk : Nat} (ht : TakeFn (F tk)) (hl : Ld tk = true) : NamesFn (runF F Ld W ⟨2, 9, irNames tk⟩) := by
  intro c m b hb hc hm
  have step : ∀ d ∈ rangeD 0 m, ∀ (i : Nat) (Γ : Gm), (i ≤ m ∧ ∃ (b : D) (s4 s5 : Sl) (ss : List Str), Γ = [.io b, .sh (.int m), .sh (.str abc), .ow (.lst (ss.map .str)), s4, s5, .no, .no, .no] ∧ okS s4 ∧ okS s5 ∧ ss.length = i ∧ ss.Nodup ∧ (∀ s ∈ ss, okN s) ∧ Bx (c + 7 * i) b) → i < m →
      ∃ Γ1 Γ2, bindT (.nm 4) d Γ = some Γ1 ∧ evSs F Ld W (bodyN tk) Γ1 = some (.nx, Γ2) ∧ (i + 1 ≤ m ∧ ∃ (b : D) (s4 s5 : Sl) (ss : List Str), Γ2 = [.io b, .sh (.int m), .sh (.str abc), .ow (.lst (ss.map .str)), s4, s5, .no, .no, .no] ∧ okS s4 ∧ okS s5 ∧ ss.length = i + 1 ∧ ss.Nodup ∧ (∀ s ∈ ss, okN s) ∧ Bx (c + 7 * ((i + 1 : Nat) : Int)) b) := by
    intro d hd i Γ ⟨hi, b, s4, s5, ss, eΓ, h4, h5, hlen, hnd, hok, hB⟩ hlt
    obtain ⟨b', w, x, e1, hB', hx, hxo⟩ := step_ok (F := F) (Ld := Ld) (W := W) ht hl (m := .sh (.int m)) (d := d) (ss := ss) hB (by omega) h5 (by omega)
    refine ⟨_, _, ?_, e1, by omega, b', .sh d, .sh w, ss ++ [x], rfl, .inr ⟨_, rfl⟩, .inr ⟨_, rfl⟩, by simp [hlen], ?_, ?_, hB'.mono (by omega)⟩
    · rw [eΓ]
      rcases h4 with rfl | ⟨d, rfl⟩ <;> rfl
    · rw [List.nodup_append]
      refine ⟨hnd, by simp, fun a ha b hb e => ?_⟩
      rw [List.mem_singleton] at hb
      subst hb e
      exact hx ha
    · intro s hs
      rcases List.mem_append.1 hs with hs | hs
      · exact hok s hs
      · rw [List.mem_singleton.1 hs]; exact hxo
  obtain ⟨Γe, q1, _, b', s4, s5, ss, eΓ, _, _, hlen, hnd, hok, hB⟩ := forL_invL (L := m) (rangeD 0 m) 0 [.io b, .sh (.int m), .sh (.str abc), .ow (.lst (([] : List Str).map .str)), .no, .no, .no, .no, .no] step ⟨by omega, b, .no, .no, [], rfl, .inl rfl, .inl rfl, rfl, .nil, fun _ h => (by cases h), by simpa using hb⟩ (by simp [rangeD])
  subst eΓ
  rw [List.map_nil] at q1
  have hn : (rangeD 0 m).length = m := by simp [rangeD]
  rw [hn, Nat.zero_add] at hlen hB
  refine ⟨ss, b', ?_, hlen, hnd, hok, hB⟩
  have sm : small62 (m : Int) = true := by simp only [small62, Bool.and_eq_true, decide_eq_true_eq]; omega
  have hf : evS F Ld W (.frr (.nm 4) (.rng [(.var 1)]) (bodyN tk)) [.io b, .sh (.int m), .sh (.str abc), .ow (.lst []), .no, .no, .no, .no, .no] = some (.nx, [.io b', .sh (.int m), .sh (.str abc), .ow (.lst (ss.map .str)), s4, s5, .no, .no, .no]) := by
    refine ev_for (ds := rangeD 0 m) (Γ1 := [.io b, .sh (.int m), .sh (.str abc), .ow (.lst []), .no, .no, .no, .no, .no]) ?_ q1
    have := rng_ev (F := F) (Ld := Ld) (e := .var 1) (q := (m : Int)) (Γ := [.io b, .sh (.int m), .sh (.str abc), .ow (.lst []), .no, .no, .no, .no, .no]) (r := .slot 1) rfl rfl sm
    rw [Int.toNat_natCast] at this
    exact this
  have ha : ("abcdefghijklmnopqrstuvwxyz" : Str) = abc := by rw [abc]
  clear step q1 sm
  have h1 : evS F Ld W (.par [2, 3] [(.cst (.str abc)), (.lst [])]) [.io b, .sh (.int m), .no, .no, .no, .no, .no, .no, .no] = some (.nx, [.io b, .sh (.int m), .sh (.str abc), .ow (.lst []), .no, .no, .no, .no, .no]) := by
    generalize (m : Int) = q
    generalize abc = ab
    have : ([] : List D).length ≤ lim := Nat.zero_le _
    simp only [evS, evE, evEs, takeRs, this, if_true, settleRs, settleR, bindRs, bindR, mayBind, slOf]
    rfl
  have h3 : evS F Ld W (.ret (some (.var 3))) [.io b', .sh (.int m), .sh (.str abc), .ow (.lst (ss.map .str)), s4, s5, .no, .no, .no] = some (.rt (.new (.lst (ss.map .str))), [.io b', .sh (.int m), .sh (.str abc), .no, s4, s5, .no, .no, .no]) := by
    generalize (m : Int) = q
    generalize abc = ab
    rfl
  have h4 : evSs F Ld W (irNames tk) [.io b, .sh (.int m), .no, .no, .no, .no, .no, .no, .no] = some (.rt (.new (.lst (ss.map .str))), [.io b', .sh (.int m), .sh (.str abc), .no, s4, s5, .no, .no, .no]) := by
    exact names_run ha h1 hf h3
  exact runF_rt (f := ⟨2, 9, irNames tk⟩) (as := [.io b, .sh (.int m)]) rfl rfl h4
end Sv

namespace Sv
open PySem PySem.Spec PyProof.Rows L2
/-! found_in and its kin -/
def skp : List D → D → Nat
  | [], _ => 0
  | e :: es, x => if eqD e x then 0 else skp es x + 1
def fnd (es : List D) : List D → Nat → List Nat
  | [], _ => []
  | x :: w, k => if k + skp (es.drop k) x = es.length then [] else (k + skp (es.drop k) x) :: fnd es w (k + skp (es.drop k) x + 1)
def natD (n : Nat) : D := .int (n : Int)
theorem skp_le : ∀ (es : List D) (x : D), skp es x ≤ es.length
  | [], _ => Nat.le_refl _
  | e :: es, x => by
    simp only [skp, List.length_cons]
    split
    · omega
    · have := skp_le es x; omega
def wC : T := .an (.val (.cmp .lt (.var 3) (.bi .len [(.var 1)]))) (.val (.cmp .ne (.ix (.var 1) (.var 3)) (.var 4)))
def wB : List S := [.aug 3 .add (.cst (.int (1)))]
def fB : List S := [.whl wC wB, .iff (.val (.cmp .eq (.var 3) (.bi .len [(.var 1)]))) [.ret (some (.var 2))] [], .ex (.app (.var 2) (.var 3)), .aug 3 .add (.cst (.int (1)))]
def irFound : List S := [
    .par [2, 3] [(.lst []), (.cst (.int (0)))],
    .frr (.nm 4) (.seq (.var 0)) fB,
    .ret (some (.var 2))]
section
variable {F : Nat → Fn} {Ld : Nat → Bool} {W : Nat}
theorem wC_end {s0 s2 : Sl} {es : List D} {x : D} {q : Int} (h : ¬ q < (es.length : Int)) : evT F Ld wC [s0, .sh (.tup es), s2, .sh (.int q), .sh x] = some (false, [s0, .sh (.tup es), s2, .sh (.int q), .sh x]) := by
  simp [wC, evT, evE, evEs, Sv.bound, readR, readRs, biD, cmpD, h]
theorem wC_go {s0 s2 : Sl} {es : List D} {x e : D} {q : Int} (h0 : 0 ≤ q) (h : q < (es.length : Int)) (he : es[q.toNat]? = some e) (d1 : dep e ≤ 64) (d2 : dep x ≤ 64) : evT F Ld wC [s0, .sh (.tup es), s2, .sh (.int q), .sh x] = some (!eqD e x, [s0, .sh (.tup es), s2, .sh (.int q), .sh x]) := by
  have hix : ixD (.tup es) (.int q) = some e := by
    simp only [ixD, atI, ixN, h0, h, if_true]
    exact he
  simp [wC, evT, evE, evEs, Sv.bound, readR, readRs, biD, cmpD, h, hix, d1, d2]
theorem wB_go {s0 s1 s2 : Sl} {x : D} {q : Int} : evSs F Ld W wB [s0, s1, s2, .sh (.int q), .sh x] = some (.nx, [s0, s1, s2, .sh (.int (q + 1)), .sh x]) := by
  simp [wB, evSs, evS, evE, readR, augD, bindR, mayBind, slOf]
theorem whl_ok {s0 s2 : Sl} {es : List D} {x : D} (hd : ∀ e ∈ es, dep e ≤ 64) (hx : dep x ≤ 64) : ∀ (m k n : Nat), k + m = es.length → m < n → whileL (evT F Ld wC) (evSs F Ld W wB) n [s0, .sh (.tup es), s2, .sh (natD k), .sh x] = some (.nx, [s0, .sh (.tup es), s2, .sh (natD (k + skp (es.drop k) x)), .sh x])
  | 0, k, n + 1, hk, hn => by
    have e : es.drop k = [] := List.drop_eq_nil_of_le (by omega)
    rw [e]
    simp only [whileL, natD, wC_end (F := F) (Ld := Ld) (s0 := s0) (s2 := s2) (x := x) (es := es) (q := (k : Int)) (by omega), skp, Nat.add_zero]
  | m + 1, k, n + 1, hk, hn => by
    have lt : k < es.length := by omega
    have e : es.drop k = es[k] :: es.drop (k + 1) := List.drop_eq_getElem_cons lt
    have hc := wC_go (F := F) (Ld := Ld) (s0 := s0) (s2 := s2) (x := x) (es := es) (e := es[k]) (q := (k : Int)) (by omega) (by omega) (by simp [lt]) (hd _ (List.getElem_mem _)) hx
    rw [e, skp]
    cases hq : eqD es[k] x with
    | true =>
      rw [hq] at hc
      simp only [whileL, natD, hc, Bool.not_true, if_true, Nat.add_zero]
    | false =>
      rw [hq] at hc
      have ih := whl_ok (s0 := s0) (s2 := s2) hd hx m (k + 1) n (by omega) (by omega)
      have hb := wB_go (F := F) (Ld := Ld) (W := W) (s0 := s0) (s1 := .sh (.tup es)) (s2 := s2) (x := x) (q := (k : Int))
      simp only [natD] at ih ⊢
      simp only [whileL, hc, Bool.not_false, hb]
      have e1 : ((k : Int) + 1) = ((k + 1 : Nat) : Int) := by omega
      rw [e1, ih]
      have e2 : k + 1 + skp (es.drop (k + 1)) x = k + (skp (es.drop (k + 1)) x + 1) := by omega
      rw [e2]
      simp
theorem len_ev {s0 s2 s4 : Sl} {es : List D} {q : Int} : evT F Ld (.val (.cmp .eq (.var 3) (.bi .len [(.var 1)]))) [s0, .sh (.tup es), s2, .sh (.int q), s4] = some (q == (es.length : Int), [s0, .sh (.tup es), s2, .sh (.int q), s4]) := by
  simp [evT, evE, evEs, Sv.bound, readR, readRs, biD, cmpD, dep, eqD]
theorem app_ev {s0 s1 s4 : Sl} {fs : List D} {q : Int} (h : fs.length < 1000000) : evS F Ld W (.ex (.app (.var 2) (.var 3))) [s0, s1, .ow (.lst fs), .sh (.int q), s4] = some (.nx, [s0, s1, .ow (.lst (fs ++ [.int q])), .sh (.int q), s4]) := by
  simp [evS, evE, Sv.bound, ownAt, takeR, h, setOwn]
theorem aug_ev {s0 s1 s2 s4 : Sl} {q : Int} : evS F Ld W (.aug 3 .add (.cst (.int (1)))) [s0, s1, s2, .sh (.int q), s4] = some (.nx, [s0, s1, s2, .sh (.int (q + 1)), s4]) := by
  simp [evS, evE, readR, augD, bindR, mayBind, slOf]
theorem ret_ev {s0 s1 s3 s4 : Sl} {fs : List D} : evS F Ld W (.ret (some (.var 2))) [s0, s1, .ow (.lst fs), s3, s4] = some (.rt (.new (.lst fs)), [s0, s1, .no, s3, s4]) := by
  simp [evS, evE, Sv.bound]
theorem for_ok {s0 : Sl} {es : List D} (hW : es.length < W) (hd : ∀ e ∈ es, dep e ≤ 64) : ∀ (w fs : List D) (k : Nat) (s4 : Sl), okS s4 → (∀ e ∈ w, dep e ≤ 64) → k ≤ es.length → fs.length + w.length < 1000000 →
    ∃ s3 s4', forL (bindT (.nm 4)) (evSs F Ld W fB) w [s0, .sh (.tup es), .ow (.lst fs), .sh (natD k), s4] = some (.nx, [s0, .sh (.tup es), .ow (.lst (fs ++ (fnd es w k).map natD)), s3, s4']) ∨ forL (bindT (.nm 4)) (evSs F Ld W fB) w [s0, .sh (.tup es), .ow (.lst fs), .sh (natD k), s4] = some (.rt (.new (.lst (fs ++ (fnd es w k).map natD))), [s0, .sh (.tup es), .no, s3, s4'])
  | [], fs, k, s4, h4, _, hk, hl => ⟨_, _, .inl (by simp only [forL, fnd, List.map_nil, List.append_nil]; rfl)⟩
  | x :: w, fs, k, s4, h4, hw, hk, hl => by
    have hb : bindT (.nm 4) x [s0, .sh (.tup es), .ow (.lst fs), .sh (natD k), s4] = some [s0, .sh (.tup es), .ow (.lst fs), .sh (natD k), .sh x] := by
      rcases h4 with rfl | ⟨d, rfl⟩ <;> rfl
    have h1 := whl_ok (F := F) (Ld := Ld) (W := W) (s0 := s0) (s2 := .ow (.lst fs)) hd (hw x List.mem_cons_self) (es.length - k) k W (by omega) (by omega)
    have h1' : evS F Ld W (.whl wC wB) [s0, .sh (.tup es), .ow (.lst fs), .sh (natD k), .sh x] = _ := h1
    have h2 := len_ev (F := F) (Ld := Ld) (s0 := s0) (s2 := .ow (.lst fs)) (s4 := .sh x) (es := es) (q := ((k + skp (es.drop k) x : Nat) : Int))
    have hle := skp_le (es.drop k) x
    rw [List.length_drop] at hle
    simp only [List.length_cons] at hl
    by_cases he : k + skp (es.drop k) x = es.length
    · have hq : (((k + skp (es.drop k) x : Nat) : Int) == (es.length : Int)) = true := by rw [he]; simp
      rw [hq] at h2
      refine ⟨.sh (natD (k + skp (es.drop k) x)), .sh x, .inr ?_⟩
      have h3 := ret_ev (F := F) (Ld := Ld) (W := W) (s0 := s0) (s1 := .sh (.tup es)) (s3 := .sh (natD (k + skp (es.drop k) x))) (s4 := .sh x) (fs := fs)
      have h4 : evS F Ld W (.iff (.val (.cmp .eq (.var 3) (.bi .len [(.var 1)]))) [.ret (some (.var 2))] []) [s0, .sh (.tup es), .ow (.lst fs), .sh (natD (k + skp (es.drop k) x)), .sh x] = some (.rt (.new (.lst fs)), [s0, .sh (.tup es), .no, .sh (natD (k + skp (es.drop k) x)), .sh x]) := by
        rw [evS]
        simp only [natD] at h3 ⊢
        rw [h2]
        simp only [evSs, h3]
      rw [forL, hb]
      simp only [fB, evSs, h1', h4]
      simp only [fnd, he, if_true, List.map_nil, List.append_nil]
    · have hq : (((k + skp (es.drop k) x : Nat) : Int) == (es.length : Int)) = false := by
        rw [beq_eq_false_iff_ne]
        omega
      rw [hq] at h2
      have h4 : evS F Ld W (.iff (.val (.cmp .eq (.var 3) (.bi .len [(.var 1)]))) [.ret (some (.var 2))] []) [s0, .sh (.tup es), .ow (.lst fs), .sh (natD (k + skp (es.drop k) x)), .sh x] = some (.nx, [s0, .sh (.tup es), .ow (.lst fs), .sh (natD (k + skp (es.drop k) x)), .sh x]) := by
        rw [evS]
        simp only [natD]
        rw [h2]
        simp only [evSs]
      have h5 := app_ev (F := F) (Ld := Ld) (W := W) (s0 := s0) (s1 := .sh (.tup es)) (s4 := .sh x) (fs := fs) (q := ((k + skp (es.drop k) x : Nat) : Int)) (by omega)
      have h6 := aug_ev (F := F) (Ld := Ld) (W := W) (s0 := s0) (s1 := .sh (.tup es)) (s2 := .ow (.lst (fs ++ [.int ((k + skp (es.drop k) x : Nat) : Int)]))) (s4 := .sh x) (q := ((k + skp (es.drop k) x : Nat) : Int))
      obtain ⟨s3, s4', ih⟩ := for_ok hW hd w (fs ++ [natD (k + skp (es.drop k) x)]) (k + skp (es.drop k) x + 1) (.sh x) (.inr ⟨_, rfl⟩) (fun e h => hw e (List.mem_cons_of_mem _ h)) (by omega) (by simp; omega)
      have hf : fs ++ [natD (k + skp (es.drop k) x)] ++ (fnd es w (k + skp (es.drop k) x + 1)).map natD = fs ++ (fnd es (x :: w) k).map natD := by
        rw [fnd, if_neg he]
        simp
      rw [hf] at ih
      have go : evSs F Ld W fB [s0, .sh (.tup es), .ow (.lst fs), .sh (natD k), .sh x] = some (.nx, [s0, .sh (.tup es), .ow (.lst (fs ++ [natD (k + skp (es.drop k) x)])), .sh (natD (k + skp (es.drop k) x + 1)), .sh x]) := by
        simp only [fB, evSs, h1', h4]
        simp only [natD] at h5 h6 ⊢
        simp only [h5, h6]
        have e1 : (((k + skp (es.drop k) x : Nat) : Int) + 1) = ((k + skp (es.drop k) x + 1 : Nat) : Int) := by omega
        rw [e1]
      refine ⟨s3, s4', ?_⟩
      rw [forL, hb]
      simp only [go]
      exact ih
theorem found_fn {w es : List D} (hW : es.length < W) (hd : ∀ e ∈ es, dep e ≤ 64) (hw : ∀ e ∈ w, dep e ≤ 64) (hl : w.length < 1000000) : runF F Ld W ⟨2, 5, irFound⟩ [.sh (.tup w), .sh (.tup es)] = some (.new (.lst ((fnd es w 0).map natD)), none) := by
  have h1 : evS F Ld W (.par [2, 3] [(.lst []), (.cst (.int (0)))]) [.sh (.tup w), .sh (.tup es), .no, .no, .no] = some (.nx, [.sh (.tup w), .sh (.tup es), .ow (.lst []), .sh (natD 0), .no]) := by
    have h0 : ([] : List D).length ≤ lim := Nat.zero_le _
    simp [evS, evE, evEs, takeRs, h0, settleRs, settleR, bindRs, bindR, mayBind, slOf, natD]
  obtain ⟨s3, s4, ho⟩ := for_ok (F := F) (Ld := Ld) (W := W) (s0 := .sh (.tup w)) hW hd w [] 0 .no (.inl rfl) hw (by omega) (by simpa using hl)
  have hI : evI F Ld (.seq (.var 0)) [.sh (.tup w), .sh (.tup es), .ow (.lst []), .sh (natD 0), .no] = some (w, [.sh (.tup w), .sh (.tup es), .ow (.lst []), .sh (natD 0), .no]) := by
    simp [evI, evE, Sv.bound, takeR, seqD]
  rw [List.nil_append] at ho
  rcases ho with ho | ho
  · have hf := ev_for (F := F) (Ld := Ld) (W := W) hI ho
    have h3 := ret_ev (F := F) (Ld := Ld) (W := W) (s0 := .sh (.tup w)) (s1 := .sh (.tup es)) (s3 := s3) (s4 := s4) (fs := (fnd es w 0).map natD)
    exact runF_rt (f := ⟨2, 5, irFound⟩) (as := [.sh (.tup w), .sh (.tup es)]) (Γ0 := [.sh (.tup w), .sh (.tup es), .no, .no, .no]) (Γ := [.sh (.tup w), .sh (.tup es), .no, s3, s4]) rfl rfl (by simp only [irFound, evSs, h1, hf, h3])
  · have hf := ev_for (F := F) (Ld := Ld) (W := W) hI ho
    exact runF_rt (f := ⟨2, 5, irFound⟩) (as := [.sh (.tup w), .sh (.tup es)]) (Γ0 := [.sh (.tup w), .sh (.tup es), .no, .no, .no]) (Γ := [.sh (.tup w), .sh (.tup es), .no, s3, s4]) rfl rfl (by simp only [irFound, evSs, h1, hf])
def FoundFn (f : Fn) : Prop := ∀ w es : List D, es.length < 1000 → (∀ e ∈ es, dep e ≤ 64) → (∀ e ∈ w, dep e ≤ 64) → w.length < 1000 → f [.sh (.tup w), .sh (.tup es)] = some (.new (.lst ((fnd es w 0).map natD)), none)
def firD (w es : List D) : D := if (fnd es w 0).length = w.length then .lst ((fnd es w 0).map natD) else .non
def FirstFn (f : Fn) : Prop := ∀ w es : List D, es.length < 1000 → (∀ e ∈ es, dep e ≤ 64) → (∀ e ∈ w, dep e ≤ 64) → w.length < 1000 → f [.sh (.tup w), .sh (.tup es)] = some (if (fnd es w 0).length = w.length then .new (.lst ((fnd es w 0).map natD)) else .val .non, none)
def irFirst (a : Nat) : List S := [
    .set 2 (.call a [(.var 0), (.var 1)]),
    .ret (some (.ite (.val (.cmp .eq (.bi .len [(.var 2)]) (.bi .len [(.var 0)]))) (.var 2) (.cst .non)))]
theorem first_fn {a : Nat} (h : FoundFn (F a)) (hl : Ld a = false) : FirstFn (runF F Ld W ⟨2, 3, irFirst a⟩) := by
  intro w es h1 h2 h3 h4
  have e := h w es h1 h2 h3 h4
  generalize hL : fnd es w 0 = L at e
  by_cases hq : L.length = w.length
  · simp [runF, irFirst, evSs, evS, evE, evEs, evT, Sv.bound, callE, hl, takeRs, takeR, e, notSlot, settleR, bindR, mayBind, slOf, readR, readRs, biD, cmpD, dep, eqD, hq, ioOut]
  · have hq' : ((L.length : Int) == (w.length : Int)) = false := by rw [beq_eq_false_iff_ne]; omega
    simp [runF, irFirst, evSs, evS, evE, evEs, evT, Sv.bound, callE, hl, takeRs, takeR, e, notSlot, settleR, bindR, mayBind, slOf, readR, readRs, biD, cmpD, dep, eqD, hq, hq', ioOut]
def PartFn (f : Fn) : Prop := ∀ w es : List D, es.length < 1000 → (∀ e ∈ es, dep e ≤ 64) → (∀ e ∈ w, dep e ≤ 64) → w.length < 1000 → f [.sh (.tup w), .sh (.tup es)] = some (.val (.bl (decide ((fnd es w 0).length = w.length))), none)
def irPart (a : Nat) : List S := [
    .ret (some (.cmp .isn (.call a [(.var 0), (.var 1)]) (.cst .non)))]
theorem part_fn {a : Nat} (h : FirstFn (F a)) (hl : Ld a = false) : PartFn (runF F Ld W ⟨2, 2, irPart a⟩) := by
  intro w es h1 h2 h3 h4
  have e := h w es h1 h2 h3 h4
  generalize hL : fnd es w 0 = L at e
  by_cases hq : L.length = w.length
  · rw [if_pos hq] at e
    simp [runF, irPart, evSs, evS, evE, evEs, evT, Sv.bound, callE, hl, takeRs, takeR, e, notSlot, readR, cmpD, isNon, hq, ioOut]
  · rw [if_neg hq] at e
    simp [runF, irPart, evSs, evS, evE, evEs, evT, Sv.bound, callE, hl, takeRs, takeR, e, notSlot, readR, cmpD, isNon, hq, ioOut]
def lastL (w es : List D) : List Nat := fnd es.reverse w.reverse 0
def irLast (a : Nat) : List S := [
    .set 2 (.call a [(.rev (.var 0)), (.rev (.var 1))]),
    .ret (some (.ite (.val (.cmp .is (.var 2) (.cst .non))) (.cst .non) (.comp (.bin .sub (.bin .sub (.bi .len [(.var 1)]) (.cst (.int (1)))) (.var 3)) (.nm 3) (.seq (.rev (.var 2))) [] [3])))]
def LastFn (f : Fn) : Prop := ∀ w es : List D, es.length < 1000 → (∀ e ∈ es, dep e ≤ 64) → (∀ e ∈ w, dep e ≤ 64) → w.length < 1000 → f [.sh (.tup w), .sh (.tup es)] = some (if (lastL w es).length = w.length then .new (.lst ((lastL w es).reverse.map fun (j : Nat) => D.int ((es.length : Int) - 1 - (j : Int)))) else .val .non, none)
theorem last_fn {a : Nat} (h : FirstFn (F a)) (hl : Ld a = false) : LastFn (runF F Ld W ⟨2, 4, irLast a⟩) := by
  intro w es h1 h2 h3 h4
  have e := h w.reverse es.reverse (by simpa using h1) (by simpa using h2) (by simpa using h3) (by simpa using h4)
  unfold lastL
  rw [List.length_reverse] at e
  generalize hL : fnd es.reverse w.reverse 0 = L at e
  by_cases hq : L.length = w.length
  · rw [if_pos hq] at e
    have hc : evE F Ld (.comp (.bin .sub (.bin .sub (.bi .len [(.var 1)]) (.cst (.int (1)))) (.var 3)) (.nm 3) (.seq (.rev (.var 2))) [] [3]) [.sh (.tup w), .sh (.tup es), .ow (.lst (L.map natD)), .no] = some (.new (.lst (L.reverse.map fun (j : Nat) => D.int ((es.length : Int) - 1 - (j : Int)))), [.sh (.tup w), .sh (.tup es), .ow (.lst (L.map natD)), .no]) := by
      refine ev_comp (ds := (L.map natD).reverse) (Γ1 := [.sh (.tup w), .sh (.tup es), .ow (.lst (L.map natD)), .no]) (Γe := [.sh (.tup w), .sh (.tup es), .ow (.lst (L.map natD)), .no]) (by simp [evI, evE, Sv.bound, readR, revD, takeR, seqD]) rfl ?_
      have hm := compL_map (vs := [3]) (fg := bindT (.nm 3)) (ft := evCs F Ld []) (fe := fun Γ => match evE F Ld (.bin .sub (.bin .sub (.bi .len [(.var 1)]) (.cst (.int (1)))) (.var 3)) Γ with
          | none => none
          | some (r, Γ') => takeR r Γ') (f := fun d => match d with | .int x => .int ((es.length : Int) - 1 - x) | d => d) (Γ := [.sh (.tup w), .sh (.tup es), .ow (.lst (L.map natD)), .no]) (L.map natD).reverse ?_ (by simp; omega)
      · refine hm.trans ?_
        rw [← List.map_reverse, List.map_map]
        rfl
      · intro d hd
        rw [← List.map_reverse] at hd
        obtain ⟨j, hj, rfl⟩ := List.mem_map.1 hd
        refine ⟨[.sh (.tup w), .sh (.tup es), .ow (.lst (L.map natD)), .sh (natD j)], [.sh (.tup w), .sh (.tup es), .ow (.lst (L.map natD)), .sh (natD j)], [.sh (.tup w), .sh (.tup es), .ow (.lst (L.map natD)), .sh (natD j)], rfl, rfl, ?_, rfl⟩
        simp [evE, evEs, Sv.bound, readR, readRs, biD, binD, natD, takeR]
    simp [runF, irLast, evSs, evS, evE, evEs, evT, ↓hc, Sv.bound, readR, revD, callE, hl, takeRs, takeR, e, notSlot, settleR, bindR, mayBind, slOf, cmpD, isNon, hq, ioOut]
  · rw [if_neg hq] at e
    simp [runF, irLast, evSs, evS, evE, evEs, evT, Sv.bound, readR, revD, callE, hl, takeRs, takeR, e, notSlot, settleR, bindR, mayBind, slOf, cmpD, isNon, hq, ioOut]
end
end Sv

namespace K08
open PySem PySem.Spec PyProof.Rows L2 Sv
abbrev topS (i : Nat) : Stmt := PySem.Challenge.pw_shelflikes_k08_known_parts.main.body.getD i (.Pass ⟨0, 0, 0, 0⟩)
def ir_found_in : List S := [
    .par [2, 3] [(.lst []), (.cst (.int (0)))],
    .frr (.nm 4) (.seq (.var 0)) [.whl (.an (.val (.cmp .lt (.var 3) (.bi .len [(.var 1)]))) (.val (.cmp .ne (.ix (.var 1) (.var 3)) (.var 4)))) [.aug 3 .add (.cst (.int (1)))], .iff (.val (.cmp .eq (.var 3) (.bi .len [(.var 1)]))) [.ret (some (.var 2))] [], .ex (.app (.var 2) (.var 3)), .aug 3 .add (.cst (.int (1)))],
    .ret (some (.var 2))]
def ir_first_places : List S := [
    .set 2 (.call 0 [(.var 0), (.var 1)]),
    .ret (some (.ite (.val (.cmp .eq (.bi .len [(.var 2)]) (.bi .len [(.var 0)]))) (.var 2) (.cst .non)))]
def ir_is_part : List S := [
    .ret (some (.cmp .isn (.call 1 [(.var 0), (.var 1)]) (.cst .non)))]
def ir_last_places : List S := [
    .set 2 (.call 1 [(.rev (.var 0)), (.rev (.var 1))]),
    .ret (some (.ite (.val (.cmp .is (.var 2) (.cst .non))) (.cst .non) (.comp (.bin .sub (.bin .sub (.bi .len [(.var 1)]) (.cst (.int (1)))) (.var 3)) (.nm 3) (.seq (.rev (.var 2))) [] [3])))]
def ir__law_box : List S := [
    .set 2 (.cst (.int (0))),
    .iff (.val (.cmp .lt (.var 1) (.bi .len [(.var 0)]))) [.set 2 (.ix (.var 0) (.var 1))] [],
    .ret (some (.lst [(.bin .mul (.bi .abs [(.var 2)]) (.bi .int [(.cmp .ge (.bi .abs [(.var 2)]) (.bin .pow (.cst (.int (10))) (.cst (.int (18)))))])), (.bin .add (.bin .add (.bin .mod (.var 2) (.cst (.int (2147483629)))) (.bin .mul (.cst (.int (7919))) (.var 1))) (.cst (.int (11)))), (.cst (.int (0)))]))]
def ir__law_take : List S := [
    .iff (.val (.cmp .gt (.ix (.var 0) (.cst (.int (0)))) (.cst (.int (0))))) [.set 2 (.bin .mod (.ix (.var 0) (.cst (.int (0)))) (.var 1)), .ixs (.var 0) (.cst (.int (0))) (.bin .fdiv (.ix (.var 0) (.cst (.int (0)))) (.var 1)), .ret (some (.var 2))] [],
    .ixs (.var 0) (.cst (.int (2))) (.bin .add (.ix (.var 0) (.cst (.int (2)))) (.cst (.int (1)))),
    .set 3 (.bin .mod (.bin .pow (.bin .add (.ix (.var 0) (.cst (.int (1)))) (.bin .mul (.cst (.int (39373))) (.ix (.var 0) (.cst (.int (2)))))) (.cst (.int (5)))) (.cst (.int (2147483647)))),
    .ret (some (.bin .mod (.bin .fdiv (.bin .mod (.bin .add (.bin .mul (.var 3) (.bin .add (.bin .mod (.var 3) (.cst (.int (40009)))) (.cst (.int (7))))) (.bin .mul (.ix (.var 0) (.cst (.int (2)))) (.cst (.int (7919))))) (.cst (.int (2147483629)))) (.cst (.int (64)))) (.var 1)))]
def ir__law_same : List S := [
    .iff (.val (.isi (.var 1) [.list, .tuple])) [.iff (.orr (.val (.cmp .ne (.isi (.var 0) [.list]) (.isi (.var 1) [.list]))) (.val (.cmp .ne (.isi (.var 0) [.tuple]) (.isi (.var 1) [.tuple])))) [.ret (some (.cst (.bl false)))] [], .ret (some (.an (.cmp .eq (.bi .len [(.var 0)]) (.bi .len [(.var 1)])) (.bi .all [(.comp (.call 6 [(.var 2), (.var 3)]) (.tp [(.nm 2), (.nm 3)]) (.zip (.var 0) (.var 1)) [] [2, 3])])))] [],
    .iff (.orr (.val (.cmp .is (.var 1) (.cst .non))) (.val (.isi (.var 1) [.str]))) [.ret (some (.an (.cmp .eq (.var 0) (.var 1)) (.cmp .eq (.isi (.var 0) [.str]) (.isi (.var 1) [.str]))))] [],
    .ret (some (.an (.isi (.var 0) [.int]) (.an (.cmp .eq (.isi (.var 0) [.bool]) (.isi (.var 1) [.bool])) (.cmp .eq (.var 0) (.var 1)))))]
def ir__law_names : List S := [
    .par [2, 3] [(.cst (.str ("abcdefghijklmnopqrstuvwxyz" : Str))), (.lst [])],
    .frr (.nm 4) (.rng [(.var 1)]) [.set 5 (.jn (.cst (.str ("" : Str))) (.comp (.ix (.var 2) (.call 5 [(.var 0), (.cst (.int (26)))])) (.nm 6) (.rng [(.ix (.lst [(.cst (.int (1))), (.cst (.int (1))), (.cst (.int (2))), (.cst (.int (6)))]) (.call 5 [(.var 0), (.cst (.int (4)))]))]) [] [6])), .ex (.app (.var 3) (.ix (.comp (.var 7) (.nm 7) (.seq (.bin .add (.lst [(.var 5)]) (.comp (.bin .add (.sl (.var 5) none (some (.cst (.int (5))))) (.var 8)) (.nm 8) (.seq (.var 2)) [] [8]))) [(.val (.cmp .nin (.var 7) (.var 3)))] [7]) (.cst (.int (0)))))],
    .ret (some (.var 3))]
def ir__law_right : List S := [
    .asg (.tp [(.nm 1), (.nm 2), (.nm 3)]) (.call 7 [(.var 0), (.cst (.int (3)))]),
    .par [4, 5] [(.bin .add (.cst (.int (1))) (.call 5 [(.var 0), (.cst (.int (2)))])), (.call 5 [(.var 0), (.cst (.int (3)))])],
    .par [6, 7] [(.bin .mul (.tup [(.var 1), (.var 2), (.var 3)]) (.var 4)), (.bin .mul (.tup [(.var 1), (.var 2), (.var 3)]) (.bin .add (.var 4) (.var 5)))],
    .set 8 (.lst [(.call 1 [(.var 6), (.var 7)]), (.call 3 [(.var 6), (.var 7)]), (.call 0 [(.var 7), (.var 6)])]),
    .set 9 (.lst [(.lrng [(.bin .mul (.cst (.int (3))) (.var 4))]), (.lrng [(.bin .mul (.cst (.int (3))) (.var 5)), (.bin .add (.bin .mul (.cst (.int (3))) (.var 4)) (.bin .mul (.cst (.int (3))) (.var 5)))]), (.lrng [(.bin .mul (.cst (.int (3))) (.var 4))])]),
    .iff (.orr (.nt (.val (.call 6 [(.var 8), (.var 9)]))) (.val (.cmp .ne (.call 2 [(.var 7), (.var 6)]) (.cmp .eq (.var 5) (.cst (.int (0))))))) [.ret (some (.cst (.bl false)))] [],
    .set 8 (.lst [(.call 1 [(.bin .mul (.tup [(.var 3), (.var 2), (.var 1)]) (.var 4)), (.bin .mul (.tup [(.var 1), (.var 2), (.var 3)]) (.bin .add (.bin .mul (.cst (.int (2))) (.var 4)) (.cst (.int (1)))))]), (.call 2 [(.bin .mul (.tup [(.var 3), (.var 2), (.var 1)]) (.var 4)), (.bin .mul (.tup [(.var 1), (.var 2), (.var 3)]) (.bin .mul (.cst (.int (2))) (.var 4)))])]),
    .iff (.nt (.val (.call 6 [(.var 8), (.lst [(.comp (.bin .add (.cst (.int (2))) (.bin .mul (.cst (.int (2))) (.var 10))) (.nm 10) (.rng [(.bin .mul (.cst (.int (3))) (.var 4))]) [] [10]), (.cst (.bl false))])]))) [.ret (some (.cst (.bl false)))] [],
    .set 8 (.lst [(.call 1 [(.bin .mul (.tup [(.var 1)]) (.var 4)), (.bin .mul (.tup [(.var 1)]) (.bin .add (.var 4) (.var 5)))]), (.call 3 [(.bin .mul (.tup [(.var 1)]) (.var 4)), (.bin .mul (.tup [(.var 1)]) (.bin .add (.var 4) (.var 5)))])]),
    .iff (.nt (.val (.call 6 [(.var 8), (.lst [(.lrng [(.var 4)]), (.lrng [(.var 5), (.bin .add (.var 4) (.var 5))])])]))) [.ret (some (.cst (.bl false)))] [],
    .set 8 (.lst [(.call 1 [(.tup []), (.var 7)]), (.call 3 [(.tup []), (.tup [])]), (.call 0 [(.var 6), (.tup [])]), (.call 2 [(.tup []), (.tup [])]), (.call 2 [(.tup [(.var 1)]), (.tup [])])]),
    .iff (.nt (.val (.call 6 [(.var 8), (.lst [(.lst []), (.lst []), (.lst []), (.cst (.bl true)), (.cst (.bl false))])]))) [.ret (some (.cst (.bl false)))] [],
    .set 8 (.lst [(.call 0 [(.tup [(.var 1), (.var 3), (.var 2)]), (.tup [(.var 1), (.var 2), (.var 3)])]), (.call 1 [(.tup [(.var 1), (.var 3), (.var 2)]), (.tup [(.var 1), (.var 2), (.var 3)])]), (.call 3 [(.tup [(.var 1), (.var 3)]), (.tup [(.var 1), (.var 2), (.var 3), (.var 2), (.var 3)])])]),
    .ret (some (.an (.call 6 [(.var 8), (.lst [(.lst [(.cst (.int (0))), (.cst (.int (2)))]), (.cst .non), (.lst [(.cst (.int (0))), (.cst (.int (4)))])])]) (.cmp .is (.call 2 [(.bin .add (.var 6) (.tup [(.var 1)])), (.var 6)]) (.cst (.bl false)))))]
def ir_law : List S := [
    .frr (.nm 1) (.rng [(.bin .add (.cst (.int (1))) (.bi .min [(.cst (.int (4))), (.bi .len [(.var 0)])]))]) [.set 2 (.call 4 [(.var 0), (.var 1)]), .iff (.nt (.val (.bi .all [(.comp (.call 8 [(.var 2)]) (.nm 3) (.rng [(.cst (.int (1)))]) [] [3])]))) [.ret (some (.cst (.bl false)))] []],
    .ret (some (.cst (.bl true)))]
def d_found_in : DefI := ⟨"found_in", topS 1, ["word", "other", "found", "at", "letter"], ["word", "other"], ir_found_in, false⟩
def d_first_places : DefI := ⟨"first_places", topS 2, ["word", "other", "found"], ["word", "other"], ir_first_places, false⟩
def d_is_part : DefI := ⟨"is_part", topS 3, ["word", "other"], ["word", "other"], ir_is_part, false⟩
def d_last_places : DefI := ⟨"last_places", topS 4, ["word", "other", "found", "place"], ["word", "other"], ir_last_places, false⟩
def d__law_box : DefI := ⟨"_law_box", topS 6, ["_law_script", "_law_k", "_law_cell"], ["_law_script", "_law_k"], ir__law_box, false⟩
def d__law_take : DefI := ⟨"_law_take", topS 7, ["_law_box_here", "_law_bound", "_law_found", "_law_once"], ["_law_box_here", "_law_bound"], ir__law_take, true⟩
def d__law_same : DefI := ⟨"_law_same", topS 8, ["_law_found", "_law_due", "_law_one", "_law_two"], ["_law_found", "_law_due"], ir__law_same, false⟩
def d__law_names : DefI := ⟨"_law_names", topS 9, ["_law_box_here", "_law_many", "_law_letters", "_law_found", "_law_k", "_law_name", "_law_j", "_law_made", "_law_sign"], ["_law_box_here", "_law_many"], ir__law_names, true⟩
def d__law_right : DefI := ⟨"_law_right", topS 10, ["_law_box_here", "_law_a", "_law_b", "_law_c", "_law_few", "_law_more", "_law_some", "_law_wide", "_law_told", "_law_due", "_law_k"], ["_law_box_here"], ir__law_right, true⟩
def d_law : DefI := ⟨"law", topS 11, ["_law_script", "_law_k", "_law_box_here", "_law_turn"], ["_law_script"], ir_law, false⟩
def prg : Prg := ⟨[d_found_in, d_first_places, d_is_part, d_last_places, d__law_box, d__law_take, d__law_same, d__law_names, d__law_right, d_law], []⟩
end K08

namespace K08
open PySem PySem.Spec PyProof.Rows L2 Sv
theorem fTake (n : Nat) : TakeFn (prg.FT 100000 (n + 1) 5) := by
  rw [Prg.ft (d := d__law_take) rfl]
  exact take_fn _ _ _
theorem fBox (n : Nat) : BoxFn (prg.FT 100000 (n + 1) 4) := by
  rw [Prg.ft (d := d__law_box) rfl]
  exact box_fn _ _ _
theorem fSame : ∀ n : Nat, SameAt (prg.FT 100000 n 6) n
  | 0 => fun d _ h => absurd h (Nat.not_lt_zero _)
  | n + 1 => by
    rw [Prg.ft (d := d__law_same) rfl]
    exact same_fn _ _ _ 6 n (fSame n) rfl
theorem fNames (n : Nat) : NamesFn (prg.FT 100000 (n + 2) 7) := by
  rw [Prg.ft (d := d__law_names) rfl]
  exact names_fn (tk := 5) (fTake n) rfl
theorem fFound (n : Nat) : FoundFn (prg.FT 100000 (n + 1) 0) := by
  rw [Prg.ft (d := d_found_in) rfl]
  intro w es h1 h2 h3 h4
  exact found_fn (by omega) h2 h3 (by omega)
theorem fFirst (n : Nat) : FirstFn (prg.FT 100000 (n + 2) 1) := by
  rw [Prg.ft (d := d_first_places) rfl]
  exact first_fn (a := 0) (fFound n) rfl
theorem fPart (n : Nat) : PartFn (prg.FT 100000 (n + 3) 2) := by
  rw [Prg.ft (d := d_is_part) rfl]
  exact part_fn (a := 1) (fFirst n) rfl
theorem fLast (n : Nat) : LastFn (prg.FT 100000 (n + 3) 3) := by
  rw [Prg.ft (d := d_last_places) rfl]
  exact last_fn (a := 1) (fFirst n) rfl
end K08

namespace K08
open PySem PySem.Spec PyProof.Rows L2 Sv
section
variable {F : Nat → Fn} {Ld : Nat → Bool} {W : Nat} {x y z : Str}
theorem right_1_0 (h0 : FoundFn (F 0)) (h1 : FirstFn (F 1)) (h2 : PartFn (F 2)) (h3 : LastFn (F 3)) (h6 : SameAt (F 6) 5) (l0 : Ld 0 = false) (l1 : Ld 1 = false) (l2 : Ld 2 = false) (l3 : Ld 3 = false) (l6 : Ld 6 = false) {b : D}
    (n1 : ¬ x = y) (n2 : ¬ y = x) (n3 : ¬ x = z) (n4 : ¬ z = x) (n5 : ¬ y = z) (n6 : ¬ z = y) :
    ∃ Γ, evSs F Ld W (ir__law_right.drop 2) [.io b, .sh (.str x), .sh (.str y), .sh (.str z), .sh (.int 1), .sh (.int 0), .no, .no, .no, .no, .no] = some (.rt (.val (.bl true)), .io b :: Γ) := by
  have dd : ∀ s, dep (.str s) = 0 := fun s => rfl
  have r_0_1 : rangeD 0 1 = [.int 0] := rfl
  have r_0_3 : rangeD 0 3 = [.int 0, .int 1, .int 2] := rfl
  simp [ir__law_right, evSs, evS, evE, evEs, evT, evI, evCs, Sv.bound, takeRs, takeR, lim, readR, readRs, binD, settleRs, settleR, bindRs, bindR, mayBind, slOf, callE, l0, l1, l2, l3, l6, h0 _ _, h1 _ _, h2 _ _, h3 _ _, notSlot, fnd, skp, eqD, eqDs, n1, n2, n3, n4, n5, n6, natD, lastL, lrngD, rngD, okRng, small62, r_0_1, r_0_3, biD, cmpD, isNon, dep, depL, h6 _, pl, pls, compL, bindT, wipeG, restore, notIo, fits64, List.replicate]

theorem right_1_1 (h0 : FoundFn (F 0)) (h1 : FirstFn (F 1)) (h2 : PartFn (F 2)) (h3 : LastFn (F 3)) (h6 : SameAt (F 6) 5) (l0 : Ld 0 = false) (l1 : Ld 1 = false) (l2 : Ld 2 = false) (l3 : Ld 3 = false) (l6 : Ld 6 = false) {b : D}
    (n1 : ¬ x = y) (n2 : ¬ y = x) (n3 : ¬ x = z) (n4 : ¬ z = x) (n5 : ¬ y = z) (n6 : ¬ z = y) :
    ∃ Γ, evSs F Ld W (ir__law_right.drop 2) [.io b, .sh (.str x), .sh (.str y), .sh (.str z), .sh (.int 1), .sh (.int 1), .no, .no, .no, .no, .no] = some (.rt (.val (.bl true)), .io b :: Γ) := by
  have dd : ∀ s, dep (.str s) = 0 := fun s => rfl
  have r_0_1 : rangeD 0 1 = [.int 0] := rfl
  have r_0_3 : rangeD 0 3 = [.int 0, .int 1, .int 2] := rfl
  have r_1_1 : rangeD 1 1 = [.int 1] := rfl
  have r_3_3 : rangeD 3 3 = [.int 3, .int 4, .int 5] := rfl
  simp [ir__law_right, evSs, evS, evE, evEs, evT, evI, evCs, Sv.bound, takeRs, takeR, lim, readR, readRs, binD, settleRs, settleR, bindRs, bindR, mayBind, slOf, callE, l0, l1, l2, l3, l6, h0 _ _, h1 _ _, h2 _ _, h3 _ _, notSlot, fnd, skp, eqD, eqDs, n1, n2, n3, n4, n5, n6, natD, lastL, lrngD, rngD, okRng, small62, r_0_1, r_0_3, r_1_1, r_3_3, biD, cmpD, isNon, dep, depL, h6 _, pl, pls, compL, bindT, wipeG, restore, notIo, fits64, List.replicate]

theorem right_1_2 (h0 : FoundFn (F 0)) (h1 : FirstFn (F 1)) (h2 : PartFn (F 2)) (h3 : LastFn (F 3)) (h6 : SameAt (F 6) 5) (l0 : Ld 0 = false) (l1 : Ld 1 = false) (l2 : Ld 2 = false) (l3 : Ld 3 = false) (l6 : Ld 6 = false) {b : D}
    (n1 : ¬ x = y) (n2 : ¬ y = x) (n3 : ¬ x = z) (n4 : ¬ z = x) (n5 : ¬ y = z) (n6 : ¬ z = y) :
    ∃ Γ, evSs F Ld W (ir__law_right.drop 2) [.io b, .sh (.str x), .sh (.str y), .sh (.str z), .sh (.int 1), .sh (.int 2), .no, .no, .no, .no, .no] = some (.rt (.val (.bl true)), .io b :: Γ) := by
  have dd : ∀ s, dep (.str s) = 0 := fun s => rfl
  have r_0_1 : rangeD 0 1 = [.int 0] := rfl
  have r_0_3 : rangeD 0 3 = [.int 0, .int 1, .int 2] := rfl
  have r_2_1 : rangeD 2 1 = [.int 2] := rfl
  have r_6_3 : rangeD 6 3 = [.int 6, .int 7, .int 8] := rfl
  simp [ir__law_right, evSs, evS, evE, evEs, evT, evI, evCs, Sv.bound, takeRs, takeR, lim, readR, readRs, binD, settleRs, settleR, bindRs, bindR, mayBind, slOf, callE, l0, l1, l2, l3, l6, h0 _ _, h1 _ _, h2 _ _, h3 _ _, notSlot, fnd, skp, eqD, eqDs, n1, n2, n3, n4, n5, n6, natD, lastL, lrngD, rngD, okRng, small62, r_0_1, r_0_3, r_2_1, r_6_3, biD, cmpD, isNon, dep, depL, h6 _, pl, pls, compL, bindT, wipeG, restore, notIo, fits64, List.replicate]

theorem right_2_0 (h0 : FoundFn (F 0)) (h1 : FirstFn (F 1)) (h2 : PartFn (F 2)) (h3 : LastFn (F 3)) (h6 : SameAt (F 6) 5) (l0 : Ld 0 = false) (l1 : Ld 1 = false) (l2 : Ld 2 = false) (l3 : Ld 3 = false) (l6 : Ld 6 = false) {b : D}
    (n1 : ¬ x = y) (n2 : ¬ y = x) (n3 : ¬ x = z) (n4 : ¬ z = x) (n5 : ¬ y = z) (n6 : ¬ z = y) :
    ∃ Γ, evSs F Ld W (ir__law_right.drop 2) [.io b, .sh (.str x), .sh (.str y), .sh (.str z), .sh (.int 2), .sh (.int 0), .no, .no, .no, .no, .no] = some (.rt (.val (.bl true)), .io b :: Γ) := by
  have dd : ∀ s, dep (.str s) = 0 := fun s => rfl
  have r_0_2 : rangeD 0 2 = [.int 0, .int 1] := rfl
  have r_0_6 : rangeD 0 6 = [.int 0, .int 1, .int 2, .int 3, .int 4, .int 5] := rfl
  simp [ir__law_right, evSs, evS, evE, evEs, evT, evI, evCs, Sv.bound, takeRs, takeR, lim, readR, readRs, binD, settleRs, settleR, bindRs, bindR, mayBind, slOf, callE, l0, l1, l2, l3, l6, h0 _ _, h1 _ _, h2 _ _, h3 _ _, notSlot, fnd, skp, eqD, eqDs, n1, n2, n3, n4, n5, n6, natD, lastL, lrngD, rngD, okRng, small62, r_0_2, r_0_6, biD, cmpD, isNon, dep, depL, h6 _, pl, pls, compL, bindT, wipeG, restore, notIo, fits64, List.replicate]

theorem right_2_1 (h0 : FoundFn (F 0)) (h1 : FirstFn (F 1)) (h2 : PartFn (F 2)) (h3 : LastFn (F 3)) (h6 : SameAt (F 6) 5) (l0 : Ld 0 = false) (l1 : Ld 1 = false) (l2 : Ld 2 = false) (l3 : Ld 3 = false) (l6 : Ld 6 = false) {b : D}
    (n1 : ¬ x = y) (n2 : ¬ y = x) (n3 : ¬ x = z) (n4 : ¬ z = x) (n5 : ¬ y = z) (n6 : ¬ z = y) :
    ∃ Γ, evSs F Ld W (ir__law_right.drop 2) [.io b, .sh (.str x), .sh (.str y), .sh (.str z), .sh (.int 2), .sh (.int 1), .no, .no, .no, .no, .no] = some (.rt (.val (.bl true)), .io b :: Γ) := by
  have dd : ∀ s, dep (.str s) = 0 := fun s => rfl
  have r_0_2 : rangeD 0 2 = [.int 0, .int 1] := rfl
  have r_0_6 : rangeD 0 6 = [.int 0, .int 1, .int 2, .int 3, .int 4, .int 5] := rfl
  have r_1_2 : rangeD 1 2 = [.int 1, .int 2] := rfl
  have r_3_6 : rangeD 3 6 = [.int 3, .int 4, .int 5, .int 6, .int 7, .int 8] := rfl
  simp [ir__law_right, evSs, evS, evE, evEs, evT, evI, evCs, Sv.bound, takeRs, takeR, lim, readR, readRs, binD, settleRs, settleR, bindRs, bindR, mayBind, slOf, callE, l0, l1, l2, l3, l6, h0 _ _, h1 _ _, h2 _ _, h3 _ _, notSlot, fnd, skp, eqD, eqDs, n1, n2, n3, n4, n5, n6, natD, lastL, lrngD, rngD, okRng, small62, r_0_2, r_0_6, r_1_2, r_3_6, biD, cmpD, isNon, dep, depL, h6 _, pl, pls, compL, bindT, wipeG, restore, notIo, fits64, List.replicate]

theorem right_2_2 (h0 : FoundFn (F 0)) (h1 : FirstFn (F 1)) (h2 : PartFn (F 2)) (h3 : LastFn (F 3)) (h6 : SameAt (F 6) 5) (l0 : Ld 0 = false) (l1 : Ld 1 = false) (l2 : Ld 2 = false) (l3 : Ld 3 = false) (l6 : Ld 6 = false) {b : D}
    (n1 : ¬ x = y) (n2 : ¬ y = x) (n3 : ¬ x = z) (n4 : ¬ z = x) (n5 : ¬ y = z) (n6 : ¬ z = y) :
    ∃ Γ, evSs F Ld W (ir__law_right.drop 2) [.io b, .sh (.str x), .sh (.str y), .sh (.str z), .sh (.int 2), .sh (.int 2), .no, .no, .no, .no, .no] = some (.rt (.val (.bl true)), .io b :: Γ) := by
  have dd : ∀ s, dep (.str s) = 0 := fun s => rfl
  have r_0_2 : rangeD 0 2 = [.int 0, .int 1] := rfl
  have r_0_6 : rangeD 0 6 = [.int 0, .int 1, .int 2, .int 3, .int 4, .int 5] := rfl
  have r_2_2 : rangeD 2 2 = [.int 2, .int 3] := rfl
  have r_6_6 : rangeD 6 6 = [.int 6, .int 7, .int 8, .int 9, .int 10, .int 11] := rfl
  simp [ir__law_right, evSs, evS, evE, evEs, evT, evI, evCs, Sv.bound, takeRs, takeR, lim, readR, readRs, binD, settleRs, settleR, bindRs, bindR, mayBind, slOf, callE, l0, l1, l2, l3, l6, h0 _ _, h1 _ _, h2 _ _, h3 _ _, notSlot, fnd, skp, eqD, eqDs, n1, n2, n3, n4, n5, n6, natD, lastL, lrngD, rngD, okRng, small62, r_0_2, r_0_6, r_2_2, r_6_6, biD, cmpD, isNon, dep, depL, h6 _, pl, pls, compL, bindT, wipeG, restore, notIo, fits64, List.replicate]
end
end K08

namespace K08
open PySem PySem.Spec PyProof.Rows L2 Sv
def RightFn (f : Fn) : Prop := ∀ b : D, Bx 0 b → ∃ b', f [.io b] = some (.val (.bl true), some b')
theorem fRight (n : Nat) : RightFn (prg.FT 100000 (n + 6) 8) := by
  rw [Prg.ft (d := d__law_right) rfl]
  have hN := fNames (n + 3)
  have hT := fTake (n + 4)
  have h0 := fFound (n + 4)
  have h1 := fFirst (n + 3)
  have h2 := fPart (n + 2)
  have h3 := fLast (n + 2)
  have h6 : SameAt (prg.FT 100000 (n + 5) 6) 5 := fun d p q => fSame (n + 5) d p (by omega)
  have hl : ∀ i, prg.ld i = (prg.ld i) := fun _ => rfl
  generalize hF : prg.FT 100000 (n + 5) = F at hN hT h0 h1 h2 h3 h6
  intro b hb
  obtain ⟨ss, b1, e1, hlen, hnd, _, hb1⟩ := hN 0 3 b hb (by decide) (by decide)
  obtain ⟨x, y, z, rfl⟩ : ∃ x y z, ss = [x, y, z] := by
    match ss, hlen with
    | [x, y, z], _ => exact ⟨x, y, z, rfl⟩
  obtain ⟨r1, b2, e2, p0, p1, hb2⟩ := hT _ 2 b1 hb1 (by decide) (by decide) (by decide)
  obtain ⟨r2, b3, e3, q0, q1, hb3⟩ := hT _ 3 b2 hb2 (by decide) (by decide) (by decide)
  have hne : (¬ x = y ∧ ¬ x = z) ∧ ¬ y = z := by simpa using hnd
  obtain ⟨⟨n1, n3⟩, n5⟩ := hne
  have l5 : prg.ld 5 = true := rfl
  have l7 : prg.ld 7 = true := rfl
  have st : evSs F prg.ld 100000 (ir__law_right.take 2) [.io b, .no, .no, .no, .no, .no, .no, .no, .no, .no, .no] = some (.nx, [.io b3, .sh (.str x), .sh (.str y), .sh (.str z), .sh (.int (1 + r1)), .sh (.int r2), .no, .no, .no, .no, .no]) := by
    have e1' : F 7 [.io b, .sh (.int 3)] = some (.new (.lst [.str x, .str y, .str z]), some b1) := e1
    simp [ir__law_right, evSs, evS, evE, evEs, Sv.bound, takeRs, takeR, readR, binD, settleRs, settleR, bindRs, bindR, bindT, bindTs, mayBind, slOf, callE, l5, l7, ownAt, setOwn, e1', e2, e3, notSlot]
  have key : ∃ Γ, evSs F prg.ld 100000 (ir__law_right.drop 2) [.io b3, .sh (.str x), .sh (.str y), .sh (.str z), .sh (.int (1 + r1)), .sh (.int r2), .no, .no, .no, .no, .no] = some (.rt (.val (.bl true)), .io b3 :: Γ) := by
    have c1 : r1 = 0 ∨ r1 = 1 := by omega
    have c2 : r2 = 0 ∨ r2 = 1 ∨ r2 = 2 := by omega
    rcases c1 with rfl | rfl <;> rcases c2 with rfl | rfl | rfl
    · exact right_1_0 h0 h1 h2 h3 h6 rfl rfl rfl rfl rfl n1 (Ne.symm n1) n3 (Ne.symm n3) n5 (Ne.symm n5)
    · exact right_1_1 h0 h1 h2 h3 h6 rfl rfl rfl rfl rfl n1 (Ne.symm n1) n3 (Ne.symm n3) n5 (Ne.symm n5)
    · exact right_1_2 h0 h1 h2 h3 h6 rfl rfl rfl rfl rfl n1 (Ne.symm n1) n3 (Ne.symm n3) n5 (Ne.symm n5)
    · exact right_2_0 h0 h1 h2 h3 h6 rfl rfl rfl rfl rfl n1 (Ne.symm n1) n3 (Ne.symm n3) n5 (Ne.symm n5)
    · exact right_2_1 h0 h1 h2 h3 h6 rfl rfl rfl rfl rfl n1 (Ne.symm n1) n3 (Ne.symm n3) n5 (Ne.symm n5)
    · exact right_2_2 h0 h1 h2 h3 h6 rfl rfl rfl rfl rfl n1 (Ne.symm n1) n3 (Ne.symm n3) n5 (Ne.symm n5)
  obtain ⟨Γ, hk⟩ := key
  exact ⟨b3, runF_rt (f := ⟨1, 11, ir__law_right⟩) (as := [.io b]) (Γ0 := [.io b, .no, .no, .no, .no, .no, .no, .no, .no, .no, .no]) rfl rfl ((evSs_cut _ _ _ 2 _ _ _ st).trans hk)⟩
def cmpL (s : Nat) : E := .comp (.call s [(.var 2)]) (.nm 3) (.rng [(.cst (.int (1)))]) [] [3]
def bodyL (bx s : Nat) : List S := [.set 2 (.call bx [(.var 0), (.var 1)]), .iff (.nt (.val (.bi .all [(cmpL s)]))) [.ret (some (.cst (.bl false)))] []]
def irLaw (bx s : Nat) : List S := [
    .frr (.nm 1) (.rng [(.bin .add (.cst (.int (1))) (.bi .min [(.cst (.int (4))), (.bi .len [(.var 0)])]))]) (bodyL bx s),
    .ret (some (.cst (.bl true)))]
def okM (s : Sl) : Prop := s = .no ∨ ∃ d, s = .ow d
theorem law_fn {F : Nat → Fn} {Ld : Nat → Bool} {W bx s : Nat} (hB : BoxFn (F bx)) (hR : RightFn (F s)) (lb : Ld bx = false) (ls : Ld s = true) (ns : List Int) (hn : ns.length ≤ 63) : runF F Ld W ⟨1, 4, irLaw bx s⟩ [.sh (.scr ns)] = some (.val (.bl true), none) := by
  have step : ∀ (k : Int) (b : D) (s1 s2 : Sl), 0 ≤ k → k ≤ 1000 → okM s2 → ∃ b', evSs F Ld W (bodyL bx s) [.sh (.scr ns), .sh (.int k), s2, .no] = some (.nx, [.sh (.scr ns), .sh (.int k), .ow b', .no]) := by
    intro k b s1 s2 k0 k1 h2
    obtain ⟨bb, e1, hb⟩ := hB ns k k0 k1
    obtain ⟨b', e2⟩ := hR bb hb
    refine ⟨b', ?_⟩
    have hc : evE F Ld (cmpL s) [.sh (.scr ns), .sh (.int k), .ow bb, .no] = some (.new (.lst [.bl true]), [.sh (.scr ns), .sh (.int k), .ow b', .no]) := by
      have r1 : rangeD 0 1 = [.int 0] := rfl
      simp [cmpL, evE, evEs, evI, evCs, readRs, readR, rngD, small62, r1, notIo, compL, bindT, bindR, mayBind, slOf, Sv.bound, callE, ls, takeRs, takeR, ownAt, e2, notSlot, setOwn, wipeG, restore]
    have hm : mayBind [.sh (.scr ns), .sh (.int k), s2, .no] 2 = true := by
      rcases h2 with rfl | ⟨d, rfl⟩ <;> rfl
    simp [bodyL, evSs, evS, evE, evEs, evT, ↓hc, Sv.bound, callE, lb, takeRs, takeR, e1, notSlot, settleR, bindR, hm, slOf, readR, readRs, biD, boolsOf]
  have hq : ∃ q : Int, evI F Ld (.rng [(.bin .add (.cst (.int (1))) (.bi .min [(.cst (.int (4))), (.bi .len [(.var 0)])]))]) [.sh (.scr ns), .no, .no, .no] = some (rangeD 0 q.toNat, [.sh (.scr ns), .no, .no, .no]) ∧ 0 ≤ q ∧ q ≤ 100 := by
    refine ⟨1 + (if ((ns.length : Nat) : Int) < 4 then ((ns.length : Nat) : Int) else 4), ?_, by split <;> omega, by split <;> omega⟩
    refine rng_ev (r := .val (.int _)) ?_ rfl (by simp only [small62, Bool.and_eq_true, decide_eq_true_eq]; split <;> omega)
    simp [evE, evEs, Sv.bound, readR, readRs, biD, binD]
  obtain ⟨q, hI, q0, q1⟩ := hq
  have loop := forL_inv (g := bindT (.nm 1)) (b := evSs F Ld W (bodyL bx s)) (P := fun _ Γ => ∃ s1 s2, Γ = [.sh (.scr ns), s1, s2, .no] ∧ okS s1 ∧ okM s2) (rangeD 0 q.toNat) 0 [.sh (.scr ns), .no, .no, .no] (fun d hd i Γ h => by
    obtain ⟨s1, s2, rfl, h1, h2⟩ := h
    obtain ⟨j, hj, rfl⟩ := List.mem_map.1 hd
    have hj := List.mem_range.1 hj
    obtain ⟨b', e⟩ := step (0 + (j : Int)) .non s1 s2 (by omega) (by omega) h2
    refine ⟨_, _, ?_, e, _, _, rfl, .inr ⟨_, rfl⟩, .inr ⟨_, rfl⟩⟩
    rcases h1 with rfl | ⟨d, rfl⟩ <;> rfl) ⟨.no, .no, rfl, .inl rfl, .inl rfl⟩
  obtain ⟨Γe, hl, s1, s2, rfl, _, _⟩ := loop
  have hf := ev_for (F := F) (Ld := Ld) (W := W) hI hl
  exact runF_rt (f := ⟨1, 4, irLaw bx s⟩) (as := [.sh (.scr ns)]) (Γ0 := [.sh (.scr ns), .no, .no, .no]) (Γ := [.sh (.scr ns), s1, s2, .no]) rfl rfl (by simp only [irLaw, evSs, evS, evE, hI, hl])
theorem law_true (ns : List Int) (h : ns.length ≤ 63) : prg.FT 100000 40 9 [.sh (.scr ns)] = some (.val (.bl true), none) := by
  rw [Prg.ft (d := d_law) rfl]
  exact law_fn (bx := 4) (s := 8) (fBox 38) (fRight 33) rfl rfl ns h
end K08

namespace K08
open PySem PySem.Spec PyProof.Rows L2 Sv
theorem ok_found_in : DefOk prg d_found_in := ⟨⟨rfl, rfl, rfl, by decide +kernel, rfl, by decide +kernel, by decide +kernel⟩, by kernel_rfl, by decide +kernel, fun _ _ _ _ _ _ us hl => match us, hl with | [_, _], _ => rfl⟩
theorem ok_first_places : DefOk prg d_first_places := ⟨⟨rfl, rfl, rfl, by decide +kernel, rfl, by decide +kernel, by decide +kernel⟩, by kernel_rfl, by decide +kernel, fun _ _ _ _ _ _ us hl => match us, hl with | [_, _], _ => rfl⟩
theorem ok_is_part : DefOk prg d_is_part := ⟨⟨rfl, rfl, rfl, by decide +kernel, rfl, by decide +kernel, by decide +kernel⟩, by kernel_rfl, by decide +kernel, fun _ _ _ _ _ _ us hl => match us, hl with | [_, _], _ => rfl⟩
theorem ok_last_places : DefOk prg d_last_places := ⟨⟨rfl, rfl, rfl, by decide +kernel, rfl, by decide +kernel, by decide +kernel⟩, by kernel_rfl, by decide +kernel, fun _ _ _ _ _ _ us hl => match us, hl with | [_, _], _ => rfl⟩
theorem ok__law_box : DefOk prg d__law_box := ⟨⟨rfl, rfl, rfl, by decide +kernel, rfl, by decide +kernel, by decide +kernel⟩, by kernel_rfl, by decide +kernel, fun _ _ _ _ _ _ us hl => match us, hl with | [_, _], _ => rfl⟩
theorem ok__law_take : DefOk prg d__law_take := ⟨⟨rfl, rfl, rfl, by decide +kernel, rfl, by decide +kernel, by decide +kernel⟩, by kernel_rfl, by decide +kernel, fun _ _ _ _ _ _ us hl => match us, hl with | [_, _], _ => rfl⟩
theorem ok__law_same : DefOk prg d__law_same := ⟨⟨rfl, rfl, rfl, by decide +kernel, rfl, by decide +kernel, by decide +kernel⟩, by kernel_rfl, by decide +kernel, fun _ _ _ _ _ _ us hl => match us, hl with | [_, _], _ => rfl⟩
theorem ok__law_names : DefOk prg d__law_names := ⟨⟨rfl, rfl, rfl, by decide +kernel, rfl, by decide +kernel, by decide +kernel⟩, by kernel_rfl, by decide +kernel, fun _ _ _ _ _ _ us hl => match us, hl with | [_, _], _ => rfl⟩
theorem ok__law_right : DefOk prg d__law_right := ⟨⟨rfl, rfl, rfl, by decide +kernel, rfl, by decide +kernel, by decide +kernel⟩, by kernel_rfl, by decide +kernel, fun _ _ _ _ _ _ us hl => match us, hl with | [_], _ => rfl⟩
theorem ok_law : DefOk prg d_law := ⟨⟨rfl, rfl, rfl, by decide +kernel, rfl, by decide +kernel, by decide +kernel⟩, by kernel_rfl, by decide +kernel, fun _ _ _ _ _ _ us hl => match us, hl with | [_], _ => rfl⟩
theorem defs_ok : ∀ d ∈ prg.defs, DefOk prg d := by
  intro d hd
  simp only [prg, List.mem_cons, List.not_mem_nil, or_false] at hd
  rcases hd with rfl | rfl | rfl | rfl | rfl | rfl | rfl | rfl | rfl | rfl
  · exact ok_found_in
  · exact ok_first_places
  · exact ok_is_part
  · exact ok_last_places
  · exact ok__law_box
  · exact ok__law_take
  · exact ok__law_same
  · exact ok__law_names
  · exact ok__law_right
  · exact ok_law
def dD (d : DefI) : He.DefD := ⟨(d.name, none), d.name, d.name, defArgs d.st, defBody d.st, defScope d.st, [], []⟩
def fnD : List He.DefD := prg.defs.map dD
def faD : List He.Fa := [.glo "found_in", .glo "first_places", .glo "is_part", .glo "last_places", .glo "_law_box", .glo "_law_take", .glo "_law_same", .glo "_law_names", .glo "_law_right", .glo "law", .free "len", .free "abs", .free "min", .free "max", .free "sum", .free "all", .free "any", .free "tuple", .free "list", .free "int", .free "str", .free "bool", .free "dict", .free "isinstance", .free "range", .free "zip"]
abbrev R : PySem.W.OpenRow := PySem.W.OpenLaw.row PySem.Challenge.rw_shelflikes_k08_known_parts
abbrev hk : PySem.W.Hook := He.hookD 4 faD fnD
def ob (s : PySem.W.SharedT) : He.AlD := He.obsDG 4 faD fnD (HandSHeadRun.getT s)
theorem ob_eq (s : PySem.W.SharedT) : ob s = hk.obs s.abs := He.obsDG_eq (HandSHeadRun.getT_eq s)
def looseL : List Str := ["found_in", "first_places", "is_part", "last_places", "_law_box", "_law_take", "_law_same", "_law_names", "_law_right"]
theorem run (w : World) : HandSHeadRun.RunEq R (PySem.W.view R.prog [11]) hk ob 800 looseL w := by
  intro os
  kernel_rfl
theorem top_ok {K : PySem.W.Frag} {h : Heap} {mg : Str → Option Value} (X : K.In h) (G : h.Ns mainGlobals mg) (c : He.SaysD faD fnD K) : TopOk prg K mg where
  defs := fun d hd => by
    obtain ⟨i, hi⟩ := List.mem_iff_getElem?.1 hd
    have lt : i < 10 := by
      have := (List.getElem?_eq_some_iff.1 hi).1
      exact this
    obtain ⟨fd, F⟩ := c.def_ i (d := dD d) (by unfold fnD; rw [List.getElem?_map, hi]; rfl)
    refine ⟨_, fd, He.glo_ok X G (c.fact i (f := .glo d.name) ?_), F⟩
    have : ∀ i < 10, faD[i]? = (prg.defs[i]?).map fun d => He.Fa.glo d.name := by
      intro i hi
      match i, hi with
      | 0, _ => rfl
      | 1, _ => rfl
      | 2, _ => rfl
      | 3, _ => rfl
      | 4, _ => rfl
      | 5, _ => rfl
      | 6, _ => rfl
      | 7, _ => rfl
      | 8, _ => rfl
      | 9, _ => rfl
    rw [this i lt, hi]
    rfl
  cons := fun x d h => by cases h
  blt := fun x hx => by
    simp only [bltNames, List.mem_cons, List.not_mem_nil, or_false] at hx
    rcases hx with rfl | rfl | rfl | rfl | rfl | rfl | rfl | rfl | rfl | rfl | rfl | rfl | rfl | rfl | rfl | rfl
    · exact He.free_ok X G (c.fact 10 (f := .free "len") rfl)
    · exact He.free_ok X G (c.fact 11 (f := .free "abs") rfl)
    · exact He.free_ok X G (c.fact 12 (f := .free "min") rfl)
    · exact He.free_ok X G (c.fact 13 (f := .free "max") rfl)
    · exact He.free_ok X G (c.fact 14 (f := .free "sum") rfl)
    · exact He.free_ok X G (c.fact 15 (f := .free "all") rfl)
    · exact He.free_ok X G (c.fact 16 (f := .free "any") rfl)
    · exact He.free_ok X G (c.fact 17 (f := .free "tuple") rfl)
    · exact He.free_ok X G (c.fact 18 (f := .free "list") rfl)
    · exact He.free_ok X G (c.fact 19 (f := .free "int") rfl)
    · exact He.free_ok X G (c.fact 20 (f := .free "str") rfl)
    · exact He.free_ok X G (c.fact 21 (f := .free "bool") rfl)
    · exact He.free_ok X G (c.fact 22 (f := .free "dict") rfl)
    · exact He.free_ok X G (c.fact 23 (f := .free "isinstance") rfl)
    · exact He.free_ok X G (c.fact 24 (f := .free "range") rfl)
    · exact He.free_ok X G (c.fact 25 (f := .free "zip") rfl)
theorem law_end {P : Program} {w : World} {K : PySem.W.Frag} {h : Heap} {mg : Str → Option Value} {f : Addr} (X : K.In h) (G : h.Ns mainGlobals mg) (hfa : mg ("law" : Str) = some (.ref f)) (c : He.SaysD faD fnD K) :
    ∃ (K : PySem.W.Frag) (fd : FuncData) (sp : Sp), K.In h ∧ (∀ (s : Shared) (u : Value), BindsTo s fd ⟨[u], []⟩ [("_law_script", u)]) ∧
        (∀ (H : Hp) (a : Addr) (ns : List Int), ns.length ≤ 63 → Only H → SqL K H a (ns.map V.int) → sp [.ref a] H (fun v _ => v = .bl true) fun _ _ _ => False) ∧
        ∀ base : Heap, K.In base → base.Ns mainGlobals mg → FnOk P w K mg base CX0 40 f fd ["_law_script"] sp := by
  have T := top_ok X G c
  have Fu : ∃ fd, FunD K "law" "law" (defArgs d_law.st) (defBody d_law.st) (defScope d_law.st) [] [] (He.fAd K ("law", none)) fd := c.def_ 9 (d := dD d_law) rfl
  obtain ⟨fd, F⟩ := Fu
  have e := hfa.symm.trans (He.glo_ok X G (c.fact 9 (f := .glo "law") rfl))
  cases e
  have b := FunD.bindsA (ps := ["_law_script"]) F fun kV doc pm an cdv ct us hl => ok_law.bi kV doc pm an cdv ct us hl
  refine ⟨K, fd, spOf K 1 (prg.FT 100000 40 9), X, fun s v => b s [v] rfl, fun H a ns hl hO hS => law_sp rfl law_true H a ns hl hO hS, fun base hK hB => ?_⟩
  exact one_ok (P := P) (w := w) (base := base) (W := 100000) defs_ok T (by decide +kernel) 39 9 (d := d_law) rfl F
end K08
open PySem PySem.W PySem.Calls PyProof.Rows
theorem PySem.Challenge.cw_shelflikes_k08_known_parts_holds : PySem.Challenge.rw_shelflikes_k08_known_parts.Holds := by
  w_on; o_law
  refine HandSHeadRun.head_any (r := OpenLaw.row PySem.Challenge.rw_shelflikes_k08_known_parts) (q := view (OpenLaw.row PySem.Challenge.rw_shelflikes_k08_known_parts).prog [11]) (H := K08.hk) (ob := K08.ob) (M := 800) (loose := K08.looseL) (d := HandSHeadRun.topDef (OpenLaw.row PySem.Challenge.rw_shelflikes_k08_known_parts).prog 11) (kwd := []) K08.ob_eq
    (by kernel_rfl) (fun s => by kernel_rfl) K08.run (by kernel_rfl) (by kernel_rfl) (by kernel_rfl) (by rfl) (by first | assumption | decide +kernel) (by decide +kernel) ⟨rfl, rfl, rfl, rfl, rfl, by decide +kernel⟩ ?hw ?hc
  case hw => w_witness2
  case hc =>
    refine L2.walk_ofE (l := PySem.Challenge.rw_shelflikes_k08_known_parts) (n := 63) (k := 40) (x := "_law_script") (CX := L2.CX0) rfl (by decide) (by kernel_rfl) ⟨rfl, by decide, by decide⟩ ?F (fun _ _ _ _ z => z)
    intro w mg fa h Y G hmg0
    obtain ⟨K, KX, c⟩ := Y
    have hmg : mg ("law" : PySem.Str) = some (.ref fa) := by
      have e : (HandSHeadRun.topDef (OpenLaw.row PySem.Challenge.rw_shelflikes_k08_known_parts).prog 11).name = ("law" : PySem.Str) := by kernel_rfl
      rw [← e]
      exact hmg0
    exact K08.law_end KX G hmg c

