import PyProof.Rows.All
import Wide.All
import OpenK.AllK
import Wide.FinOn
import HandS.ForMost
import HandS.ForExc
import HandS.IsInst
import HandS.ExcInit
import HandS.ExcField
import HandS.TryMany
import HandS.Flow
import HandS.Defaults
import HandS.Replace
import HandS.Ends
import HandS.HeadEnd
import KE.IntTextLaws
import PySem.Challenge.RW_failslack_k01_numbers_and_names
import KE.KStateDown
import Lean
import HandS.More
import HandS.Words
import HandS.WordsExc
import HandS.Head0
import HandS.Head1
import HandS.Head2
import HandS.HeadHook1
import HandS.HeadHook2
set_option Elab.async false
set_option linter.all false
set_option maxRecDepth 100000
/-! F0 -/
/-! Data, and how a value in the heap stands for it. -/
namespace Fs
open PySem L2
inductive Fl | own | shr | bor deriving DecidableEq
inductive Kd | tup | lst | dct (ks : List Key) | dcl (ks : List Key) | obj (c : Nat) (fs : List Str) deriving DecidableEq
inductive D | v (x : V) | s (ns : List Int) | n (k : Kd) (w : Fl) (xs : List D)
/-- where the classes stand, the written part -/
structure Ec where
  c : Nat → Addr
  K : PySem.W.Frag
def Ec.Wr (cl : Ec) (a : Addr) (xs : List V) : Prop := ∃ (o : Obj) (its : Array Value) (n : Nat), cl.K.lookup a = some o ∧ o.cls = .type "list" ∧ o.dict = none ∧ o.data = .seq its n ∧ its.size ≤ sizeLine ∧ Vals xs its.toList
@[reducible] def D.int (i : Int) : D := .v (.int i)
@[reducible] def D.str (s : Str) : D := .v (.str s)
@[reducible] def D.bl (b : Bool) : D := .v (.bl b)
@[reducible] def D.non : D := .v .non
def sc : V → Bool | .non => true | .bl _ => true | .int _ => true | .str _ => true | _ => false
/-- the flag at the root: may the thing be kept by others -/
def D.kept : D → Bool | .v _ => true | .s _ => true | .n _ .shr _ => true | _ => false
def Shape (cl : Ec) : Kd → List V → HO → Prop
  | .tup, vs, o => o = .tup vs
  | .lst, vs, o => o = .lst vs
  | .dct ks, vs, o => ks.length = vs.length ∧ o = .dK (ks.zip vs)
  | .dcl ks, vs, o => ks.length = vs.length ∧ ∃ ob, o = .frz ob (.dK (ks.zip vs))
  | .obj c fs, vs, o => fs.length = vs.length ∧ ∃ dx, o = .ins (cl.c c) dx (fs.zip vs)
section
variable (cl : Ec) (A L : Addr → Prop) (H : Hp)
mutual
def Rp (b : Bool) : D → V → List Addr → Prop
  | .v x, v, fp => sc x = true ∧ v = x ∧ fp = []
  | .s ns, v, fp => fp = [] ∧ ∃ a, v = .ref a ∧ ((∃ ob, H a = some (.frz ob (.lst (ns.map V.int))) ∧ ¬ A a) ∨ cl.Wr a (ns.map V.int))
  | .n k w ds, v, fp => ∃ a o vs, v = .ref a ∧ H a = some o ∧ Shape cl k vs o ∧
      match w with
      | .shr => ¬ A a ∧ fp = [] ∧ Rps false ds vs []
      | .own => A a ∧ ∃ fp', fp = a :: fp' ∧ Rps false ds vs fp'
      | .bor => b = true ∧ L a ∧ fp = [] ∧ Rps b ds vs []
def Rps (b : Bool) : List D → List V → List Addr → Prop
  | [], vs, fp => vs = [] ∧ fp = []
  | d :: ds, vs, fp => ∃ v vs' f1 f2, vs = v :: vs' ∧ fp = f1 ++ f2 ∧ Rp b d v f1 ∧ Rps b ds vs' f2
end
end
abbrev Sl := List (Option D)
section
variable {cl : Ec} {A A' L L' B : Addr → Prop} {H H' : Hp} {b : Bool}
theorem Rp.weak : ∀ {d : D} {v : V} {fp : List Addr}, Rp cl A L H false d v fp → Rp cl A L H b d v fp
  | .v x, v, fp, h => by simp only [Rp] at h ⊢; exact h
  | .s x, v, fp, h => by simp only [Rp] at h ⊢; exact h
  | .n k w ds, v, fp, h => by
    simp only [Rp] at h ⊢
    obtain ⟨a, o, vs, h1, h2, h3, h4⟩ := h
    refine ⟨a, o, vs, h1, h2, h3, ?_⟩
    cases w with
    | shr => exact h4
    | own => exact h4
    | bor => exact absurd h4.1 (by simp)
theorem Rps.weak : ∀ {ds : List D} {vs : List V} {fp : List Addr}, Rps cl A L H false ds vs fp → Rps cl A L H b ds vs fp
  | [], vs, fp, h => by simp only [Rps] at h ⊢; exact h
  | d :: ds, vs, fp, h => by
    simp only [Rps] at h ⊢
    obtain ⟨v, vs', f1, f2, h1, h2, h3, h4⟩ := h
    exact ⟨v, vs', f1, f2, h1, h2, h3.weak, Rps.weak h4⟩
/-- what is kept at its root holds with no borrowing -/
theorem Rp.strong : ∀ {d : D} {v : V} {fp : List Addr}, d.kept = true → Rp cl A L H b d v fp → Rp cl A L H false d v fp ∧ fp = []
  | .v x, v, fp, _, h => by simp only [Rp] at h ⊢; exact ⟨h, h.2.2⟩
  | .s x, v, fp, _, h => by simp only [Rp] at h ⊢; exact ⟨h, h.1⟩
  | .n k .shr ds, v, fp, _, h => by
    simp only [Rp] at h ⊢
    obtain ⟨a, o, vs, h1, h2, h3, h4, h5, h6⟩ := h
    exact ⟨⟨a, o, vs, h1, h2, h3, h4, h5, h6⟩, h5⟩
  | .n k .own ds, v, fp, hk, _ => by simp [D.kept] at hk
  | .n k .bor ds, v, fp, hk, _ => by simp [D.kept] at hk
mutual
theorem Rp.step : ∀ {d : D} {v : V} {fp : List Addr} {b : Bool}, Rp cl A L H b d v fp → (∀ a o, H a = some o → ¬ A a → H' a = some o ∧ ¬ A' a) → (∀ a ∈ fp, H' a = H a ∧ A' a) → (b = true → ∀ a, L a → H' a = H a ∧ L' a) → Rp cl A' L' H' b d v fp
  | .v x, v, fp, b, h, _, _, _ => by simp only [Rp] at h ⊢; exact h
  | .s x, v, fp, b, h, hk, _, _ => by
    simp only [Rp] at h ⊢
    obtain ⟨h1, a, h2, h3⟩ := h
    refine ⟨h1, a, h2, ?_⟩
    rcases h3 with ⟨ob, h3, h4⟩ | h3
    · exact .inl ⟨ob, (hk a _ h3 h4).1, (hk a _ h3 h4).2⟩
    · exact .inr h3
  | .n k .shr ds, v, fp, b, h, hk, hf, hl => by
    simp only [Rp] at h ⊢
    obtain ⟨a, o, vs, h1, h2, h3, h4, h5, h6⟩ := h
    exact ⟨a, o, vs, h1, (hk a o h2 h4).1, h3, (hk a o h2 h4).2, h5, Rps.step h6 hk (by simp) (by simp)⟩
  | .n k .own ds, v, fp, b, h, hk, hf, hl => by
    simp only [Rp] at h ⊢
    obtain ⟨a, o, vs, h1, h2, h3, h4, fp', h5, h6⟩ := h
    subst h5
    have h7 := hf a List.mem_cons_self
    exact ⟨a, o, vs, h1, h7.1.trans h2, h3, h7.2, fp', rfl, Rps.step h6 hk (fun c hc => hf c (List.mem_cons_of_mem _ hc)) (by simp)⟩
  | .n k .bor ds, v, fp, b, h, hk, hf, hl => by
    simp only [Rp] at h ⊢
    obtain ⟨a, o, vs, h1, h2, h3, h4, h5, h6, h7⟩ := h
    exact ⟨a, o, vs, h1, (hl h4 a h5).1.trans h2, h3, h4, (hl h4 a h5).2, h6, Rps.step h7 hk (by simp) hl⟩
theorem Rps.step : ∀ {ds : List D} {vs : List V} {fp : List Addr} {b : Bool}, Rps cl A L H b ds vs fp → (∀ a o, H a = some o → ¬ A a → H' a = some o ∧ ¬ A' a) → (∀ a ∈ fp, H' a = H a ∧ A' a) → (b = true → ∀ a, L a → H' a = H a ∧ L' a) → Rps cl A' L' H' b ds vs fp
  | [], vs, fp, b, h, _, _, _ => by simp only [Rps] at h ⊢; exact h
  | d :: ds, vs, fp, b, h, hk, hf, hl => by
    simp only [Rps] at h ⊢
    obtain ⟨v, vs', f1, f2, h1, h2, h3, h4⟩ := h
    subst h2
    exact ⟨v, vs', f1, f2, h1, rfl, Rp.step h3 hk (fun c hc => hf c (List.mem_append_left _ hc)) hl, Rps.step h4 hk (fun c hc => hf c (List.mem_append_right _ hc)) hl⟩
end
/-! owned nodes are in A and stand in the heap -/
mutual
theorem Rp.inA : ∀ {d : D} {v : V} {fp : List Addr} {b : Bool}, Rp cl A L H b d v fp → ∀ a ∈ fp, A a ∧ ∃ o, H a = some o
  | .v x, v, fp, b, h, a, ha => by simp only [Rp] at h; rw [h.2.2] at ha; simp at ha
  | .s x, v, fp, b, h, a, ha => by simp only [Rp] at h; rw [h.1] at ha; simp at ha
  | .n k .shr ds, v, fp, b, h, a, ha => by
    simp only [Rp] at h
    obtain ⟨_, o, vs, h1, h2, h3, h4, h5, h6⟩ := h
    rw [h5] at ha; simp at ha
  | .n k .own ds, v, fp, b, h, a, ha => by
    simp only [Rp] at h
    obtain ⟨c, o, vs, h1, h2, h3, h4, fp', h5, h6⟩ := h
    rw [h5] at ha
    rcases List.mem_cons.mp ha with rfl | ha
    · exact ⟨h4, o, h2⟩
    · exact Rps.inA h6 a ha
  | .n k .bor ds, v, fp, b, h, a, ha => by
    simp only [Rp] at h
    obtain ⟨_, o, vs, h1, h2, h3, h4, h5, h6, h7⟩ := h
    rw [h6] at ha; simp at ha
theorem Rps.inA : ∀ {ds : List D} {vs : List V} {fp : List Addr} {b : Bool}, Rps cl A L H b ds vs fp → ∀ a ∈ fp, A a ∧ ∃ o, H a = some o
  | [], vs, fp, b, h, a, ha => by simp only [Rps] at h; rw [h.2] at ha; simp at ha
  | d :: ds, vs, fp, b, h, a, ha => by
    simp only [Rps] at h
    obtain ⟨v, vs', f1, f2, h1, h2, h3, h4⟩ := h
    rw [h2] at ha
    rcases List.mem_append.mp ha with ha | ha
    · exact Rp.inA h3 a ha
    · exact Rps.inA h4 a ha
end
/-! freezing -/
mutual
def frz : D → D
  | .v x => .v x
  | .s x => .s x
  | .n k .shr ds => .n k .shr ds
  | .n k .own ds => .n k .shr (frzs ds)
  | .n k .bor ds => .n k .bor ds
def frzs : List D → List D
  | [] => []
  | d :: ds => frz d :: frzs ds
end
mutual
theorem Rp.frz : ∀ {d : D} {v : V} {fp : List Addr}, Rp cl A L H false d v fp → (∀ a o, H a = some o → ¬ A a → ¬ A' a) → (∀ a ∈ fp, ¬ A' a) → Rp cl A' L H false (frz d) v []
  | .v x, v, fp, h, _, _ => by simp only [Rp, Fs.frz] at h ⊢; exact ⟨h.1, h.2.1, trivial⟩
  | .s x, v, fp, h, hk, _ => by
    simp only [Rp, Fs.frz] at h ⊢
    obtain ⟨h1, a, h2, h3⟩ := h
    refine ⟨trivial, a, h2, ?_⟩
    rcases h3 with ⟨ob, h3, h4⟩ | h3
    · exact .inl ⟨ob, h3, hk a _ h3 h4⟩
    · exact .inr h3
  | .n k .shr ds, v, fp, h, hk, hf => by
    simp only [Rp, Fs.frz] at h ⊢
    obtain ⟨a, o, vs, h1, h2, h3, h4, h5, h6⟩ := h
    exact ⟨a, o, vs, h1, h2, h3, hk a o h2 h4, trivial, h6.step (fun c u q n => ⟨q, hk c u q n⟩) (by simp) (by simp)⟩
  | .n k .own ds, v, fp, h, hk, hf => by
    simp only [Rp, Fs.frz] at h ⊢
    obtain ⟨a, o, vs, h1, h2, h3, h4, fp', h5, h6⟩ := h
    subst h5
    exact ⟨a, o, vs, h1, h2, h3, hf a List.mem_cons_self, trivial, Rps.frz h6 hk (fun c hc => hf c (List.mem_cons_of_mem _ hc))⟩
  | .n k .bor ds, v, fp, h, hk, hf => by
    simp only [Rp] at h
    obtain ⟨_, _, _, _, _, _, h4, _⟩ := h
    simp at h4
theorem Rps.frz : ∀ {ds : List D} {vs : List V} {fp : List Addr}, Rps cl A L H false ds vs fp → (∀ a o, H a = some o → ¬ A a → ¬ A' a) → (∀ a ∈ fp, ¬ A' a) → Rps cl A' L H false (frzs ds) vs []
  | [], vs, fp, h, _, _ => by simp only [Rps, frzs] at h ⊢; exact ⟨h.1, trivial⟩
  | d :: ds, vs, fp, h, hk, hf => by
    simp only [Rps, frzs] at h ⊢
    obtain ⟨v, vs', f1, f2, h1, h2, h3, h4⟩ := h
    subst h2
    exact ⟨v, vs', [], [], h1, rfl, Rp.frz h3 hk (fun c hc => hf c (List.mem_append_left _ hc)), Rps.frz h4 hk (fun c hc => hf c (List.mem_append_right _ hc))⟩
end
/-! lending -/
mutual
def lend : D → D
  | .v x => .v x
  | .s x => .s x
  | .n k .shr ds => .n k .shr ds
  | .n k .own ds => .n k .bor (lends ds)
  | .n k .bor ds => .n k .bor ds
def lends : List D → List D
  | [] => []
  | d :: ds => lend d :: lends ds
end
mutual
theorem Rp.lend : ∀ {d : D} {v : V} {fp : List Addr} {b : Bool}, Rp cl A L H b d v fp → (∀ a ∈ fp, L' a) → (∀ a, L a → L' a) → Rp cl A L' H true (lend d) v []
  | .v x, v, fp, b, h, _, _ => by simp only [Rp, Fs.lend] at h ⊢; exact ⟨h.1, h.2.1, trivial⟩
  | .s x, v, fp, b, h, _, _ => by
    simp only [Rp, Fs.lend] at h ⊢
    exact ⟨trivial, h.2⟩
  | .n k .shr ds, v, fp, b, h, hf, hl => by
    simp only [Rp, Fs.lend] at h ⊢
    obtain ⟨a, o, vs, h1, h2, h3, h4, h5, h6⟩ := h
    exact ⟨a, o, vs, h1, h2, h3, h4, trivial, h6.step (fun c u q n => ⟨q, n⟩) (by simp) (by simp)⟩
  | .n k .own ds, v, fp, b, h, hf, hl => by
    simp only [Rp, Fs.lend] at h ⊢
    obtain ⟨a, o, vs, h1, h2, h3, h4, fp', h5, h6⟩ := h
    subst h5
    exact ⟨a, o, vs, h1, h2, h3, trivial, hf a List.mem_cons_self, trivial, Rps.lend h6 (fun c hc => hf c (List.mem_cons_of_mem _ hc)) hl⟩
  | .n k .bor ds, v, fp, b, h, hf, hl => by
    simp only [Rp, Fs.lend] at h ⊢
    obtain ⟨a, o, vs, h1, h2, h3, h4, h5, h6, h7⟩ := h
    subst h4
    exact ⟨a, o, vs, h1, h2, h3, trivial, hl a h5, trivial, h7.step (fun c u q n => ⟨q, n⟩) (by simp) (fun _ c hc => ⟨rfl, hl c hc⟩)⟩
theorem Rps.lend : ∀ {ds : List D} {vs : List V} {fp : List Addr} {b : Bool}, Rps cl A L H b ds vs fp → (∀ a ∈ fp, L' a) → (∀ a, L a → L' a) → Rps cl A L' H true (lends ds) vs []
  | [], vs, fp, b, h, _, _ => by simp only [Rps, lends] at h ⊢; exact ⟨h.1, trivial⟩
  | d :: ds, vs, fp, b, h, hf, hl => by
    simp only [Rps, lends] at h ⊢
    obtain ⟨v, vs', f1, f2, h1, h2, h3, h4⟩ := h
    subst h2
    exact ⟨v, vs', [], [], h1, rfl, Rp.lend h3 (fun c hc => hf c (List.mem_append_left _ hc)) hl, Rps.lend h4 (fun c hc => hf c (List.mem_append_right _ hc)) hl⟩
end
theorem Rps.length : ∀ {ds : List D} {vs : List V} {fp : List Addr}, Rps cl A L H b ds vs fp → ds.length = vs.length
  | [], vs, fp, h => by simp only [Rps] at h; simp [h.1]
  | d :: ds, vs, fp, h => by
    simp only [Rps] at h
    obtain ⟨v, vs', f1, f2, h1, h2, h3, h4⟩ := h
    rw [h1, List.length_cons, List.length_cons, Rps.length h4]
theorem Rps.get : ∀ {ds : List D} {vs : List V} {fp : List Addr} {i : Nat} {d : D}, Rps cl A L H b ds vs fp → ds[i]? = some d → ∃ v f1, vs[i]? = some v ∧ Rp cl A L H b d v f1 ∧ ∀ a ∈ f1, a ∈ fp
  | [], vs, fp, i, d, h, e => by simp at e
  | d0 :: ds, vs, fp, i, d, h, e => by
    simp only [Rps] at h
    obtain ⟨v, vs', f1, f2, h1, h2, h3, h4⟩ := h
    subst h1 h2
    cases i with
    | zero =>
      simp only [List.getElem?_cons_zero, Option.some.injEq] at e
      subst e
      exact ⟨v, f1, rfl, h3, fun a ha => List.mem_append_left _ ha⟩
    | succ i =>
      simp only [List.getElem?_cons_succ] at e ⊢
      obtain ⟨v2, f3, g1, g2, g3⟩ := Rps.get h4 e
      exact ⟨v2, f3, g1, g2, fun a ha => List.mem_append_right _ (g3 a ha)⟩
theorem Rps.append : ∀ {ds es : List D} {vs ws : List V} {f g : List Addr}, Rps cl A L H b ds vs f → Rps cl A L H b es ws g → Rps cl A L H b (ds ++ es) (vs ++ ws) (f ++ g)
  | [], es, vs, ws, f, g, h, h' => by simp only [Rps] at h; rw [h.1, h.2]; exact h'
  | d :: ds, es, vs, ws, f, g, h, h' => by
    simp only [Rps, List.cons_append] at h ⊢
    obtain ⟨v, vs', f1, f2, h1, h2, h3, h4⟩ := h
    subst h1 h2
    exact ⟨v, vs' ++ ws, f1, f2 ++ g, rfl, by rw [List.append_assoc], h3, Rps.append h4 h'⟩
end
end Fs
/-! F1 -/
/-! States, and what it is that a reading does what a function of data says. -/
namespace Fs
open PySem L2
inductive Out (α : Type) | ok (a : α) (s : Sl) | exc (c : Nat) (xs : List D) (s : Sl) | bad
def Out.bind {α β : Type} : Out α → (α → Sl → Out β) → Out β
  | .ok a s, f => f a s
  | .exc c xs s, _ => .exc c xs s
  | .bad, _ => .bad
inductive Flow | nx | rt (d : D) | bk | ct
abbrev DE := Sl → Out D
abbrev DT := Sl → Out Bool
abbrev DA := Sl → Out (List D)
abbrev DS := Sl → Out Flow
abbrev PP := Sl → Option D
abbrev PT := Sl → Option Bool
section
variable (cl : Ec) (A L : Addr → Prop) (H : Hp)
def Rpo : Sl → List (Option V) → List Addr → Prop
  | [], σ, fp => σ = [] ∧ fp = []
  | none :: δ, σ, fp => ∃ x σ', σ = x :: σ' ∧ Rpo δ σ' fp
  | some d :: δ, σ, fp => ∃ v σ' f1 f2, σ = some v :: σ' ∧ fp = f1 ++ f2 ∧ Rp cl A L H true d v f1 ∧ Rpo δ σ' f2
end
section
variable {cl : Ec} {A A' A'' L L' B : Addr → Prop} {H H' H'' : Hp} {b : Bool}
theorem Rpo.step : ∀ {δ : Sl} {σ : List (Option V)} {fp : List Addr}, Rpo cl A L H δ σ fp → (∀ a o, H a = some o → ¬ A a → H' a = some o ∧ ¬ A' a) → (∀ a ∈ fp, H' a = H a ∧ A' a) → (∀ a, L a → H' a = H a ∧ L' a) → Rpo cl A' L' H' δ σ fp
  | [], σ, fp, h, _, _, _ => by simp only [Rpo] at h ⊢; exact h
  | none :: δ, σ, fp, h, hk, hf, hl => by
    simp only [Rpo] at h ⊢
    obtain ⟨x, σ', h1, h2⟩ := h
    exact ⟨x, σ', h1, h2.step hk hf hl⟩
  | some d :: δ, σ, fp, h, hk, hf, hl => by
    simp only [Rpo] at h ⊢
    obtain ⟨v, σ', f1, f2, h1, h2, h3, h4⟩ := h
    subst h2
    exact ⟨v, σ', f1, f2, h1, rfl, h3.step hk (fun c hc => hf c (List.mem_append_left _ hc)) (fun _ => hl), h4.step hk (fun c hc => hf c (List.mem_append_right _ hc)) hl⟩
theorem Rpo.inA : ∀ {δ : Sl} {σ : List (Option V)} {fp : List Addr}, Rpo cl A L H δ σ fp → ∀ a ∈ fp, A a ∧ ∃ o, H a = some o
  | [], σ, fp, h, a, ha => by simp only [Rpo] at h; rw [h.2] at ha; simp at ha
  | none :: δ, σ, fp, h, a, ha => by
    simp only [Rpo] at h
    obtain ⟨x, σ', h1, h2⟩ := h
    exact h2.inA a ha
  | some d :: δ, σ, fp, h, a, ha => by
    simp only [Rpo] at h
    obtain ⟨v, σ', f1, f2, h1, h2, h3, h4⟩ := h
    rw [h2] at ha
    rcases List.mem_append.mp ha with ha | ha
    · exact h3.inA a ha
    · exact h4.inA a ha
theorem Rpo.length : ∀ {δ : Sl} {σ : List (Option V)} {fp : List Addr}, Rpo cl A L H δ σ fp → δ.length = σ.length
  | [], σ, fp, h => by simp only [Rpo] at h; simp [h.1]
  | none :: δ, σ, fp, h => by
    simp only [Rpo] at h
    obtain ⟨x, σ', h1, h2⟩ := h
    simp [h1, h2.length]
  | some d :: δ, σ, fp, h => by
    simp only [Rpo] at h
    obtain ⟨v, σ', f1, f2, h1, h2, h3, h4⟩ := h
    simp [h1, h4.length]
theorem Rpo.get : ∀ {δ : Sl} {σ : List (Option V)} {fp : List Addr} {i : Nat} {d : D}, Rpo cl A L H δ σ fp → δ[i]? = some (some d) → ∃ v f1, σ[i]? = some (some v) ∧ Rp cl A L H true d v f1 ∧ ∀ a ∈ f1, a ∈ fp
  | [], σ, fp, i, d, h, e => by simp at e
  | none :: δ, σ, fp, i, d, h, e => by
    simp only [Rpo] at h
    obtain ⟨x, σ', h1, h2⟩ := h
    subst h1
    cases i with
    | zero => simp at e
    | succ i => simp only [List.getElem?_cons_succ] at e ⊢; exact h2.get e
  | some d0 :: δ, σ, fp, i, d, h, e => by
    simp only [Rpo] at h
    obtain ⟨v, σ', f1, f2, h1, h2, h3, h4⟩ := h
    subst h1 h2
    cases i with
    | zero =>
      simp only [List.getElem?_cons_zero, Option.some.injEq] at e
      subst e
      exact ⟨v, f1, rfl, h3, fun a ha => List.mem_append_left _ ha⟩
    | succ i =>
      simp only [List.getElem?_cons_succ] at e ⊢
      obtain ⟨v2, f3, g1, g2, g3⟩ := h4.get e
      exact ⟨v2, f3, g1, g2, fun a ha => List.mem_append_right _ (g3 a ha)⟩
/-- a slot is taken out: what it held, and the rest -/
theorem Rpo.take : ∀ {δ : Sl} {σ : List (Option V)} {fp : List Addr} {i : Nat} {d : D}, Rpo cl A L H δ σ fp → δ[i]? = some (some d) → fp.Nodup →
    ∃ v f1 f2, σ[i]? = some (some v) ∧ Rp cl A L H true d v f1 ∧ Rpo cl A L H (δ.set i none) σ f2 ∧ (f1 ++ f2).Nodup ∧ ∀ a, a ∈ f1 ++ f2 ↔ a ∈ fp
  | [], σ, fp, i, d, h, e, nd => by simp at e
  | none :: δ, σ, fp, i, d, h, e, nd => by
    simp only [Rpo] at h
    obtain ⟨x, σ', h1, h2⟩ := h
    subst h1
    cases i with
    | zero => simp at e
    | succ i =>
      simp only [List.getElem?_cons_succ, List.set_cons_succ] at e ⊢
      obtain ⟨v, f1, f2, g1, g2, g3, g4, g5⟩ := h2.take e nd
      exact ⟨v, f1, f2, g1, g2, by simp only [Rpo]; exact ⟨x, σ', rfl, g3⟩, g4, g5⟩
  | some d0 :: δ, σ, fp, i, d, h, e, nd => by
    simp only [Rpo] at h
    obtain ⟨v, σ', f1, f2, h1, h2, h3, h4⟩ := h
    subst h1 h2
    cases i with
    | zero =>
      simp only [List.getElem?_cons_zero, Option.some.injEq, List.set_cons_zero] at e ⊢
      subst e
      exact ⟨v, f1, f2, rfl, h3, by simp only [Rpo]; exact ⟨_, σ', rfl, h4⟩, nd, fun a => Iff.rfl⟩
    | succ i =>
      simp only [List.getElem?_cons_succ, List.set_cons_succ] at e ⊢
      have nd2 := List.nodup_append.mp nd
      obtain ⟨w, g1, g2, k1, k2, k3, k4, k5⟩ := h4.take e nd2.2.1
      refine ⟨w, g1, f1 ++ g2, k1, k2, by simp only [Rpo]; exact ⟨v, σ', f1, g2, rfl, rfl, h3, k3⟩, ?_, ?_⟩
      · have k4' := List.nodup_append.mp k4
        refine List.nodup_append.mpr ⟨k4'.1, List.nodup_append.mpr ⟨nd2.1, k4'.2.1, fun a ha c hc => nd2.2.2 a ha c ((k5 c).mp (List.mem_append_right _ hc))⟩, fun a ha c hc => ?_⟩
        rcases List.mem_append.mp hc with hc | hc
        · exact fun e => nd2.2.2 c hc a ((k5 a).mp (List.mem_append_left _ ha)) e.symm
        · exact k4'.2.2 a ha c hc
      · intro a
        have := k5 a
        simp only [List.mem_append] at this ⊢
        constructor
        · rintro (q | q | q)
          · exact .inr (this.mp (.inl q))
          · exact .inl q
          · exact .inr (this.mp (.inr q))
        · rintro (q | q)
          · exact .inr (.inl q)
          · rcases this.mpr q with z | z
            · exact .inl z
            · exact .inr (.inr z)
/-- a slot is filled -/
theorem Rpo.put : ∀ {δ : Sl} {σ : List (Option V)} {fp : List Addr} {i : Nat} {d : D} {v : V} {f1 : List Addr}, Rpo cl A L H δ σ fp → i < δ.length → Rp cl A L H true d v f1 → (f1 ++ fp).Nodup →
    ∃ f2, Rpo cl A L H (δ.set i (some d)) (σ.set i (some v)) f2 ∧ f2.Nodup ∧ ∀ a, a ∈ f2 → a ∈ f1 ++ fp
  | [], σ, fp, i, d, v, f1, h, e, hd, nd => by simp at e
  | none :: δ, σ, fp, i, d, v, f1, h, e, hd, nd => by
    simp only [Rpo] at h
    obtain ⟨x, σ', h1, h2⟩ := h
    subst h1
    cases i with
    | zero => exact ⟨f1 ++ fp, by simp only [List.set_cons_zero, Rpo]; exact ⟨v, σ', f1, fp, rfl, rfl, hd, h2⟩, nd, fun a ha => ha⟩
    | succ i =>
      obtain ⟨f2, g1, g2, g3⟩ := h2.put (i := i) (by simpa using e) hd nd
      exact ⟨f2, by simp only [List.set_cons_succ, Rpo]; exact ⟨x, _, rfl, g1⟩, g2, g3⟩
  | some d0 :: δ, σ, fp, i, d, v, f1, h, e, hd, nd => by
    simp only [Rpo] at h
    obtain ⟨v0, σ', g1, g2, h1, h2, h3, h4⟩ := h
    subst h1 h2
    have nd2 := List.nodup_append.mp nd
    have nd3 := List.nodup_append.mp nd2.2.1
    cases i with
    | zero =>
      refine ⟨f1 ++ g2, by simp only [List.set_cons_zero, Rpo]; exact ⟨v, σ', f1, g2, rfl, rfl, hd, h4⟩, ?_, ?_⟩
      · exact List.nodup_append.mpr ⟨nd2.1, nd3.2.1, fun a ha c hc => nd2.2.2 a ha c (List.mem_append_right _ hc)⟩
      · intro a ha
        simp only [List.mem_append] at ha ⊢
        rcases ha with ha | ha
        · exact .inl ha
        · exact .inr (.inr ha)
    | succ i =>
      obtain ⟨f2, k1, k2, k3⟩ := h4.put (i := i) (by simpa using e) hd (List.nodup_append.mpr ⟨nd2.1, nd3.2.1, fun a ha c hc => nd2.2.2 a ha c (List.mem_append_right _ hc)⟩)
      refine ⟨g1 ++ f2, by simp only [List.set_cons_succ, Rpo]; exact ⟨v0, _, g1, f2, rfl, rfl, h3, k1⟩, ?_, ?_⟩
      · refine List.nodup_append.mpr ⟨nd3.1, k2, fun a ha c hc e => ?_⟩
        subst e
        rcases List.mem_append.mp (k3 a hc) with q | q
        · exact nd2.2.2 a q a (List.mem_append_left _ ha) rfl
        · exact nd3.2.2 a ha a q rfl
      · intro a ha
        simp only [List.mem_append] at ha ⊢
        rcases ha with ha | ha
        · exact .inr (.inl ha)
        · rcases List.mem_append.mp (k3 a ha) with q | q
          · exact .inl q
          · exact .inr (.inr q)
/-- a slot is emptied (its thing is let go) -/
theorem Rpo.drop : ∀ {δ : Sl} {σ : List (Option V)} {fp : List Addr} {i : Nat}, Rpo cl A L H δ σ fp → fp.Nodup → ∃ f2, Rpo cl A L H (δ.set i none) σ f2 ∧ f2.Nodup ∧ ∀ a, a ∈ f2 → a ∈ fp := by
  intro δ σ fp i h nd
  cases e : δ[i]? with
  | none =>
    have : δ.set i none = δ := List.set_eq_of_length_le (List.getElem?_eq_none_iff.mp e)
    rw [this]
    exact ⟨fp, h, nd, fun a ha => ha⟩
  | some o =>
    cases o with
    | none =>
      have : δ.set i none = δ := by
        obtain ⟨hl, e2⟩ := List.getElem?_eq_some_iff.mp e
        rw [← e2]
        exact List.set_getElem_self hl
      rw [this]
      exact ⟨fp, h, nd, fun a ha => ha⟩
    | some d =>
      obtain ⟨v, f1, f2, g1, g2, g3, g4, g5⟩ := h.take e nd
      exact ⟨f2, g3, (List.nodup_append.mp g4).2.1, fun a ha => (g5 a).mp (List.mem_append_right _ ha)⟩
/-- σ may say anything where the state says nothing -/
theorem Rpo.blur : ∀ {δ : Sl} {σ : List (Option V)} {fp : List Addr} {i : Nat} {x : Option V}, Rpo cl A L H δ σ fp → δ[i]? = some none → Rpo cl A L H δ (σ.set i x) fp
  | [], σ, fp, i, x, h, e => by simp at e
  | none :: δ, σ, fp, i, x, h, e => by
    simp only [Rpo] at h ⊢
    obtain ⟨y, σ', h1, h2⟩ := h
    subst h1
    cases i with
    | zero => exact ⟨x, σ', rfl, h2⟩
    | succ i => exact ⟨y, σ'.set i x, rfl, h2.blur (by simpa using e)⟩
  | some d :: δ, σ, fp, i, x, h, e => by
    simp only [Rpo] at h ⊢
    obtain ⟨v, σ', f1, f2, h1, h2, h3, h4⟩ := h
    subst h1
    cases i with
    | zero => simp at e
    | succ i => exact ⟨v, σ'.set i x, f1, f2, rfl, h2, h3, h4.blur (by simpa using e)⟩
/-! ### the state -/
structure Jt (p : Bool) (cl : Ec) (A L B : Addr → Prop) (H : Hp) (ts : List D) (ws : List V) (δ : Sl) (σ : List (Option V)) : Prop where
  ex : ∃ f g, Rps cl A L H false ts ws f ∧ Rpo cl A L H δ σ g ∧ (f ++ g).Nodup ∧ (∀ a ∈ f, ¬ B a) ∧ (p = false → ∀ a ∈ g, ¬ B a)
  lb : ∀ a, L a → B a
  ba : ∀ a, B a → A a
  ad : ∀ a, A a → H a ≠ none
def Ex (H H' : Hp) : Prop := ∀ a o, H a = some o → H' a = some o
theorem Ex.refl (H : Hp) : Ex H H := fun _ _ h => h
theorem Ex.trans (x : Ex H H') (y : Ex H' H'') : Ex H H'' := fun a o h => y a o (x a o h)
theorem Ex.new {p : Addr} {o : HO} (h : H p = none) : Ex H (upd H p o) := fun a u e => by rw [upd_ne (ne_of_none e h)]; exact e
structure Nx (A B : Addr → Prop) (H : Hp) (A' : Addr → Prop) (H' : Hp) : Prop where
  new : ∀ a, A' a → A a ∨ H a = none
  keep : ∀ a o, H a = some o → ¬ A a → H' a = some o
  prot : ∀ a, B a → H' a = H a ∧ A' a
  low : ∀ a, H' a = none → H a = none
theorem Nx.refl (hb : ∀ a, B a → A a) : Nx A B H A H := ⟨fun _ h => .inl h, fun _ _ h _ => h, fun a h => ⟨rfl, hb a h⟩, fun _ h => h⟩
theorem Nx.trans (x : Nx A B H A' H') (y : Nx A' B H' A'' H'') : Nx A B H A'' H'' where
  new := fun a h => by
    rcases y.new a h with h | h
    · exact x.new a h
    · exact .inr (x.low a h)
  keep := fun a o h n => y.keep a o (x.keep a o h n) fun q => by
    rcases x.new a q with z | z
    · exact n z
    · rw [h] at z; cases z
  prot := fun a h => ⟨(y.prot a h).1.trans (x.prot a h).1, (y.prot a h).2⟩
  low := fun a h => x.low a (y.low a h)
theorem Nx.weak {B' : Addr → Prop} (x : Nx A B' H A' H') (h : ∀ a, B a → B' a) : Nx A B H A' H' := ⟨x.new, x.keep, fun a z => x.prot a (h a z), x.low⟩
theorem Nx.both (x : Nx A B H A' H') : ∀ a o, H a = some o → ¬ A a → H' a = some o ∧ ¬ A' a := fun a o h n => ⟨x.keep a o h n, fun q => by
  rcases x.new a q with z | z
  · exact n z
  · rw [h] at z; cases z⟩
variable {ts us : List D} {ws xs : List V} {δ δ' : Sl} {σ σ' : List (Option V)}
variable {p : Bool}
/-- the temporaries are put out of reach -/
theorem Jt.hide (j : Jt p cl A L B H ts ws δ σ) : ∃ f, Rps cl A L H false ts ws f ∧ f.Nodup ∧ (∀ a ∈ f, ¬ B a) ∧ Jt p cl A L (fun a => B a ∨ a ∈ f) H [] [] δ σ := by
  obtain ⟨f, g, h1, h2, h3, h4, h5⟩ := j.ex
  have nd := List.nodup_append.mp h3
  refine ⟨f, h1, nd.1, h4, ⟨⟨[], g, by simp [Rps], h2, by simpa using nd.2.1, by simp, fun hp a ha => ?_⟩, fun a h => .inl (j.lb a h), fun a h => ?_, j.ad⟩⟩
  · rintro (q | q)
    · exact h5 hp a ha q
    · exact nd.2.2 a q a ha rfl
  · rcases h with h | h
    · exact j.ba a h
    · exact (h1.inA a h).1
theorem Jt.back {f : List Addr} (h0 : Jt p cl A L B H ts ws δ σ) (h1 : Rps cl A L H false ts ws f) (nf : f.Nodup) (hf : ∀ a ∈ f, ¬ B a) (lb : ∀ a, L a → B a) (x : Nx A (fun a => B a ∨ a ∈ f) H A' H') (j : Jt false cl A' L (fun a => B a ∨ a ∈ f) H' us xs δ' σ') :
    Jt p cl A' L B H' (ts ++ us) (ws ++ xs) δ' σ' := by
  obtain ⟨f2, g, k1, k2, k3, k4, k5⟩ := j.ex
  refine ⟨⟨f ++ f2, g, Rps.append (h1.step x.both (fun a ha => x.prot a (.inr ha)) (by simp)) k1, k2, ?_, ?_, ?_⟩, lb, fun a h => j.ba a (.inl h), j.ad⟩
  · rw [List.append_assoc]
    refine List.nodup_append.mpr ⟨nf, k3, fun a ha c hc e => ?_⟩
    subst e
    rcases List.mem_append.mp hc with hc | hc
    · exact k4 a hc (.inr ha)
    · exact k5 rfl a hc (.inr ha)
  · intro a ha q
    rcases List.mem_append.mp ha with ha | ha
    · exact hf a ha q
    · exact k4 a ha (.inl q)
  · intro _ a ha q
    exact k5 rfl a ha (.inl q)
/-- the same where nothing of the state changes -/
theorem Jt.backP {f : List Addr} (h0 : Jt true cl A L B H ts ws δ σ) (x : Nx A A H A' H') (j : Jt true cl A' L A H' us xs δ σ) :
    Jt true cl A' L B H' (ts ++ us) (ws ++ xs) δ σ := by
  obtain ⟨f, g, h1, h2, h3, h4, h5⟩ := h0.ex
  obtain ⟨f2, g2, k1, k2, k3, k4, k5⟩ := j.ex
  have nd := List.nodup_append.mp h3
  have fA : ∀ a ∈ f, A a := fun a ha => (h1.inA a ha).1
  have gA : ∀ a ∈ g, A a := fun a ha => (h2.inA a ha).1
  have nd2 := List.nodup_append.mp k3
  refine ⟨⟨f ++ f2, g, Rps.append (h1.step x.both (fun a ha => x.prot a (fA a ha)) (by simp)) k1, h2.step x.both (fun a ha => x.prot a (gA a ha)) (fun a h => ⟨(x.prot a (h0.ba a (h0.lb a h))).1, h⟩), ?_, ?_, by simp⟩, h0.lb, fun a h => (x.prot a (h0.ba a h)).2, j.ad⟩
  · rw [List.append_assoc]
    refine List.nodup_append.mpr ⟨nd.1, List.nodup_append.mpr ⟨nd2.1, nd.2.1, fun a ha c hc e => ?_⟩, fun a ha c hc e => ?_⟩
    · subst e; exact k4 a ha (gA a hc)
    · subst e
      rcases List.mem_append.mp hc with hc | hc
      · exact k4 a hc (fA a ha)
      · exact nd.2.2 a ha a hc rfl
  · intro a ha q
    rcases List.mem_append.mp ha with ha | ha
    · exact h4 a ha q
    · exact k4 a ha (h0.ba a q)
theorem Jt.any (j : Jt false cl A L B H ts ws δ σ) : Jt p cl A L B H ts ws δ σ := by
  obtain ⟨f, g, h1, h2, h3, h4, h5⟩ := j.ex
  exact ⟨⟨f, g, h1, h2, h3, h4, fun _ => h5 rfl⟩, j.lb, j.ba, j.ad⟩
theorem Jt.toPure (j : Jt p cl A L B H [] [] δ σ) : Jt true cl A L A H [] [] δ σ := by
  obtain ⟨f, g, h1, h2, h3, h4, h5⟩ := j.ex
  have e : f = [] := by simp only [Rps] at h1; exact h1.2
  subst e
  exact ⟨⟨[], g, h1, h2, h3, by simp, by simp⟩, fun a h => j.ba a (j.lb a h), fun _ h => h, j.ad⟩
/-- behind a pure expression -/
theorem Jt.ofPure {d : List D} {v : List V} (j0 : Jt p cl A L B H [] [] δ σ) (x : Nx A A H A' H') (j : Jt true cl A' L A H' d v δ σ) : Jt p cl A' L B H' d v δ σ := by
  obtain ⟨f0, g, h1, h2, h3, h4, h5⟩ := j0.ex
  obtain ⟨f2, g2, k1, k2, k3, k4, k5⟩ := j.ex
  have nd2 := List.nodup_append.mp k3
  have nd := List.nodup_append.mp h3
  have gA : ∀ a ∈ g, A a := fun a ha => (h2.inA a ha).1
  refine ⟨⟨f2, g, k1, h2.step x.both (fun a ha => x.prot a (gA a ha)) (fun a h => ⟨(x.prot a (j0.ba a (j0.lb a h))).1, h⟩), List.nodup_append.mpr ⟨nd2.1, nd.2.1, fun a ha c hc e => ?_⟩, fun a ha q => k4 a ha (j0.ba a q), fun hp a ha => h5 hp a ha⟩, j0.lb, fun a h => (x.prot a (j0.ba a h)).2, j.ad⟩
  subst e
  exact k4 a ha (gA a hc)
/-- temporaries are let go -/
theorem Jt.drop (j : Jt p cl A L B H ts ws δ σ) : Jt p cl A L B H [] [] δ σ := by
  obtain ⟨f, g, h1, h2, h3, h4, h5⟩ := j.ex
  exact ⟨⟨[], g, by simp [Rps], h2, by simpa using (List.nodup_append.mp h3).2.1, by simp, h5⟩, j.lb, j.ba, j.ad⟩
theorem Jt.drop0 (j : Jt p cl A L B H ts ws δ σ) : ∃ g, Rpo cl A L H δ σ g ∧ g.Nodup ∧ (p = false → ∀ a ∈ g, ¬ B a) := by
  obtain ⟨f, g, h1, h2, h3, h4, h5⟩ := j.ex
  exact ⟨g, h2, (List.nodup_append.mp h3).2.1, h5⟩
theorem Jt.leaf {s : V} (j : Jt p cl A L B H ts ws δ σ) (h : sc s = true) : Jt p cl A L B H [.v s] [s] δ σ := by
  obtain ⟨g, h2, h3, h5⟩ := j.drop0
  exact ⟨⟨[], g, by simp only [Rps, Rp]; exact ⟨s, [], [], [], rfl, rfl, ⟨h, rfl, rfl⟩, rfl, rfl⟩, h2, by simpa using h3, by simp, h5⟩, j.lb, j.ba, j.ad⟩
/-- one that is kept, found in the state -/
theorem Jt.kept {d : D} {v : V} {fp : List Addr} (j : Jt p cl A L B H ts ws δ σ) (hk : d.kept = true) (h : Rp cl A L H b d v fp) : Jt p cl A L B H [d] [v] δ σ := by
  obtain ⟨g, h2, h3, h5⟩ := j.drop0
  have h6 := h.strong hk
  obtain ⟨h6, rfl⟩ := h6
  exact ⟨⟨[], g, by simp only [Rps]; exact ⟨v, [], [], [], rfl, rfl, h6, rfl, rfl⟩, h2, by simpa using h3, by simp, h5⟩, j.lb, j.ba, j.ad⟩
/-- a new object holds the temporaries -/
theorem Jt.alloc {k : Kd} {p0 : Addr} {o : HO} (j : Jt p cl A L B H ts ws δ σ) (hp : H p0 = none) (hs : Shape cl k ws o) :
    Nx A B H (fun a => A a ∨ a = p0) (upd H p0 o) ∧ Jt p cl (fun a => A a ∨ a = p0) L B (upd H p0 o) [.n k .own ts] [.ref p0] δ σ := by
  have hA : ¬ A p0 := fun q => j.ad p0 q hp
  have st : ∀ a u, H a = some u → ¬ A a → upd H p0 o a = some u ∧ ¬ (A a ∨ a = p0) := fun a u h n => by
    have ne : a ≠ p0 := ne_of_none h hp
    exact ⟨by rw [upd_ne ne]; exact h, fun q => q.elim n ne⟩
  have sf : ∀ a, A a → upd H p0 o a = H a := fun a h => upd_ne (fun e => hA (e ▸ h))
  refine ⟨⟨fun a h => h.elim .inl fun e => .inr (e ▸ hp), fun a u h n => (st a u h n).1, fun a h => ⟨sf a (j.ba a h), .inl (j.ba a h)⟩, fun a h => ?_⟩, ?_⟩
  · by_cases e : a = p0
    · rw [e]; exact hp
    · rw [upd_ne e] at h; exact h
  · obtain ⟨f, g, h1, h2, h3, h4, h5⟩ := j.ex
    have ia : ∀ a, a ∈ f ++ g → A a := fun a ha => by
      rcases List.mem_append.mp ha with ha | ha
      · exact (h1.inA a ha).1
      · exact (h2.inA a ha).1
    refine ⟨⟨p0 :: f, g, ?_, h2.step st (fun a ha => ⟨sf a (ia a (List.mem_append_right _ ha)), .inl (ia a (List.mem_append_right _ ha))⟩) (fun a h => ⟨sf a (j.ba a (j.lb a h)), h⟩), ?_, ?_, h5⟩, j.lb, fun a h => .inl (j.ba a h), fun a h => ?_⟩
    · simp only [Rps, Rp]
      exact ⟨.ref p0, [], p0 :: f, [], rfl, by simp, ⟨p0, o, ws, rfl, upd_same, hs, .inr rfl, f, rfl, h1.step st (fun a ha => ⟨sf a (ia a (List.mem_append_left _ ha)), .inl (ia a (List.mem_append_left _ ha))⟩) (by simp)⟩, rfl, rfl⟩
    · rw [List.cons_append]
      exact List.nodup_cons.mpr ⟨fun q => hA (ia p0 q), h3⟩
    · intro a ha
      rcases List.mem_cons.mp ha with rfl | ha
      · exact fun q => hA (j.ba _ q)
      · exact h4 a ha
    · rcases h with h | rfl
      · rw [sf a h]; exact j.ad a h
      · rw [upd_same]; simp
theorem kept_all : ∀ {ts : List D} {ws : List V} {f : List Addr}, ts.all D.kept = true → Rps cl A L H false ts ws f → f = []
  | [], ws, f, _, h => by simp only [Rps] at h; exact h.2
  | d :: ds, ws, f, hk, h => by
    simp only [Rps] at h
    obtain ⟨v, vs', f1, f2, h1, h2, h3, h4⟩ := h
    simp only [List.all_cons, Bool.and_eq_true] at hk
    rw [h2, (h3.strong hk.1).2, kept_all hk.2 h4]
    rfl
/-- the same, shared: all that it holds is kept -/
theorem Jt.allocS {k : Kd} {p0 : Addr} {o : HO} (j : Jt p cl A L B H ts ws δ σ) (hk : ts.all D.kept = true) (hp : H p0 = none) (hs : Shape cl k ws o) :
    Nx A B H A (upd H p0 o) ∧ Jt p cl A L B (upd H p0 o) [.n k .shr ts] [.ref p0] δ σ := by
  have hA : ¬ A p0 := fun q => j.ad p0 q hp
  have st : ∀ a u, H a = some u → ¬ A a → upd H p0 o a = some u ∧ ¬ A a := fun a u h n => ⟨by rw [upd_ne (ne_of_none h hp)]; exact h, n⟩
  have sf : ∀ a, A a → upd H p0 o a = H a := fun a h => upd_ne (fun e => hA (e ▸ h))
  refine ⟨⟨fun a h => .inl h, fun a u h n => (st a u h n).1, fun a h => ⟨sf a (j.ba a h), j.ba a h⟩, fun a h => ?_⟩, ?_⟩
  · by_cases e : a = p0
    · rw [e]; exact hp
    · rw [upd_ne e] at h; exact h
  · obtain ⟨f, g, h1, h2, h3, h4, h5⟩ := j.ex
    have ef := kept_all hk h1
    subst ef
    have ia : ∀ a, a ∈ g → A a := fun a ha => (h2.inA a ha).1
    refine ⟨⟨[], g, ?_, h2.step st (fun a ha => ⟨sf a (ia a ha), ia a ha⟩) (fun a h => ⟨sf a (j.ba a (j.lb a h)), h⟩), h3, h4, h5⟩, j.lb, j.ba, fun a h => ?_⟩
    · simp only [Rps, Rp]
      exact ⟨.ref p0, [], [], [], rfl, rfl, ⟨p0, o, ws, rfl, upd_same, hs, hA, rfl, h1.step st (by simp) (by simp)⟩, rfl, rfl⟩
    · rw [sf a h]; exact j.ad a h
theorem Jt.lower {B' : Addr → Prop} (j : Jt p cl A L B' H ts ws δ σ) (hb : ∀ a, B a → B' a) (lb : ∀ a, L a → B a) : Jt p cl A L B H ts ws δ σ := by
  obtain ⟨f, g, h1, h2, h3, h4, h5⟩ := j.ex
  exact ⟨⟨f, g, h1, h2, h3, fun a ha q => h4 a ha (hb a q), fun hp a ha q => h5 hp a ha (hb a q)⟩, lb, fun a h => j.ba a (hb a h), j.ad⟩
/-- going on with temporaries in hand -/
theorem Jt.seq (j : Jt p cl A L B H ts ws δ σ) : ∃ B', Jt p cl A L B' H [] [] δ σ ∧ (∀ a, B a → B' a) ∧
    ∀ A2 H2 us xs δ2, (p = true → δ2 = δ) → Nx A B' H A2 H2 → Jt p cl A2 L B' H2 us xs δ2 σ → Jt p cl A2 L B H2 (ts ++ us) (ws ++ xs) δ2 σ := by
  cases p with
  | true =>
    refine ⟨A, j.drop.toPure, j.ba, fun A2 H2 us xs δ2 e n j2 => ?_⟩
    cases e rfl
    exact j.backP (f := []) n j2
  | false =>
    obtain ⟨f, h1, h2, h3, h4⟩ := j.hide
    exact ⟨_, h4, fun a h => .inl h, fun A2 H2 us xs δ2 _ n j2 => Jt.back j h1 h2 h3 j.lb n j2⟩
end
end Fs
/-! F2 -/
/-! Judgements, and expressions. -/
namespace Fs
open PySem L2
def Out.ofO {α : Type} : Option α → Sl → Out α | some a, s => .ok a s | none, _ => .bad
/-- an exception's dict -/
def XAt (xf : Nat → List Str) (A : Addr → Prop) (H : Hp) (c : Nat) (vs : List V) (d : Option Addr) : Prop :=
  (xf c = [] ∧ vs = []) ∨ ∃ dd fs, d = some dd ∧ H dd = some (.xd fs) ∧ ¬ A dd ∧ vs.length = (xf c).length ∧ ∀ (i : Nat) (n : Str) (v : V), (xf c)[i]? = some n → vs[i]? = some v → fs.lookup n = some v
section
variable (cl : Ec) (xf : Nat → List Str) (W : WX)
def Out.same {α : Type} (o : Out α) (δ : Sl) : Prop := match o with
  | .ok _ s => s = δ
  | .exc _ _ s => s = δ
  | .bad => True
def PostX (p : Bool) (c : Nat) (xs : List D) (δ' : Sl) (A L B : Addr → Prop) (H : Hp) (σ : L2.St) : Prop :=
  ∀ d vs A' H', Nx A B H A' H' → XAt xf A' H' c vs d → Jt p cl A' L B H' xs vs δ' σ → W (.ref (cl.c c)) d σ H'
/-- what a run owes: an outcome, the temporaries it leaves, what is wanted -/
def Post {α : Type} (p : Bool) (o : Out α) (den : α → List D) (A L B : Addr → Prop) (H : Hp) (σ : L2.St) (Q : α → List V → Hp → Prop) : Prop := match o with
  | .ok a δ' => ∀ vs A' H', Nx A B H A' H' → Jt p cl A' L B H' (den a) vs δ' σ → Q a vs H'
  | .exc c xs δ' => PostX cl xf W p c xs δ' A L B H σ
  | .bad => False
abbrev d1s : D → List D := fun d => [d]
abbrev PostE (p : Bool) (o : Out D) (A L B : Addr → Prop) (H : Hp) (σ : L2.St) (Q : VK) : Prop := Post cl xf W p o d1s A L B H σ fun _ vs H' => ∀ v, vs = [v] → Q v H'
/-- a peek: nothing is changed -/
def SP (te : TE) (f : PP) : Prop := ∀ A L H δ σ g d Q, Rpo cl A L H δ σ g → f δ = some d → (∀ v fp, Rp cl A L H true d v fp → (∀ a ∈ fp, a ∈ g) → Q v H) → te σ H Q
structure SE (p : Bool) (te : TE) (de : DE) : Prop where
  pure : p = true → ∀ δ, (de δ).same δ
  run : ∀ A L B H δ σ Q, Jt p cl A L B H [] [] δ σ → PostE cl xf W p (de δ) A L B H σ Q → te σ H Q
structure SA (p : Bool) (ta : TA) (da : DA) : Prop where
  pure : p = true → ∀ δ, (da δ).same δ
  run : ∀ A L B H δ σ Q, Jt p cl A L B H [] [] δ σ → Post cl xf W p (da δ) id A L B H σ (fun _ => Q) → ta σ H Q
structure SB (p : Bool) (tt : TT) (dt : DT) : Prop where
  pure : p = true → ∀ δ, (dt δ).same δ
  run : ∀ A L B H δ σ Q, Jt p cl A L B H [] [] δ σ → Post cl xf W p (dt δ) (fun _ => []) A L B H σ (fun b _ => Q b) → tt σ H Q
end
section
variable {cl : Ec} {xf : Nat → List Str} {W : WX} {A A' L B : Addr → Prop} {H H' : Hp} {δ δ' : Sl} {σ : L2.St} {p q : Bool} {te ta tb tc : TE} {tA : TA} {tt tu : TT} {α β : Type}
theorem PostX.step {c : Nat} {xs : List D} (h : PostX cl xf W p c xs δ' A L B H σ) (x : Nx A B H A' H') : PostX cl xf W p c xs δ' A' L B H' σ :=
  fun d vs A2 H2 y e j => h d vs A2 H2 (x.trans y) e j
theorem PostX.under {c : Nat} {xs : List D} {B' : Addr → Prop} (h : PostX cl xf W p c xs δ' A L B H σ) (hb : ∀ a, B a → B' a) (lb : ∀ a, L a → B a) : PostX cl xf W p c xs δ' A L B' H σ :=
  fun d vs A2 H2 y e j => h d vs A2 H2 (y.weak hb) e (j.lower hb lb)
theorem Out.same_bind {o : Out α} {f : α → Sl → Out β} (h1 : o.same δ) (h2 : ∀ a, (f a δ).same δ) : (o.bind f).same δ := by
  cases o with
  | ok a s => cases (show s = δ from h1); exact h2 a
  | exc c xs s => exact h1
  | bad => trivial
theorem Out.same_ofO {o : Option α} : (Out.ofO o δ).same δ := by cases o <;> simp [Out.ofO, Out.same]
/-- one run behind another -/
theorem Post.bind {γ : Type} {o : Out α} {f : α → Sl → Out β} {den : β → List D} {Q : β → List V → Hp → Prop} {den0 : α → List D} {Q0 : α → List V → Hp → Prop} (h : Post cl xf W p (o.bind f) den A L B H σ Q)
    (k : ∀ a δ1 vs A' H', o = .ok a δ1 → Nx A B H A' H' → Jt p cl A' L B H' (den0 a) vs δ1 σ → Post cl xf W p (f a δ1) den A L B H σ Q → Q0 a vs H') : Post cl xf W p o den0 A L B H σ Q0 := by
  cases o with
  | ok a s => exact fun vs A' H' n j => k a s vs A' H' rfl n j h
  | exc c xs s => exact h
  | bad => exact h
theorem Post.ofO {o : Option α} {den : α → List D} {Q : α → List V → Hp → Prop} (h : Post cl xf W p (Out.ofO o δ) den A L B H σ Q) : ∃ a, o = some a ∧ ∀ vs A' H', Nx A B H A' H' → Jt p cl A' L B H' (den a) vs δ σ → Q a vs H' := by
  cases o with
  | some a => exact ⟨a, rfl, h⟩
  | none => exact h.elim
/-- the same debt further on -/
theorem Post.step {o : Out α} {den : α → List D} {Q : α → List V → Hp → Prop} (h : Post cl xf W p o den A L B H σ Q) (x : Nx A B H A' H') : Post cl xf W p o den A' L B H' σ Q := by
  cases o with
  | ok a s => exact fun vs A2 H2 n j => h vs A2 H2 (x.trans n) j
  | exc c xs s => exact PostX.step h x
  | bad => exact h
/-- the debt of a run with temporaries in hand -/
theorem Post.seq {ts : List D} {ws : List V} {o : Out α} {den den0 : α → List D} {Q Q0 : α → List V → Hp → Prop} {B' : Addr → Prop} (h : Post cl xf W p o den A L B H σ Q) (hs : p = true → o.same δ) (lb : ∀ a, L a → B a) (hb : ∀ a, B a → B' a)
    (hj : ∀ A2 H2 us xs δ2, (p = true → δ2 = δ) → Nx A B' H A2 H2 → Jt p cl A2 L B' H2 us xs δ2 σ → Jt p cl A2 L B H2 (ts ++ us) (ws ++ xs) δ2 σ) (hd : ∀ a, den a = ts ++ den0 a) (hQ : ∀ a vs H2, Q a (ws ++ vs) H2 → Q0 a vs H2) : Post cl xf W p o den0 A L B' H σ Q0 := by
  cases o with
  | ok a s => exact fun vs A2 H2 n j => hQ a vs H2 (h (ws ++ vs) A2 H2 (n.weak hb) (by rw [hd a]; exact hj A2 H2 _ _ _ hs n j))
  | exc c xs s => exact PostX.under h hb lb
  | bad => exact h
/-! ### peeks -/
def pVar (i : Nat) : PP := fun δ => (δ[i]?).join
theorem join_some {o : Option (Option D)} {d : D} (e : o.join = some d) : o = some (some d) := by
  cases o with
  | none => cases e
  | some x => cases x with
    | none => cases e
    | some y => cases e; rfl
theorem sp_var {i : Nat} : SP cl (tVar i) (pVar i) := fun A L H δ σ g d Q h2 e k => by
  obtain ⟨v, f1, g1, g2, g3⟩ := h2.get (join_some e)
  exact ⟨v, g1, k v f1 g2 g3⟩
def pC (s : V) : PP := fun _ => some (.v s)
theorem Rp.leafv {b : Bool} {x v : V} {fp : List Addr} (h : Rp cl A L H b (.v x) v fp) : v = x ∧ fp = [] ∧ sc x = true := by
  simp only [Rp] at h
  exact ⟨h.2.1, h.2.2, h.1⟩
theorem Rp.leaf {b : Bool} {x : V} (h : sc x = true) : Rp cl A L H b (.v x) x [] := by simp only [Rp]; exact ⟨h, trivial, trivial⟩
theorem sp_c {s : V} (h : sc s = true) : SP cl (tC s) (pC s) := fun A L H δ σ g d Q j e k => by
  cases e
  exact k s [] (Rp.leaf h) (by simp)
/-- the script -/
theorem Rp.scr {b : Bool} {ns : List Int} {v : V} {fp : List Addr} (h : Rp cl A L H b (.s ns) v fp) : ∃ a, v = .ref a ∧ SqL cl.K H a (ns.map V.int) ∧ fp = [] ∧ ((∃ ob, H a = some (.frz ob (.lst (ns.map V.int))) ∧ ¬ A a) ∨ cl.Wr a (ns.map V.int)) := by
  simp only [Rp] at h
  obtain ⟨h1, a, h2, h3⟩ := h
  refine ⟨a, h2, ?_, h1, h3⟩
  rcases h3 with ⟨ob, h3, _⟩ | h3
  · exact .inl (.inr ⟨ob, h3⟩)
  · exact .inr h3
/-- a node, whatever its flag: where it stands and what it holds -/
theorem Rp.node {b : Bool} {k : Kd} {w : Fl} {ds : List D} {v : V} {fp : List Addr} (h : Rp cl A L H b (.n k w ds) v fp) : ∃ a o vs fp', v = .ref a ∧ H a = some o ∧ Shape cl k vs o ∧ Rps cl A L H true ds vs fp' ∧ ∀ c ∈ fp', c ∈ fp := by
  cases w with
  | shr =>
    simp only [Rp] at h
    obtain ⟨a, o, vs, h1, h2, h3, h4, h5, h6⟩ := h
    exact ⟨a, o, vs, [], h1, h2, h3, h6.weak, by simp⟩
  | own =>
    simp only [Rp] at h
    obtain ⟨a, o, vs, h1, h2, h3, h4, fp', h5, h6⟩ := h
    exact ⟨a, o, vs, fp', h1, h2, h3, h6.weak, fun c hc => by rw [h5]; exact List.mem_cons_of_mem _ hc⟩
  | bor =>
    simp only [Rp] at h
    obtain ⟨a, o, vs, h1, h2, h3, h4, h5, h6, h7⟩ := h
    subst h4
    exact ⟨a, o, vs, [], h1, h2, h3, h7, by simp⟩
/-- an operation of two peeked things that gives a thing found in them or a scalar -/
def POp (cl : Ec) (r : R2) (f : D → D → Option D) : Prop := ∀ A L H x y u w f1 f2 z Q, Rp cl A L H true x u f1 → Rp cl A L H true y w f2 → f x y = some z → (∀ v fp, Rp cl A L H true z v fp → (∀ a ∈ fp, a ∈ f1 ++ f2) → Q v H) → r u w H Q
def pOp (f : D → D → Option D) (a b : PP) : PP := fun δ => (a δ).bind fun x => (b δ).bind fun y => f x y
theorem sp_op {r : R2} {f : D → D → Option D} {a b : PP} (ho : POp cl r f) (ha : SP cl ta a) (hb : SP cl tb b) : SP cl (tOp r ta tb) (pOp f a b) := fun A L H δ σ g d Q j e k => by
  unfold pOp at e
  obtain ⟨x, e1, e⟩ := Option.bind_eq_some_iff.mp e
  obtain ⟨y, e2, e⟩ := Option.bind_eq_some_iff.mp e
  exact ha A L H δ σ g x _ j e1 fun u f1 h1 n1 => hb A L H δ σ g y _ j e2 fun w f2 h2 n2 => ho A L H x y u w f1 f2 d Q h1 h2 e fun v fp h3 n3 => k v fp h3 fun a ha => by
    rcases List.mem_append.mp (n3 a ha) with q | q
    · exact n1 a q
    · exact n2 a q
def PUn (cl : Ec) (r : V → Hp → VK → Prop) (f : D → Option D) : Prop := ∀ A L H x u f1 z Q, Rp cl A L H true x u f1 → f x = some z → (∀ v fp, Rp cl A L H true z v fp → (∀ a ∈ fp, a ∈ f1) → Q v H) → r u H Q
def pUn (f : D → Option D) (a : PP) : PP := fun δ => (a δ).bind f
theorem sp_un {r : V → Hp → VK → Prop} {f : D → Option D} {a : PP} (ho : PUn cl r f) (ha : SP cl ta a) : SP cl (tUn r ta) (pUn f a) := fun A L H δ σ g d Q j e k => by
  unfold pUn at e
  obtain ⟨x, e1, e⟩ := Option.bind_eq_some_iff.mp e
  exact ha A L H δ σ g x _ j e1 fun u f1 h1 n1 => ho A L H x u f1 d Q h1 e fun v fp h3 n3 => k v fp h3 fun a ha => n1 a (n3 a ha)
/-- from a peek to a value -/
def dP (a : PP) : DE := fun δ => Out.ofO ((a δ).filter D.kept) δ
theorem se_p {a : PP} (ha : SP cl te a) : SE cl xf W p te (dP a) := by
  refine ⟨fun _ δ => Out.same_ofO, fun A L B H δ σ Q j k => ?_⟩
  obtain ⟨d, e, k⟩ := Post.ofO k
  obtain ⟨e1, e2⟩ := Option.filter_eq_some_iff.mp e
  obtain ⟨g, h2, _, _⟩ := j.drop0
  exact ha A L H δ σ g d Q h2 e1 fun v fp h1 n1 => k [v] A H (Nx.refl j.ba) (j.kept e2 h1) v rfl
/-- a pure run is a run -/
theorem SE.to {de : DE} (h : SE cl xf W true te de) : SE cl xf W p te de := by
  cases p with
  | true => exact h
  | false =>
    refine ⟨fun z => (by cases z), fun A L B H δ σ Q j k => h.run A L A H δ σ Q j.toPure ?_⟩
    have hs := h.pure rfl δ
    cases e : de δ with
    | bad => rw [e] at k; exact k
    | exc c xs s =>
      rw [e] at k hs
      cases (show s = δ from hs)
      exact fun d vs A' H' n x j2 => k d vs A' H' (n.weak j.ba) x (j.ofPure n j2)
    | ok d s =>
      rw [e] at k hs
      cases (show s = δ from hs)
      exact fun vs A' H' n j2 => k vs A' H' (n.weak j.ba) (j.ofPure n j2)
/-! ### values: arguments, displays -/
def daNil : DA := fun δ => .ok [] δ
def daCons (a : DE) (r : DA) : DA := fun δ => (a δ).bind fun x δ1 => (r δ1).bind fun xs δ2 => .ok (x :: xs) δ2
theorem sa_nil : SA cl xf W p tNil daNil := ⟨fun _ δ => rfl, fun A L B H δ σ Q j k => k [] A H (Nx.refl j.ba) j⟩
theorem Jt.len {ts : List D} {ws : List V} (j : Jt p cl A L B H ts ws δ σ) : ts.length = ws.length := by
  obtain ⟨f, g, h1, _⟩ := j.ex
  exact h1.length
theorem Jt.one {x : D} {ws : List V} (j : Jt p cl A L B H [x] ws δ σ) : ∃ u f1, ws = [u] ∧ Rp cl A L H false x u f1 := by
  obtain ⟨f0, g, h1, h2, h3, h4⟩ := j.ex
  simp only [Rps] at h1
  obtain ⟨u, vs', f1, f2, rfl, rfl, h5, rfl, rfl⟩ := h1
  exact ⟨u, f1, rfl, h5⟩
theorem Jt.pair {x y : D} {ws : List V} (j : Jt p cl A L B H [x, y] ws δ σ) : ∃ u w f1 f2, ws = [u, w] ∧ Rp cl A L H false x u f1 ∧ Rp cl A L H false y w f2 := by
  obtain ⟨f0, g, h1, h2, h3, h4⟩ := j.ex
  simp only [Rps] at h1
  obtain ⟨u, vs', f1, f2, rfl, rfl, h5, w, vs'', f3, f4, rfl, rfl, h6, rfl, rfl⟩ := h1
  exact ⟨u, w, f1, f3, rfl, h5, h6⟩
theorem same_of {o : Out α} {f : Sl → Out α} (h : p = true → ∀ δ, (f δ).same δ) (e : f δ = o) : p = true → o.same δ := fun hp => e ▸ h hp δ
theorem sa_cons {a : DE} {r : DA} (ha : SE cl xf W p te a) (hr : SA cl xf W p tA r) : SA cl xf W p (tCons te tA) (daCons a r) := by
  refine ⟨fun hp δ => Out.same_bind (ha.pure hp δ) fun x => Out.same_bind (hr.pure hp δ) fun xs => rfl, fun A L B H δ σ Q j k => ?_⟩
  refine ha.run A L B H δ σ _ j (Post.bind (γ := D) k fun x δ1 vs A1 H1 e1 n1 j1 k1 v ev => ?_)
  subst ev
  obtain ⟨B', j2, hb, hj⟩ := j1.seq
  refine hr.run A1 L B' H1 δ1 σ _ j2 ?_
  have k2 := Post.step (A' := A1) (H' := H1) (Post.bind (γ := D) (den0 := fun xs => x :: xs) (Q0 := fun xs vs H2 => Q vs H2) k1 fun xs δ2 vs A2 H2 e2 n2 j2 k2 => k2 vs A2 H2 n2 j2) n1
  exact Post.seq (ts := [x]) (ws := [v]) k2 (same_of hr.pure rfl) j1.lb hb hj (fun a => rfl) (fun a vs H2 q => q)
theorem sz_of {n : Nat} (h : n ≤ 100000) : n ≤ sizeLine := Nat.le_trans h (by decide)
theorem sz_lt {n : Nat} (h : n < 100000) : n < sizeLine := Nat.lt_of_lt_of_le h (by decide)
/-- values made of arguments: the reading's end, the function -/
def dF (F : List D → Option D) (r : DA) : DE := fun δ => (r δ).bind fun xs δ1 => Out.ofO (F xs) δ1
def tF (R : List V → Hp → VK → Prop) (t : TA) : TE := fun σ H Q => t σ H fun xs H1 => R xs H1 Q
def FOp (cl : Ec) (R : List V → Hp → VK → Prop) (F : List D → Option D) : Prop := ∀ p A L B H δ σ xs vs z Q, Jt p cl A L B H xs vs δ σ → F xs = some z → (∀ v A' H', Nx A B H A' H' → Jt p cl A' L B H' [z] [v] δ σ → Q v H') → R vs H Q
theorem se_f {r : DA} {R : List V → Hp → VK → Prop} {F : List D → Option D} (ho : FOp cl R F) (hr : SA cl xf W p tA r) : SE cl xf W p (tF R tA) (dF F r) := by
  refine ⟨fun hp δ => Out.same_bind (hr.pure hp δ) fun x => Out.same_ofO, fun A L B H δ σ Q j k => ?_⟩
  refine hr.run A L B H δ σ _ j (Post.bind (γ := D) k fun xs δ1 vs A1 H1 e1 n1 j1 k1 => ?_)
  obtain ⟨z, e, k2⟩ := Post.ofO k1
  exact ho p A1 L B H1 δ1 σ xs vs z Q j1 e fun v A2 H2 n2 j2 => k2 [v] A2 H2 (n1.trans n2) j2 v rfl
/-- temporaries are frozen -/
theorem Jt.freeze {ts : List D} {ws : List V} (j : Jt p cl A L B H ts ws δ σ) : ∃ A', Nx A B H A' H ∧ Jt p cl A' L B H (frzs ts) ws δ σ := by
  obtain ⟨f, g, h1, h2, h3, h4, h5⟩ := j.ex
  have nd := List.nodup_append.mp h3
  refine ⟨fun a => A a ∧ a ∉ f, ⟨fun a h => .inl h.1, fun a o h _ => h, fun a h => ⟨rfl, j.ba a h, fun q => h4 a q h⟩, fun a h => h⟩, ⟨⟨[], g, ?_, ?_, by simpa using nd.2.1, by simp, h5⟩, j.lb, fun a h => ⟨j.ba a h, fun q => h4 a q h⟩, fun a h => j.ad a h.1⟩⟩
  · exact h1.frz (fun a o _ n q => n q.1) (fun a ha q => q.2 ha)
  · exact h2.step (fun a o h n => ⟨h, fun q => n q.1⟩) (fun a ha => ⟨rfl, (h2.inA a ha).1, fun q => nd.2.2 a q a ha rfl⟩) (fun a h => ⟨rfl, h⟩)
theorem frz_kept {d : D} (h : d.kept = true) : frz d = d := by
  match d, h with
  | .v x, _ => simp [frz]
  | .s x, _ => simp [frz]
  | .n k .shr ds, _ => simp [frz]
theorem kept_frz : ∀ {d : D} {v : V} {fp : List Addr}, Rp cl A L H false d v fp → (frz d).kept = true
  | .v x, v, fp, h => by simp [frz, D.kept]
  | .s x, v, fp, h => by simp [frz, D.kept]
  | .n k .shr ds, v, fp, h => by simp [frz, D.kept]
  | .n k .own ds, v, fp, h => by simp [frz, D.kept]
  | .n k .bor ds, v, fp, h => by
    simp only [Rp] at h
    obtain ⟨_, _, _, _, _, _, h4, _⟩ := h
    simp at h4
theorem kept_frzs : ∀ {ts : List D} {ws : List V} {f : List Addr}, Rps cl A L H false ts ws f → (frzs ts).all D.kept = true
  | [], ws, f, h => by simp [frzs]
  | d :: ds, ws, f, h => by
    simp only [Rps] at h
    obtain ⟨v, vs', f1, f2, h1, h2, h3, h4⟩ := h
    simp [frzs, kept_frz h3, kept_frzs h4]
theorem Jt.freezeK {ts : List D} {ws : List V} (j : Jt p cl A L B H ts ws δ σ) : (frzs ts).all D.kept = true := by
  obtain ⟨f, g, h1, h2, h3, h4⟩ := j.ex
  exact kept_frzs h1
theorem frzs_length : ∀ ts : List D, (frzs ts).length = ts.length
  | [] => rfl
  | d :: ds => by simp [frzs, frzs_length ds]
/-- a list, a tuple: what they hold is kept -/
def mkLst (xs : List D) : Option D := if xs.length ≤ 100000 then some (.n .lst .own (frzs xs)) else none
theorem fop_lst : FOp cl (fun xs H1 Q => xs.length ≤ sizeLine ∧ ∀ p, H1 p = none → Q (.ref p) (upd H1 p (.lst xs))) mkLst := by
  intro p A L B H δ σ xs vs z Q j e k
  unfold mkLst at e
  split at e
  · rename_i hl
    cases e
    refine ⟨by rw [← j.len]; exact sz_of hl, fun p hp => ?_⟩
    obtain ⟨A1, n1, j1⟩ := j.freeze
    have h := j1.alloc (k := .lst) (o := .lst vs) hp rfl
    exact k _ _ _ (n1.trans h.1) h.2
  · cases e
theorem se_lst {r : DA} (hr : SA cl xf W p tA r) : SE cl xf W p (tLst tA) (dF mkLst r) := se_f fop_lst hr
def mkTup (xs : List D) : Option D := if xs.length ≤ 100000 then some (.n .tup .shr (frzs xs)) else none
theorem fop_tup : FOp cl (fun xs H1 Q => xs.length ≤ sizeLine ∧ ∀ p, H1 p = none → Q (.ref p) (upd H1 p (.tup xs))) mkTup := by
  intro p A L B H δ σ xs vs z Q j e k
  unfold mkTup at e
  split at e
  · rename_i hl
    cases e
    refine ⟨by rw [← j.len]; exact sz_of hl, fun p hp => ?_⟩
    have hk := j.freezeK
    obtain ⟨A1, n1, j1⟩ := j.freeze
    have h := j1.allocS (k := .tup) (o := .tup vs) hk hp rfl
    exact k _ _ _ (n1.trans h.1) h.2
  · cases e
theorem se_tup {r : DA} (hr : SA cl xf W p tA r) : SE cl xf W p (tTup tA) (dF mkTup r) := se_f fop_tup hr
def both (a b : DE) : Sl → Out (D × D) := fun δ => (a δ).bind fun x δ1 => (b δ1).bind fun y δ2 => .ok (x, y) δ2
theorem both_pure {a b : DE} (ha : SE cl xf W p ta a) (hb : SE cl xf W p tb b) (hp : p = true) : (both a b δ).same δ := Out.same_bind (ha.pure hp δ) fun x => Out.same_bind (hb.pure hp δ) fun xs => rfl
theorem two {a b : DE} (ha : SE cl xf W p ta a) (hb : SE cl xf W p tb b) {R : V → V → Hp → Prop} (j : Jt p cl A L B H [] [] δ σ) (k : Post cl xf W p (both a b δ) (fun d => [d.1, d.2]) A L B H σ (fun _ vs H' => ∀ u w, vs = [u, w] → R u w H')) : ta σ H fun x H1 => tb σ H1 fun y H2 => R x y H2 := by
  refine ha.run A L B H δ σ _ j (Post.bind (γ := D) k fun x δ1 vs A1 H1 e1 n1 j1 k1 v ev => ?_)
  subst ev
  obtain ⟨B', j2, hb', hj⟩ := j1.seq
  refine hb.run A1 L B' H1 δ1 σ _ j2 ?_
  have k2 := Post.step (A' := A1) (H' := H1) (Post.bind (γ := D) (den0 := fun y => [x, y]) (Q0 := fun y vs H2 => ∀ u w, vs = [u, w] → R u w H2) k1 fun xs δ2 vs A2 H2 e2 n2 j2 k2 => k2 vs A2 H2 n2 j2) n1
  exact Post.seq (ts := [x]) (ws := [v]) k2 (same_of hb.pure rfl) j1.lb hb' hj (fun a => rfl) (fun a vs H2 q w ew => q v w (by rw [ew]; rfl))
/-- an operation of two values that may make a new thing -/
def ROp (cl : Ec) (r : R2) (f : D → D → Option D) : Prop := ∀ p A L B H δ σ x y u w z Q, Jt p cl A L B H [x, y] [u, w] δ σ → f x y = some z → (∀ v A' H', Nx A B H A' H' → Jt p cl A' L B H' [z] [v] δ σ → Q v H') → r u w H Q
def d2 (f : D → D → Option D) (a b : DE) : DE := fun δ => (both a b δ).bind fun x δ2 => Out.ofO (f x.1 x.2) δ2
theorem se_rop {r : R2} {f : D → D → Option D} {a b : DE} (ho : ROp cl r f) (ha : SE cl xf W p ta a) (hb : SE cl xf W p tb b) : SE cl xf W p (tOp r ta tb) (d2 f a b) := by
  refine ⟨fun hp δ => Out.same_bind (both_pure ha hb hp) fun x => Out.same_ofO, fun A L B H δ σ Q j k => ?_⟩
  refine two ha hb j (Post.bind (γ := D) k fun x δ1 vs A1 H1 e1 n1 j1 k1 u w ev => ?_)
  subst ev
  obtain ⟨z, e, k2⟩ := Post.ofO k1
  exact ho p A1 L B H1 δ1 σ _ _ u w z Q j1 e fun v A2 H2 n2 j2 => k2 [v] A2 H2 (n1.trans n2) j2 v rfl
/-- peeking at two values -/
theorem POp.rop {r : R2} {f : D → D → Option D} (ho : POp cl r f) : ROp cl r (fun x y => (f x y).filter D.kept) := by
  intro p A L B H δ σ x y u w z Q j e k
  obtain ⟨u', w', f1, f2, e0, h1, h2⟩ := j.pair
  cases e0
  obtain ⟨e1, e2⟩ := Option.filter_eq_some_iff.mp e
  exact ho A L H x y u w f1 f2 z Q h1.weak h2.weak e1 fun v fp h7 _ => k v A H (Nx.refl j.ba) (j.kept e2 h7)
theorem POp.rops {r : R2} {f : D → D → Option D} (ho : POp cl r f) (hk : ∀ x y z, f x y = some z → z.kept = true) : ROp cl r f := by
  intro p A L B H δ σ x y u w z Q j e k
  exact ho.rop p A L B H δ σ x y u w z Q j (Option.filter_eq_some_iff.mpr ⟨e, hk x y z e⟩) k
def RUn (cl : Ec) (r : V → Hp → VK → Prop) (f : D → Option D) : Prop := ∀ p A L B H δ σ x u z Q, Jt p cl A L B H [x] [u] δ σ → f x = some z → (∀ v A' H', Nx A B H A' H' → Jt p cl A' L B H' [z] [v] δ σ → Q v H') → r u H Q
def d1 (f : D → Option D) (a : DE) : DE := fun δ => (a δ).bind fun x δ2 => Out.ofO (f x) δ2
theorem se_run {r : V → Hp → VK → Prop} {f : D → Option D} {a : DE} (ho : RUn cl r f) (ha : SE cl xf W p ta a) : SE cl xf W p (tUn r ta) (d1 f a) := by
  refine ⟨fun hp δ => Out.same_bind (ha.pure hp δ) fun x => Out.same_ofO, fun A L B H δ σ Q j k => ?_⟩
  refine ha.run A L B H δ σ _ j (Post.bind (γ := D) k fun x δ1 vs A1 H1 e1 n1 j1 k1 u ev => ?_)
  subst ev
  obtain ⟨z, e, k2⟩ := Post.ofO k1
  exact ho p A1 L B H1 δ1 σ _ u z Q j1 e fun v A2 H2 n2 j2 => k2 [v] A2 H2 (n1.trans n2) j2 v rfl
theorem PUn.run {r : V → Hp → VK → Prop} {f : D → Option D} (ho : PUn cl r f) : RUn cl r (fun x => (f x).filter D.kept) := by
  intro p A L B H δ σ x u z Q j e k
  obtain ⟨u', f1, e0, h1⟩ := j.one
  cases e0
  obtain ⟨e1, e2⟩ := Option.filter_eq_some_iff.mp e
  exact ho A L H x u f1 z Q h1.weak e1 fun v fp h7 _ => k v A H (Nx.refl j.ba) (j.kept e2 h7)
/-- a peeked base, a pure index -/
def dIxP (f : D → D → Option D) (a : PP) (b : DE) : DE := fun δ => match a δ with
  | some x => (b δ).bind fun y δ2 => Out.ofO ((f x y).filter D.kept) δ2
  | none => .bad
theorem se_ixp {r : R2} {f : D → D → Option D} {a : PP} {b : DE} (ho : POp cl r f) (ha : SP cl ta a) (hb : SE cl xf W true tb b) : SE cl xf W p (tOp r ta tb) (dIxP f a b) := by
  refine SE.to ⟨fun _ δ => ?_, fun A L B H δ σ Q j k => ?_⟩
  · unfold dIxP
    split
    · exact Out.same_bind (hb.pure rfl δ) fun x => Out.same_ofO
    · trivial
  · unfold dIxP at k
    split at k
    · rename_i x e1
      obtain ⟨g0, hg0, _, _⟩ := j.drop0
      refine ha A L H δ σ g0 x _ hg0 e1 fun u f1 h1 _ => ?_
      have hs := hb.pure rfl δ
      refine hb.run A L A H δ σ _ j.toPure ?_
      cases e2 : b δ with
      | bad => rw [e2] at k; exact k
      | exc c xs s =>
        rw [e2] at k hs
        cases (show s = δ from hs)
        exact fun d vs A' H' n x j2 => k d vs A' H' (n.weak j.ba) x (j.ofPure n j2)
      | ok y s =>
        rw [e2] at k hs
        cases (show s = δ from hs)
        intro vs A' H' n j2 w ew
        subst ew
        obtain ⟨z, e, k2⟩ := Post.ofO k
        obtain ⟨e3, e4⟩ := Option.filter_eq_some_iff.mp e
        obtain ⟨w', f2, ew, h2⟩ := j2.one
        cases ew
        have h1' := h1.step (A' := A') (L' := L) (H' := H') n.both (fun a ha => n.prot a (h1.inA a ha).1) (fun _ a hl => ⟨(n.prot a (j.ba a (j.lb a hl))).1, hl⟩)
        exact ho A' L H' x y u w f1 f2 z Q h1' h2.weak e3 fun v fp h7 _ => k2 [v] A' H' (n.weak j.ba) ((j.ofPure n j2).kept e4 h7) v rfl
    · exact k.elim
end
end Fs
/-! F3 -/
/-! Operations. -/
namespace Fs
open PySem L2
section
variable {cl : Ec} {xf : Nat → List Str} {W : WX} {A A' L B : Addr → Prop} {H H' : Hp} {δ δ' : Sl} {σ : L2.St} {p q b : Bool} {te ta tb tc : TE} {tA : TA} {tt tu : TT}
/-! lists by place -/
theorem Rps.at {ds : List D} {vs : List V} {fp : List Addr} {i : Int} {d : D} (h : Rps cl A L H b ds vs fp) (e : atI ds i = some d) : ∃ v f1, atI vs i = some v ∧ Rp cl A L H b d v f1 ∧ ∀ a ∈ f1, a ∈ fp := by
  unfold atI at e ⊢
  rw [← h.length]
  cases e1 : ixN ds.length i with
  | none => rw [e1] at e; cases e
  | some j =>
    rw [e1] at e
    exact h.get e
def lkD {α : Type} : List Key → List α → Key → Option α
  | k :: ks, x :: xs, y => if k = y then some x else lkD ks xs y
  | _, _, _ => none
theorem lkD_valV : ∀ (ks : List Key) (vs : List V) (y : Key), valV (ks.zip vs) y = lkD ks vs y
  | [], vs, y => by simp [lkD, valV]
  | k :: ks, [], y => by simp [lkD, valV]
  | k :: ks, v :: vs, y => by
    rw [List.zip_cons_cons]
    by_cases h : k = y
    · rw [valV_pos (p := (k, v)) h]; simp [lkD, h]
    · rw [valV_neg (p := (k, v)) h, lkD_valV ks vs y]; simp [lkD, h]
theorem Rps.lk : ∀ {ks : List Key} {ds : List D} {vs : List V} {fp : List Addr} {y : Key} {d : D}, Rps cl A L H b ds vs fp → lkD ks ds y = some d → ∃ v f1, lkD ks vs y = some v ∧ Rp cl A L H b d v f1 ∧ ∀ a ∈ f1, a ∈ fp
  | [], ds, vs, fp, y, d, h, e => by simp [lkD] at e
  | k :: ks, [], vs, fp, y, d, h, e => by simp [lkD] at e
  | k :: ks, d0 :: ds, vs, fp, y, d, h, e => by
    simp only [Rps] at h
    obtain ⟨v, vs', f1, f2, rfl, rfl, h3, h4⟩ := h
    unfold lkD at e ⊢
    by_cases hk : k = y
    · rw [if_pos hk] at e ⊢
      cases e
      exact ⟨v, f1, rfl, h3, fun a ha => List.mem_append_left _ ha⟩
    · rw [if_neg hk] at e ⊢
      obtain ⟨v2, f3, g1, g2, g3⟩ := Rps.lk h4 e
      exact ⟨v2, f3, g1, g2, fun a ha => List.mem_append_right _ (g3 a ha)⟩
theorem Rps.lkN : ∀ {ks : List Key} {ds : List D} {vs : List V} {fp : List Addr} {y : Key}, Rps cl A L H b ds vs fp → lkD ks ds y = none → lkD ks vs y = none
  | [], ds, vs, fp, y, h, e => by simp [lkD]
  | k :: ks, [], vs, fp, y, h, e => by simp only [Rps] at h; rw [h.1]; simp [lkD]
  | k :: ks, d0 :: ds, vs, fp, y, h, e => by
    simp only [Rps] at h
    obtain ⟨v, vs', f1, f2, rfl, rfl, h3, h4⟩ := h
    unfold lkD at e ⊢
    by_cases hk : k = y
    · rw [if_pos hk] at e; cases e
    · rw [if_neg hk] at e ⊢
      exact Rps.lkN h4 e
/-- a subscript, whatever the thing -/
def rIxA (K : PySem.W.Frag) : R2 := fun x y H Q => rIx K x y H Q ∨ ∃ a v, x = .ref a ∧ DGet H a y (some v) ∧ Q v H
def ixD : D → D → Option D
  | .n .lst _ xs, .v (.int i) => atI xs i
  | .s ns, .v (.int i) => (atI ns i).map fun n => D.int n
  | .n .tup _ xs, .v (.int i) => atI xs i
  | .n (.dct ks) _ xs, .v (.int i) => lkD ks xs (.inl i)
  | .n (.dct ks) _ xs, .v (.str s) => lkD ks xs (.inr s)
  | .v (.str s), .v (.int i) => if s.length ≤ 100000 then (atI s.cps.toList i).map fun c => D.str ⟨#[c]⟩ else none
  | _, _ => none
theorem pop_ix : POp cl (rIxA cl.K) ixD := by
  intro A L H x y u w f1 f2 z Q h1 h2 e k
  unfold ixD at e
  split at e
  · rename_i fl xs i
    obtain ⟨rfl, rfl, _⟩ := h2.leafv
    obtain ⟨a, o, vs, fp', rfl, ho, hs, hr, hf⟩ := h1.node
    cases hs
    obtain ⟨v, f3, g1, g2, g3⟩ := hr.at e
    exact .inl (.inl ⟨a, vs, i, v, rfl, rfl, SqL.of ho, g1, k v f3 g2 fun c hc => List.mem_append_left _ (hf c (g3 c hc))⟩)
  · rename_i ns i
    obtain ⟨rfl, rfl, _⟩ := h2.leafv
    obtain ⟨a, rfl, hs, rfl, _⟩ := h1.scr
    obtain ⟨n, e1, rfl⟩ := Option.map_eq_some_iff.mp e
    refine .inl (.inl ⟨a, ns.map V.int, i, .int n, rfl, rfl, hs, ?_, k _ [] (Rp.leaf rfl) (by simp)⟩)
    unfold atI at e1 ⊢
    rw [List.length_map]
    cases e2 : ixN ns.length i with
    | none => rw [e2] at e1; cases e1
    | some j =>
      rw [e2] at e1
      simp only [Option.bind_some] at e1 ⊢
      rw [List.getElem?_map, e1]
      rfl
  · rename_i fl xs i
    obtain ⟨rfl, rfl, _⟩ := h2.leafv
    obtain ⟨a, o, vs, fp', rfl, ho, hs, hr, hf⟩ := h1.node
    cases hs
    obtain ⟨v, f3, g1, g2, g3⟩ := hr.at e
    exact .inl (.inr (.inl ⟨a, vs, i, v, rfl, rfl, SqT.of ho, g1, k v f3 g2 fun c hc => List.mem_append_left _ (hf c (g3 c hc))⟩))
  · rename_i ks fl xs i
    obtain ⟨rfl, rfl, _⟩ := h2.leafv
    obtain ⟨a, o, vs, fp', rfl, ho, ⟨hl, hs⟩, hr, hf⟩ := h1.node
    subst hs
    obtain ⟨v, f3, g1, g2, g3⟩ := hr.lk e
    refine .inr ⟨a, v, rfl, ?_, k v f3 g2 fun c hc => List.mem_append_left _ (hf c (g3 c hc))⟩
    rw [← g1, ← lkD_valV]
    exact DGet.k (k := Sum.inl i) ho
  · rename_i ks fl xs s
    obtain ⟨rfl, rfl, _⟩ := h2.leafv
    obtain ⟨a, o, vs, fp', rfl, ho, ⟨hl, hs⟩, hr, hf⟩ := h1.node
    subst hs
    obtain ⟨v, f3, g1, g2, g3⟩ := hr.lk e
    refine .inr ⟨a, v, rfl, ?_, k v f3 g2 fun c hc => List.mem_append_left _ (hf c (g3 c hc))⟩
    rw [← g1, ← lkD_valV]
    exact DGet.k (k := Sum.inr s) ho
  · rename_i s i
    obtain ⟨rfl, rfl, _⟩ := h1.leafv
    obtain ⟨rfl, rfl, _⟩ := h2.leafv
    split at e
    · rename_i hl
      obtain ⟨c, e1, rfl⟩ := Option.map_eq_some_iff.mp e
      exact .inl (.inr (.inr ⟨s, i, c, rfl, rfl, sz_of hl, e1, k _ [] (Rp.leaf rfl) (by simp)⟩))
    · cases e
  · cases e
/-! ints -/
def f2I (g : Int → Int → Option V) : D → D → Option D
  | .v (.int i), .v (.int j) => (g i j).map D.v
  | _, _ => none
theorem f2I_kept {g : Int → Int → Option V} : ∀ x y z, f2I g x y = some z → z.kept = true := by
  intro x y z e
  unfold f2I at e
  split at e
  · obtain ⟨v, _, rfl⟩ := Option.map_eq_some_iff.mp e; rfl
  · cases e
theorem pop_I0 {g : Int → Int → V} (hg : ∀ i j, sc (g i j) = true) : POp cl (rI0 g) (f2I fun i j => some (g i j)) := by
  intro A L H x y u w f1 f2 z Q h1 h2 e k
  unfold f2I at e
  split at e
  · rename_i i j
    cases e
    obtain ⟨rfl, rfl, _⟩ := h1.leafv
    obtain ⟨rfl, rfl, _⟩ := h2.leafv
    exact ⟨i, j, rfl, rfl, k _ [] (Rp.leaf (hg i j)) (by simp)⟩
  · cases e
theorem pop_I {C : Int → Int → Prop} {g : Int → Int → V} {c : Int → Int → Bool} (hc : ∀ i j, c i j = true → C i j) (hg : ∀ i j, sc (g i j) = true) : POp cl (rI C g) (f2I fun i j => if c i j then some (g i j) else none) := by
  intro A L H x y u w f1 f2 z Q h1 h2 e k
  unfold f2I at e
  split at e
  · rename_i i j
    simp only at e
    split at e
    · rename_i hij
      cases e
      obtain ⟨rfl, rfl, _⟩ := h1.leafv
      obtain ⟨rfl, rfl, _⟩ := h2.leafv
      exact ⟨i, j, rfl, rfl, hc i j hij, k _ [] (Rp.leaf (hg i j)) (by simp)⟩
    · cases e
  · cases e
def cMul (i j : Int) : Bool := decide (i.natAbs < 2 ^ 64) || decide (j.natAbs < 2 ^ 64)
theorem cMul_ok (i j : Int) (h : cMul i j = true) : CMul i j := by
  unfold cMul at h
  simp only [Bool.or_eq_true, decide_eq_true_eq] at h
  rcases h with h | h
  · exact .inl ⟨by omega, by omega⟩
  · exact .inr ⟨by omega, by omega⟩
def cDiv (i j : Int) : Bool := decide (0 < j) && decide (j < 1073741824)
theorem cDiv_ok (i j : Int) (h : cDiv i j = true) : CDiv i j := by
  unfold cDiv at h
  simp only [Bool.and_eq_true, decide_eq_true_eq] at h
  exact h
def cMod (i j : Int) : Bool := decide (0 < j)
theorem cMod_ok (i j : Int) (h : cMod i j = true) : 0 < j := by unfold cMod at h; simpa using h
def cPow (i j : Int) : Bool := decide (0 ≤ j) && decide (j ≤ 1000000) && decide (i.natAbs < 2 ^ 64)
theorem cPow_ok (i j : Int) (h : cPow i j = true) : CPow i j := by
  unfold cPow at h
  simp only [Bool.and_eq_true, decide_eq_true_eq] at h
  exact ⟨h.1.1, h.1.2, h.2⟩
abbrev subD := f2I fun i j => some (.int (i - j))
abbrev mulD := f2I fun i j => if cMul i j then some (.int (i * j)) else none
abbrev divD := f2I fun i j => if cDiv i j then some (.int (i / j)) else none
abbrev modD := f2I fun i j => if cMod i j then some (.int (i % j)) else none
abbrev powD := f2I fun i j => if cPow i j then some (.int (i ^ j.toNat)) else none
abbrev ltD := f2I fun i j => some (.bl (decide (i < j)))
abbrev leD := f2I fun i j => some (.bl (decide (i ≤ j)))
abbrev gtD := f2I fun i j => some (.bl (decide (j < i)))
abbrev geD := f2I fun i j => some (.bl (decide (j ≤ i)))
/-! sums: of ints, texts, lists, tuples -/
def rAddA (K : PySem.W.Frag) : R2 := fun x y H Q => ((rI0 fun i j => .int (i + j)) x y H Q ∨ (∃ i j, x = .str i ∧ y = .str j ∧ i.length + j.length ≤ sizeLine ∧ Q (.str (i ++ j)) H)) ∨ rCat x y H Q ∨ rCatT K x y H Q
def addD : D → D → Option D
  | .v (.int i), .v (.int j) => some (.int (i + j))
  | .v (.str s), .v (.str t) => if s.length + t.length ≤ 100000 then some (.str (s ++ t)) else none
  | .n .lst _ xs, .n .lst _ ys => if xs.length + ys.length ≤ 100000 ∧ xs.all D.kept = true ∧ ys.all D.kept = true then some (.n .lst .own (xs ++ ys)) else none
  | .n .tup _ (x :: xs), .n .tup _ (y :: ys) => if xs.length + ys.length ≤ 100000 ∧ (x :: xs).all D.kept = true ∧ (y :: ys).all D.kept = true then some (.n .tup .shr ((x :: xs) ++ (y :: ys))) else none
  | _, _ => none
theorem Rps.keptS : ∀ {ds : List D} {vs : List V} {fp : List Addr}, ds.all D.kept = true → Rps cl A L H b ds vs fp → Rps cl A L H false ds vs []
  | [], vs, fp, _, h => by simp only [Rps] at h ⊢; exact ⟨h.1, trivial⟩
  | d :: ds, vs, fp, hk, h => by
    simp only [Rps] at h ⊢
    obtain ⟨v, vs', f1, f2, h1, h2, h3, h4⟩ := h
    simp only [List.all_cons, Bool.and_eq_true] at hk
    have h5 := h3.strong hk.1
    obtain ⟨h5, rfl⟩ := h5
    exact ⟨v, vs', [], [], h1, rfl, h5, Rps.keptS hk.2 h4⟩
/-- things found, kept, as temporaries -/
theorem Jt.keptL {ts : List D} {ws : List V} {ds : List D} {vs : List V} {fp : List Addr} (j : Jt p cl A L B H ts ws δ σ) (hk : ds.all D.kept = true) (h : Rps cl A L H b ds vs fp) : Jt p cl A L B H ds vs δ σ := by
  obtain ⟨g, h2, h3, h5⟩ := j.drop0
  exact ⟨⟨[], g, h.keptS hk, h2, by simpa using h3, by simp, h5⟩, j.lb, j.ba, j.ad⟩
theorem rop_add {K : PySem.W.Frag} : ROp cl (rAddA K) addD := by
  intro p A L B H δ σ x y u w z Q j e k
  obtain ⟨u', w', f1, f2, e0, h1, h2⟩ := j.pair
  cases e0
  unfold addD at e
  split at e
  · rename_i i j'
    cases e
    obtain ⟨rfl, rfl, _⟩ := h1.leafv
    obtain ⟨rfl, rfl, _⟩ := h2.leafv
    exact .inl (.inl ⟨i, j', rfl, rfl, k _ A H (Nx.refl j.ba) (j.leaf rfl)⟩)
  · rename_i s t
    split at e
    · rename_i hl
      cases e
      obtain ⟨rfl, rfl, _⟩ := h1.leafv
      obtain ⟨rfl, rfl, _⟩ := h2.leafv
      exact .inl (.inr ⟨s, t, rfl, rfl, sz_of hl, k _ A H (Nx.refl j.ba) (j.leaf rfl)⟩)
    · cases e
  · rename_i fl xs fl' ys
    split at e
    · rename_i hl
      cases e
      obtain ⟨a, o, vs, fp', rfl, ho, hs, hr, hf⟩ := h1.node
      obtain ⟨a', o', vs', fp'', rfl, ho', hs', hr', hf'⟩ := h2.node
      cases hs
      cases hs'
      refine .inr (.inl ⟨a, a', vs, vs', rfl, rfl, ho, ho', by rw [← hr.length, ← hr'.length]; exact sz_of hl.1, fun p0 hp => ?_⟩)
      have hk : (xs ++ ys).all D.kept = true := by rw [List.all_append, hl.2.1, hl.2.2]; rfl
      have j2 := j.keptL hk (hr.append hr')
      have h := j2.alloc (k := .lst) (o := .lst (vs ++ vs')) hp rfl
      exact k _ _ _ h.1 h.2
    · cases e
  · rename_i fl x0 xs fl' y0 ys
    split at e
    · rename_i hl
      cases e
      obtain ⟨a, o, vs, fp', rfl, ho, hs, hr, hf⟩ := h1.node
      obtain ⟨a', o', vs', fp'', rfl, ho', hs', hr', hf'⟩ := h2.node
      cases hs
      cases hs'
      have l1 := hr.length
      have l2 := hr'.length
      have hk : ((x0 :: xs) ++ (y0 :: ys)).all D.kept = true := by rw [List.all_append, hl.2.1, hl.2.2]; rfl
      refine .inr (.inr ⟨a, a', vs, vs', rfl, rfl, SqT.of ho, SqT.of ho', by intro z; rw [z] at l1; simp at l1, ?_, ?_⟩)
      · rw [← l1, ← l2]
        simp only [List.length_cons]
        exact Nat.le_trans (Nat.add_le_add_right (Nat.add_le_add_right (Nat.le_refl _) _) _) (by have := hl.1; have h16 := PySem.sizeLine_eq; omega)
      · refine ⟨fun z => by rw [z] at l2; simp at l2, fun _ p0 hp => ?_⟩
        have j2 := j.keptL hk (hr.append hr')
        have h := j2.allocS (k := .tup) (o := .tup (vs ++ vs')) hk hp rfl
        exact k _ _ _ h.1 h.2
    · cases e
  · cases e
end
end Fs
/-! F4 -/
/-! Truths, tests, comparisons, built-in functions. -/
namespace Fs
open PySem L2
section
variable {cl : Ec} {xf : Nat → List Str} {W : WX} {A A' L B : Addr → Prop} {H H' : Hp} {δ δ' : Sl} {σ : L2.St} {p q b : Bool} {te ta tb tc : TE} {tA : TA} {tt tu : TT}
/-! ### truths as values -/
def dAnd (a b : DE) : DE := fun δ => (a δ).bind fun x δ1 => match x with | .v (.bl true) => b δ1 | .v (.bl false) => .ok (.bl false) δ1 | _ => .bad
def dOr (a b : DE) : DE := fun δ => (a δ).bind fun x δ1 => match x with | .v (.bl true) => .ok (.bl true) δ1 | .v (.bl false) => b δ1 | _ => .bad
def notD : D → Option D | .v (.bl c) => some (.bl !c) | _ => none
theorem se_and {a b : DE} (ha : SE cl xf W p ta a) (hb : SE cl xf W p tb b) : SE cl xf W p (tAndV ta tb) (dAnd a b) := by
  refine ⟨fun hp δ => Out.same_bind (ha.pure hp δ) fun x => ?_, fun A L B H δ σ Q j k => ?_⟩
  · split
    · exact hb.pure hp δ
    · rfl
    · trivial
  · refine ha.run A L B H δ σ _ j (Post.bind (γ := D) k fun x δ1 vs A1 H1 e1 n1 j1 k1 v ev => ?_)
    subst ev
    obtain ⟨u', f1, e0, h1⟩ := j1.one
    cases e0
    split at k1
    · obtain ⟨rfl, _, _⟩ := h1.leafv
      refine ⟨true, rfl, ?_⟩
      rw [if_pos rfl]
      exact hb.run A1 L B H1 δ1 σ Q j1.drop (Post.step k1 n1)
    · obtain ⟨rfl, _, _⟩ := h1.leafv
      exact ⟨false, rfl, k1 _ A1 H1 n1 j1 _ rfl⟩
    · exact k1.elim
theorem se_or {a b : DE} (ha : SE cl xf W p ta a) (hb : SE cl xf W p tb b) : SE cl xf W p (tOrV ta tb) (dOr a b) := by
  refine ⟨fun hp δ => Out.same_bind (ha.pure hp δ) fun x => ?_, fun A L B H δ σ Q j k => ?_⟩
  · split
    · rfl
    · exact hb.pure hp δ
    · trivial
  · refine ha.run A L B H δ σ _ j (Post.bind (γ := D) k fun x δ1 vs A1 H1 e1 n1 j1 k1 v ev => ?_)
    subst ev
    obtain ⟨u', f1, e0, h1⟩ := j1.one
    cases e0
    split at k1
    · obtain ⟨rfl, _, _⟩ := h1.leafv
      exact ⟨true, rfl, k1 _ A1 H1 n1 j1 _ rfl⟩
    · obtain ⟨rfl, _, _⟩ := h1.leafv
      exact ⟨false, rfl, hb.run A1 L B H1 δ1 σ Q j1.drop (Post.step k1 n1)⟩
    · exact k1.elim
/-- one operation of one value that gives a scalar and asks nothing of the heap -/
def d1S (f : D → Option D) (a : DE) : DE := fun δ => (a δ).bind fun x δ1 => Out.ofO (f x) δ1
theorem se_not {a : DE} (ha : SE cl xf W p ta a) : SE cl xf W p (tNotV ta) (d1S notD a) := by
  refine ⟨fun hp δ => Out.same_bind (ha.pure hp δ) fun x => Out.same_ofO, fun A L B H δ σ Q j k => ?_⟩
  refine ha.run A L B H δ σ _ j (Post.bind (γ := D) k fun x δ1 vs A1 H1 e1 n1 j1 k1 v ev => ?_)
  subst ev
  obtain ⟨z, e, k2⟩ := Post.ofO k1
  obtain ⟨u', f1, e0, h1⟩ := j1.one
  cases e0
  unfold notD at e
  split at e
  · rename_i c
    cases e
    obtain ⟨rfl, _, _⟩ := h1.leafv
    exact ⟨c, rfl, k2 _ A1 H1 n1 (j1.leaf rfl) _ rfl⟩
  · cases e
/-! ### tests -/
def dtV (a : DE) : DT := fun δ => (a δ).bind fun x δ1 => match x with | .v (.bl c) => .ok c δ1 | _ => .bad
theorem sb_v {a : DE} (ha : SE cl xf W p ta a) : SB cl xf W p (tB ta) (dtV a) := by
  refine ⟨fun hp δ => Out.same_bind (ha.pure hp δ) fun x => ?_, fun A L B H δ σ Q j k => ?_⟩
  · split
    · rfl
    · trivial
  · refine ha.run A L B H δ σ _ j (Post.bind (γ := D) k fun x δ1 vs A1 H1 e1 n1 j1 k1 v ev => ?_)
    subst ev
    obtain ⟨u', f1, e0, h1⟩ := j1.one
    cases e0
    split at k1
    · rename_i c
      obtain ⟨rfl, _, _⟩ := h1.leafv
      exact ⟨c, rfl, k1 [] A1 H1 n1 j1.drop⟩
    · exact k1.elim
def dtAnd (a b : DT) : DT := fun δ => (a δ).bind fun x δ1 => match x with | true => b δ1 | false => .ok false δ1
def dtOr (a b : DT) : DT := fun δ => (a δ).bind fun x δ1 => match x with | true => .ok true δ1 | false => b δ1
def dtNot (a : DT) : DT := fun δ => (a δ).bind fun x δ1 => .ok (!x) δ1
theorem sb_and {a b : DT} (ha : SB cl xf W p tt a) (hb : SB cl xf W p tu b) : SB cl xf W p (tAnd tt tu) (dtAnd a b) := by
  refine ⟨fun hp δ => Out.same_bind (ha.pure hp δ) fun x => ?_, fun A L B H δ σ Q j k => ?_⟩
  · split
    · exact hb.pure hp δ
    · rfl
  · refine ha.run A L B H δ σ _ j (Post.bind (γ := D) k fun x δ1 vs A1 H1 e1 n1 j1 k1 => ?_)
    cases x with
    | true => rw [if_pos rfl]; exact hb.run A1 L B H1 δ1 σ Q j1.drop (Post.step k1 n1)
    | false => exact k1 [] A1 H1 n1 j1.drop
theorem sb_or {a b : DT} (ha : SB cl xf W p tt a) (hb : SB cl xf W p tu b) : SB cl xf W p (tOr tt tu) (dtOr a b) := by
  refine ⟨fun hp δ => Out.same_bind (ha.pure hp δ) fun x => ?_, fun A L B H δ σ Q j k => ?_⟩
  · split
    · rfl
    · exact hb.pure hp δ
  · refine ha.run A L B H δ σ _ j (Post.bind (γ := D) k fun x δ1 vs A1 H1 e1 n1 j1 k1 => ?_)
    cases x with
    | true => exact k1 [] A1 H1 n1 j1.drop
    | false => exact hb.run A1 L B H1 δ1 σ Q j1.drop (Post.step k1 n1)
theorem sb_not {a : DT} (ha : SB cl xf W p tt a) : SB cl xf W p (tNot tt) (dtNot a) := by
  refine ⟨fun hp δ => Out.same_bind (ha.pure hp δ) fun x => rfl, fun A L B H δ σ Q j k => ?_⟩
  exact ha.run A L B H δ σ _ j (Post.bind (γ := D) k fun x δ1 vs A1 H1 e1 n1 j1 k1 => k1 [] A1 H1 n1 j1.drop)
def dIf (t : DT) (a b : DE) : DE := fun δ => (t δ).bind fun x δ1 => match x with | true => a δ1 | false => b δ1
theorem se_if {t : DT} {a b : DE} (ht : SB cl xf W p tt t) (ha : SE cl xf W p ta a) (hb : SE cl xf W p tb b) : SE cl xf W p (tIf tt ta tb) (dIf t a b) := by
  refine ⟨fun hp δ => Out.same_bind (ht.pure hp δ) fun x => ?_, fun A L B H δ σ Q j k => ?_⟩
  · split
    · exact ha.pure hp δ
    · exact hb.pure hp δ
  · refine ht.run A L B H δ σ _ j (Post.bind (γ := D) k fun x δ1 vs A1 H1 e1 n1 j1 k1 => ?_)
    cases x with
    | true => rw [if_pos rfl]; exact ha.run A1 L B H1 δ1 σ Q j1.drop (Post.step k1 n1)
    | false => exact hb.run A1 L B H1 δ1 σ Q j1.drop (Post.step k1 n1)
theorem SB.to {dt : DT} (h : SB cl xf W true tt dt) : SB cl xf W p tt dt := by
  cases p with
  | true => exact h
  | false =>
    refine ⟨fun z => (by cases z), fun A L B H δ σ Q j k => h.run A L A H δ σ Q j.toPure ?_⟩
    have hs := h.pure rfl δ
    cases e : dt δ with
    | bad => rw [e] at k; exact k
    | exc c xs s =>
      rw [e] at k hs
      cases (show s = δ from hs)
      exact fun d vs A' H' n x j2 => k d vs A' H' (n.weak j.ba) x (j.ofPure n j2)
    | ok d s =>
      rw [e] at k hs
      cases (show s = δ from hs)
      exact fun vs A' H' n j2 => k vs A' H' (n.weak j.ba) (j.ofPure n j2)
/-! ### a < b < c -/
def dCh (f g : D → D → Option D) (a b c : DE) : DE := fun δ => (both a b δ).bind fun xy δ1 => match f xy.1 xy.2 with
  | some (.v (.bl true)) => (c δ1).bind fun z δ2 => Out.ofO ((g xy.2 z).filter D.kept) δ2
  | some (.v (.bl false)) => .ok (.bl false) δ1
  | _ => .bad
theorem Jt.triple {x y z : D} {ws : List V} (j : Jt p cl A L B H [x, y, z] ws δ σ) : ∃ u w t f1 f2 f3, ws = [u, w, t] ∧ Rp cl A L H false x u f1 ∧ Rp cl A L H false y w f2 ∧ Rp cl A L H false z t f3 := by
  obtain ⟨f0, g, h1, h2, h3, h4⟩ := j.ex
  simp only [Rps] at h1
  obtain ⟨u, vs', f1, f2, rfl, rfl, h5, w, vs'', f3, f4, rfl, rfl, h6, t, vs3, f5, f6, rfl, rfl, h7, rfl, rfl⟩ := h1
  exact ⟨u, w, t, f1, f3, f5, rfl, h5, h6, h7⟩
theorem se_ch {r r' : R2} {f g : D → D → Option D} {a b c : DE} (hf : POp cl r f) (hg : POp cl r' g) (ha : SE cl xf W p ta a) (hb : SE cl xf W p tb b) (hc : SE cl xf W p tc c) : SE cl xf W p (tChain r r' ta tb tc) (dCh f g a b c) := by
  refine ⟨fun hp δ => Out.same_bind (both_pure ha hb hp) fun x => ?_, fun A L B H δ σ Q j k => ?_⟩
  · split
    · exact Out.same_bind (hc.pure hp δ) fun x => Out.same_ofO
    · rfl
    · trivial
  · refine two ha hb j (Post.bind (γ := D) k fun x δ1 vs A1 H1 e1 n1 j1 k1 u w ev => ?_)
    subst ev
    obtain ⟨x, y⟩ := x
    obtain ⟨u', w', f1, f2, e0, h1, h2⟩ := j1.pair
    cases e0
    split at k1
    · rename_i e2
      refine hf A1 L H1 x y u w f1 f2 _ _ h1.weak h2.weak e2 fun v fp h3 _ => ?_
      obtain ⟨rfl, _, _⟩ := h3.leafv
      refine ⟨true, rfl, ?_⟩
      rw [if_pos rfl]
      obtain ⟨B', j2, hb', hj⟩ := j1.seq
      refine hc.run A1 L B' H1 δ1 σ _ j2 ?_
      have k2 := Post.step (A' := A1) (H' := H1) (Post.bind (γ := D) (den0 := fun z => [x, y, z]) (Q0 := fun z vs H2 => ∀ t, vs = [u, w, t] → r' w t H2 Q) k1 fun z δ2 vs A2 H2 e3 n2 j3 k3 t ev => ?_) n1
      · exact Post.seq (ts := [x, y]) (ws := [u, w]) k2 (same_of hc.pure rfl) j1.lb hb' hj (fun a => rfl) (fun a vs H2 q t et => q t (by rw [et]; rfl))
      · subst ev
        obtain ⟨o, eo, k4⟩ := Post.ofO k3
        obtain ⟨e5, e6⟩ := Option.filter_eq_some_iff.mp eo
        obtain ⟨u2, w2, t2, g1, g2, g3, e7, h5, h6, h7⟩ := j3.triple
        cases e7
        exact hg A2 L H2 y z w t g2 g3 o Q h6.weak h7.weak e5 fun v fp h8 _ => k4 [v] A2 H2 n2 (j3.kept e6 h8) v rfl
    · rename_i e2
      refine hf A1 L H1 x y u w f1 f2 _ _ h1.weak h2.weak e2 fun v fp h3 _ => ?_
      obtain ⟨rfl, _, _⟩ := h3.leafv
      exact ⟨false, rfl, k1 _ A1 H1 n1 (j1.leaf rfl) _ rfl⟩
    · exact k1.elim
/-! ### equality of data -/
mutual
def pd : D → Option PyData
  | .v .non => some .none
  | .v (.bl b) => some (.bool b)
  | .v (.int i) => some (.int i)
  | .v (.str s) => some (.str s)
  | .n .lst _ xs => (pds xs).map .list
  | .n .tup _ xs => (pds xs).map .tuple
  | _ => none
def pds : List D → Option (List PyData)
  | [] => some []
  | d :: ds => (pd d).bind fun x => (pds ds).map fun xs => x :: xs
end
mutual
theorem Rp.dp {K : PySem.W.Frag} : ∀ {d : D} {v : V} {fp : List Addr} {b : Bool} {e : PyData}, Rp cl A L H b d v fp → pd d = some e → Dp K H v e
  | .v .non, v, fp, b, e, h, he => by obtain ⟨rfl, _, _⟩ := h.leafv; simp only [pd, Option.some.injEq] at he; subst he; exact .non
  | .v (.bl c), v, fp, b, e, h, he => by obtain ⟨rfl, _, _⟩ := h.leafv; simp only [pd, Option.some.injEq] at he; subst he; exact .bl c
  | .v (.int i), v, fp, b, e, h, he => by obtain ⟨rfl, _, _⟩ := h.leafv; simp only [pd, Option.some.injEq] at he; subst he; exact .int i
  | .v (.str i), v, fp, b, e, h, he => by obtain ⟨rfl, _, _⟩ := h.leafv; simp only [pd, Option.some.injEq] at he; subst he; exact .str i
  | .v (.byt i), v, fp, b, e, h, he => by simp [pd] at he
  | .v (.flt i), v, fp, b, e, h, he => by simp [pd] at he
  | .v (.ref i), v, fp, b, e, h, he => by simp [pd] at he
  | .v (.ty i), v, fp, b, e, h, he => by simp [pd] at he
  | .n .lst w xs, v, fp, b, e, h, he => by
    simp only [pd] at he
    obtain ⟨es, h1, rfl⟩ := Option.map_eq_some_iff.mp he
    obtain ⟨a, o, vs, fp', rfl, ho, hs, hr, hf⟩ := h.node
    cases hs
    exact .lst (SqL.of ho) (Rps.dp hr h1)
  | .n .tup w xs, v, fp, b, e, h, he => by
    simp only [pd] at he
    obtain ⟨es, h1, rfl⟩ := Option.map_eq_some_iff.mp he
    obtain ⟨a, o, vs, fp', rfl, ho, hs, hr, hf⟩ := h.node
    cases hs
    exact .tup (SqT.of ho) (Rps.dp hr h1)
  | .s xs, v, fp, b, e, h, he => by simp [pd] at he
  | .n (.dct ks) w xs, v, fp, b, e, h, he => by simp [pd] at he
  | .n (.dcl ks) w xs, v, fp, b, e, h, he => by simp [pd] at he
  | .n (.obj c fs) w xs, v, fp, b, e, h, he => by simp [pd] at he
theorem Rps.dp {K : PySem.W.Frag} : ∀ {ds : List D} {vs : List V} {fp : List Addr} {b : Bool} {es : List PyData}, Rps cl A L H b ds vs fp → pds ds = some es → DpAll K H vs es
  | [], vs, fp, b, es, h, he => by
    simp only [Rps] at h
    simp only [pds, Option.some.injEq] at he
    rw [h.1, ← he]
    exact .nil
  | d :: ds, vs, fp, b, es, h, he => by
    simp only [Rps] at h
    obtain ⟨v, vs', f1, f2, rfl, rfl, h3, h4⟩ := h
    simp only [pds] at he
    obtain ⟨x, e1, e2⟩ := Option.bind_eq_some_iff.mp he
    obtain ⟨xs, e3, rfl⟩ := Option.map_eq_some_iff.mp e2
    exact .cons (Rp.dp h3 e1) (Rps.dp h4 e3)
end
def eqD (x y : D) : Option D := (pd x).bind fun a => (pd y).bind fun b => if SeqAt.shaped a = true ∧ SeqAt.shaped b = true then some (.bl (PyData.eqv a b)) else none
def neD (x y : D) : Option D := (pd x).bind fun a => (pd y).bind fun b => if SeqAt.shaped a = true ∧ SeqAt.shaped b = true then some (.bl (!PyData.eqv a b)) else none
theorem pop_eq {K : PySem.W.Frag} : POp cl (rEqD K) eqD := by
  intro A L H x y u w f1 f2 z Q h1 h2 e k
  unfold eqD at e
  obtain ⟨a, e1, e⟩ := Option.bind_eq_some_iff.mp e
  obtain ⟨b, e2, e⟩ := Option.bind_eq_some_iff.mp e
  split at e
  · rename_i hs
    cases e
    exact ⟨a, b, h1.dp e1, h2.dp e2, hs.1, hs.2, k _ [] (Rp.leaf rfl) (by simp)⟩
  · cases e
theorem pop_ne {K : PySem.W.Frag} : POp cl (rNeD K) neD := by
  intro A L H x y u w f1 f2 z Q h1 h2 e k
  unfold neD at e
  obtain ⟨a, e1, e⟩ := Option.bind_eq_some_iff.mp e
  obtain ⟨b, e2, e⟩ := Option.bind_eq_some_iff.mp e
  split at e
  · rename_i hs
    cases e
    exact ⟨a, b, h1.dp e1, h2.dp e2, hs.1, hs.2, k _ [] (Rp.leaf rfl) (by simp)⟩
  · cases e
theorem eqD_kept : ∀ x y z, eqD x y = some z → z.kept = true := by
  intro x y z e
  unfold eqD at e
  obtain ⟨a, e1, e⟩ := Option.bind_eq_some_iff.mp e
  obtain ⟨b, e2, e⟩ := Option.bind_eq_some_iff.mp e
  split at e
  · cases e; rfl
  · cases e
theorem neD_kept : ∀ x y z, neD x y = some z → z.kept = true := by
  intro x y z e
  unfold neD at e
  obtain ⟨a, e1, e⟩ := Option.bind_eq_some_iff.mp e
  obtain ⟨b, e2, e⟩ := Option.bind_eq_some_iff.mp e
  split at e
  · cases e; rfl
  · cases e
/-! ### is None -/
def isND : D → Option D | .v .non => some (.bl true) | .v _ => some (.bl false) | .s _ => some (.bl false) | .n _ _ _ => some (.bl false)
theorem isN_eq {x : D} {u : V} {f1 : List Addr} (h : Rp cl A L H true x u f1) : isND x = some (.bl (decide (u = .non))) := by
  match x, h with
  | .v s, h =>
    obtain ⟨rfl, _, _⟩ := h.leafv
    cases u <;> simp [isND]
  | .s ns, h =>
    obtain ⟨a, rfl, _⟩ := h.scr
    simp [isND]
  | .n k w ds, h =>
    obtain ⟨a, o, vs, fp', rfl, _⟩ := h.node
    simp [isND]
theorem pun_isN : PUn cl (fun x H Q => Q (.bl (decide (x = .non))) H) isND := by
  intro A L H x u f1 z Q h1 e k
  rw [isN_eq h1] at e
  cases e
  exact k _ [] (Rp.leaf rfl) (by simp)
def notND (x : D) : Option D := (isND x).bind notD
theorem pun_notN : PUn cl (fun x H Q => Q (.bl (!decide (x = .non))) H) notND := by
  intro A L H x u f1 z Q h1 e k
  unfold notND at e
  rw [isN_eq h1] at e
  cases e
  exact k _ [] (Rp.leaf rfl) (by simp)
end
end Fs
/-! F5 -/
/-! Statements, loops, comprehensions. -/
namespace Fs
open PySem L2
def Kp (ws : Nat → Bool) (σ σ' : L2.St) : Prop := σ'.length = σ.length ∧ ∀ i, ws i = false → σ'[i]? = σ[i]?
theorem Kp.refl {ws : Nat → Bool} (σ : L2.St) : Kp ws σ σ := ⟨rfl, fun _ _ => rfl⟩
theorem Kp.trans {ws : Nat → Bool} {σ σ' σ'' : L2.St} (a : Kp ws σ σ') (b : Kp ws σ' σ'') : Kp ws σ σ'' := ⟨b.1.trans a.1, fun i h => (b.2 i h).trans (a.2 i h)⟩
theorem Kp.set {ws : Nat → Bool} {σ : L2.St} {i : Nat} {x : Option V} (h : ws i = true) : Kp ws σ (σ.set i x) := ⟨List.length_set, fun k hk => by
  have ne : i ≠ k := fun e => by rw [e, hk] at h; cases h
  rw [List.getElem?_set_ne ne]⟩
section
variable (cl : Ec) (xf : Nat → List Str) (W : WX) (ws : Nat → Bool)
def PostS (o : Out Flow) (A L B : Addr → Prop) (H : Hp) (σ : L2.St) (E : Ends) : Prop := match o with
  | .ok .nx δ' => ∀ A' H' σ', Nx A B H A' H' → Kp ws σ σ' → Jt false cl A' L B H' [] [] δ' σ' → E.nx σ' H'
  | .ok .bk δ' => ∀ A' H' σ', Nx A B H A' H' → Kp ws σ σ' → Jt false cl A' L B H' [] [] δ' σ' → E.bk σ' H'
  | .ok .ct δ' => ∀ A' H' σ', Nx A B H A' H' → Kp ws σ σ' → Jt false cl A' L B H' [] [] δ' σ' → E.ct σ' H'
  | .ok (.rt d) δ' => ∀ v A' H' σ', Nx A B H A' H' → Kp ws σ σ' → Jt false cl A' L B H' [d] [v] δ' σ' → E.rt v H'
  | .exc c xs δ' => ∀ d vs A' H' σ', Nx A B H A' H' → Kp ws σ σ' → XAt xf A' H' c vs d → Jt false cl A' L B H' xs vs δ' σ' → W (.ref (cl.c c)) d σ' H'
  | .bad => False
def SS (ts : TS) (ds : DS) : Prop := ∀ A L B H δ σ E, Jt false cl A L B H [] [] δ σ → PostS cl xf W ws (ds δ) A L B H σ E → ts E σ H
/-- a target -/
def SG (g : TG) (tg : D → Sl → Option Sl) : Prop := ∀ p A L B H δ δ' σ d v Q, Jt p cl A L B H [d] [v] δ σ → tg d δ = some δ' → (∀ σ', Kp ws σ σ' → Jt p cl A L B H [] [] δ' σ' → Q σ' H) → g v σ H Q
end
section
variable {cl : Ec} {xf : Nat → List Str} {W : WX} {ws : Nat → Bool} {A A' L B : Addr → Prop} {H H' : Hp} {δ δ' : Sl} {σ σ' : L2.St} {p q b : Bool} {te ta tb tc : TE} {tA : TA} {tt tu : TT} {t u : TS}
theorem PostS.step {o : Out Flow} {E : Ends} (h : PostS cl xf W ws o A L B H σ E) (n : Nx A B H A' H') (k : Kp ws σ σ') : PostS cl xf W ws o A' L B H' σ' E := by
  cases o with
  | bad => exact h
  | exc c xs s => exact fun d vs A2 H2 σ2 n2 k2 => h d vs A2 H2 σ2 (n.trans n2) (k.trans k2)
  | ok f s =>
    cases f with
    | nx => exact fun A2 H2 σ2 n2 k2 => h A2 H2 σ2 (n.trans n2) (k.trans k2)
    | bk => exact fun A2 H2 σ2 n2 k2 => h A2 H2 σ2 (n.trans n2) (k.trans k2)
    | ct => exact fun A2 H2 σ2 n2 k2 => h A2 H2 σ2 (n.trans n2) (k.trans k2)
    | rt d => exact fun v A2 H2 σ2 n2 k2 => h v A2 H2 σ2 (n.trans n2) (k.trans k2)
theorem PostS.under {o : Out Flow} {E : Ends} {B' : Addr → Prop} (h : PostS cl xf W ws o A L B H σ E) (hb : ∀ a, B a → B' a) (lb : ∀ a, L a → B a) : PostS cl xf W ws o A L B' H σ E := by
  cases o with
  | bad => exact h
  | exc c xs s => exact fun d vs A2 H2 σ2 n2 k2 x j => h d vs A2 H2 σ2 (n2.weak hb) k2 x (j.lower hb lb)
  | ok f s =>
    cases f with
    | nx => exact fun A2 H2 σ2 n2 k2 j => h A2 H2 σ2 (n2.weak hb) k2 (j.lower hb lb)
    | bk => exact fun A2 H2 σ2 n2 k2 j => h A2 H2 σ2 (n2.weak hb) k2 (j.lower hb lb)
    | ct => exact fun A2 H2 σ2 n2 k2 j => h A2 H2 σ2 (n2.weak hb) k2 (j.lower hb lb)
    | rt d => exact fun v A2 H2 σ2 n2 k2 j => h v A2 H2 σ2 (n2.weak hb) k2 (j.lower hb lb)
/-- a statement that evaluates something first -/
theorem PostS.bind {α : Type} {o : Out α} {f : α → Sl → Out Flow} {E : Ends} {den0 : α → List D} {Q0 : α → List V → Hp → Prop} (h : PostS cl xf W ws (o.bind f) A L B H σ E)
    (k : ∀ a δ1 vs A' H', o = .ok a δ1 → Nx A B H A' H' → Jt false cl A' L B H' (den0 a) vs δ1 σ → PostS cl xf W ws (f a δ1) A L B H σ E → Q0 a vs H') : Post cl xf W false o den0 A L B H σ Q0 := by
  cases o with
  | ok a s => exact fun vs A' H' n j => k a s vs A' H' rfl n j h
  | exc c xs s => exact fun d vs A' H' n x j => h d vs A' H' σ n (Kp.refl σ) x j
  | bad => exact h
def dsNext : DS := fun δ => .ok .nx δ
def dsSeq (a b : DS) : DS := fun δ => (a δ).bind fun f δ1 => match f with | .nx => b δ1 | f => .ok f δ1
theorem ss_next : SS cl xf W ws tNext dsNext := fun A L B H δ σ E j k => k A H σ (Nx.refl j.ba) (Kp.refl σ) j
theorem ss_seq {a b : DS} (ha : SS cl xf W ws t a) (hb : SS cl xf W ws u b) : SS cl xf W ws (tSeq t u) (dsSeq a b) := fun A L B H δ σ E j k => by
  refine ha A L B H δ σ _ j ?_
  unfold dsSeq at k
  cases e : a δ with
  | bad => rw [e] at k; exact k
  | exc c xs s => rw [e] at k; exact k
  | ok f s =>
    rw [e] at k
    simp only [Out.bind] at k
    cases f with
    | nx => exact fun A2 H2 σ2 n2 k2 j2 => hb A2 L B H2 s σ2 E j2 (PostS.step k n2 k2)
    | bk => exact k
    | ct => exact k
    | rt d => exact k
theorem Jt.put {d : D} {v : V} {i : Nat} (j : Jt p cl A L B H [d] [v] δ σ) : Jt p cl A L B H [] [] (δ.set i (some d)) (σ.set i (some v)) := by
  by_cases hi : i < δ.length
  · obtain ⟨f, g, h1, h2, h3, h4, h5⟩ := j.ex
    simp only [Rps] at h1
    obtain ⟨u, vs', f1, f2, e, rfl, h6, rfl, rfl⟩ := h1
    cases e
    rw [List.append_nil] at h3 h4
    obtain ⟨g', k1, k2, k3⟩ := h2.put hi h6.weak h3
    refine ⟨⟨[], g', by simp [Rps], k1, by simpa using k2, by simp, fun hp a ha => ?_⟩, j.lb, j.ba, j.ad⟩
    rcases List.mem_append.mp (k3 a ha) with q | q
    · exact h4 a q
    · exact h5 hp a q
  · have hl : δ.length = σ.length := by
      obtain ⟨g, h2, _⟩ := j.drop0
      exact h2.length
    rw [List.set_eq_of_length_le (by omega), List.set_eq_of_length_le (by omega)]
    exact j.drop
theorem Jt.clear {i : Nat} {ts : List D} {vs : List V} (j : Jt p cl A L B H ts vs δ σ) : Jt p cl A L B H ts vs (δ.set i none) σ := by
  obtain ⟨f, g, h1, h2, h3, h4, h5⟩ := j.ex
  have nd := List.nodup_append.mp h3
  obtain ⟨g', k1, k2, k3⟩ := h2.drop (i := i) nd.2.1
  exact ⟨⟨f, g', h1, k1, List.nodup_append.mpr ⟨nd.1, k2, fun a ha c hc => nd.2.2 a ha c (k3 c hc)⟩, h4, fun hp a ha => h5 hp a (k3 a ha)⟩, j.lb, j.ba, j.ad⟩
theorem Jt.blur {i : Nat} {ts : List D} {vs : List V} {x : Option V} (j : Jt p cl A L B H ts vs δ σ) (e : δ[i]? = some none) : Jt p cl A L B H ts vs δ (σ.set i x) := by
  obtain ⟨f, g, h1, h2, h3, h4, h5⟩ := j.ex
  exact ⟨⟨f, g, h1, h2.blur e, h3, h4, h5⟩, j.lb, j.ba, j.ad⟩
def dsAsg (e : DE) (tg : D → Sl → Option Sl) : DS := fun δ => (e δ).bind fun d δ1 => match tg d δ1 with | some δ2 => .ok .nx δ2 | none => .bad
def tgN (i : Nat) : D → Sl → Option Sl := fun d δ => some (δ.set i (some d))
theorem sg_name {i : Nat} (h : ws i = true) : SG cl ws (gName i) (tgN i) := fun p A L B H δ δ' σ d v Q j e k => by
  cases e
  exact k _ (Kp.set h) j.put
theorem ss_asg {e : DE} {g : TG} {tg : D → Sl → Option Sl} (he : SE cl xf W false te e) (hg : SG cl ws g tg) : SS cl xf W ws (tAsg te g) (dsAsg e tg) := fun A L B H δ σ E j k => by
  refine he.run A L B H δ σ _ j (PostS.bind k fun d δ1 vs A1 H1 e1 n1 j1 k1 v ev => ?_)
  subst ev
  split at k1
  · rename_i δ2 e2
    exact hg false A1 L B H1 δ1 δ2 σ d v _ j1 e2 fun σ' kp j2 => k1 A1 H1 σ' n1 kp j2
  · exact k1.elim
/-- several names -/
def tgs : List (D → Sl → Option Sl) → List D → Sl → Option Sl
  | [], [], δ => some δ
  | t :: ts, d :: ds, δ => (t d δ).bind fun δ1 => tgs ts ds δ1
  | _, _, _ => none
def tgT (ts : List (D → Sl → Option Sl)) : D → Sl → Option Sl
  | .n .tup .shr ds, δ => if ds.all D.kept = true ∧ ds.length = ts.length then tgs ts ds δ else none
  | _, _ => none
/-- the targets within -/
def SGs (cl : Ec) (ws : Nat → Bool) (g : TGs) (ts : List (D → Sl → Option Sl)) : Prop := ∀ p A L B H δ δ' σ ds vs Q, Jt p cl A L B H [] [] δ σ → Rps cl A L H false ds vs [] → tgs ts ds δ = some δ' → (∀ σ', Kp ws σ σ' → Jt p cl A L B H [] [] δ' σ' → Q σ' H) → g vs σ H Q
theorem sgs_nil : SGs cl ws gNil [] := fun p A L B H δ δ' σ ds vs Q j h e k => by
  match ds, e with
  | [], e =>
    simp only [tgs, Option.some.injEq] at e
    subst e
    simp only [Rps] at h
    exact ⟨h.1, k σ (Kp.refl σ) j⟩
theorem sgs_cons {g : TG} {gs : TGs} {t : D → Sl → Option Sl} {ts : List (D → Sl → Option Sl)} (h1 : SG cl ws g t) (h2 : SGs cl ws gs ts) : SGs cl ws (gCons g gs) (t :: ts) := fun p A L B H δ δ' σ ds vs Q j h e k => by
  match ds, e with
  | d :: ds, e =>
    simp only [tgs] at e
    obtain ⟨δ1, e1, e2⟩ := Option.bind_eq_some_iff.mp e
    simp only [Rps] at h
    obtain ⟨v, vs', f1, f2, rfl, e3, h3, h4⟩ := h
    have e3 := List.append_eq_nil_iff.mp e3.symm
    obtain ⟨rfl, rfl⟩ := e3
    refine ⟨v, vs', rfl, ?_⟩
    have j1 : Jt p cl A L B H [d] [v] δ σ := by
      obtain ⟨g0, k2, k3, k5⟩ := j.drop0
      exact ⟨⟨[], g0, by simp only [Rps]; exact ⟨v, [], [], [], rfl, rfl, h3, rfl, rfl⟩, k2, by simpa using k3, by simp, k5⟩, j.lb, j.ba, j.ad⟩
    exact h1 p A L B H δ δ1 σ d v _ j1 e1 fun σ1 kp j2 => h2 p A L B H δ1 δ' σ1 ds vs' Q j2 h4 e2 fun σ2 kp2 j3 => k σ2 (kp.trans kp2) j3
theorem sg_tup {K : PySem.W.Frag} {g : TGs} {ts : List (D → Sl → Option Sl)} {n : Nat} (hn : n = ts.length) (h : SGs cl ws g ts) : SG cl ws (gTup K n g) (tgT ts) := fun p A L B H δ δ' σ d v Q j e k => by
  unfold tgT at e
  split at e
  · rename_i ds
    split at e
    · rename_i hk
      obtain ⟨u, f1, e0, h1⟩ := j.one
      cases e0
      obtain ⟨a, o, vs, fp', rfl, ho, hs, hr, hf⟩ := h1.node
      cases hs
      refine ⟨a, vs, rfl, SqT.of ho, by rw [← hr.length, hn]; exact hk.2, ?_⟩
      exact h p A L B H δ δ' σ ds vs Q j.drop (hr.keptS hk.1) e k
    · cases e
  · cases e
def dsRet (e : DE) : DS := fun δ => (e δ).bind fun d δ1 => .ok (.rt d) δ1
theorem ss_ret {e : DE} (he : SE cl xf W false te e) : SS cl xf W ws (tRet te) (dsRet e) := fun A L B H δ σ E j k => by
  refine he.run A L B H δ σ _ j (PostS.bind k fun d δ1 vs A1 H1 e1 n1 j1 k1 v ev => ?_)
  subst ev
  exact k1 v A1 H1 σ n1 (Kp.refl σ) j1
def dsRetN : DS := fun δ => .ok (.rt .non) δ
theorem ss_retN : SS cl xf W ws tRetN dsRetN := fun A L B H δ σ E j k => k .non A H σ (Nx.refl j.ba) (Kp.refl σ) (j.leaf rfl)
/-- return x: the thing is handed out as it is -/
def D.free : D → Bool | .n _ .bor _ => false | _ => true
theorem Rp.free {d : D} {v : V} {fp : List Addr} (h : Rp cl A L H b d v fp) (hf : d.free = true) : Rp cl A L H false d v fp := by
  match d, h with
  | .v x, h => simp only [Rp] at h ⊢; exact h
  | .s x, h => simp only [Rp] at h ⊢; exact h
  | .n k .shr ds, h => simp only [Rp] at h ⊢; exact h
  | .n k .own ds, h => simp only [Rp] at h ⊢; exact h
  | .n k .bor ds, h => simp [D.free] at hf
def dMv (i : Nat) : DE := fun δ => match (δ[i]?).join with
  | some d => if d.free then .ok d (δ.set i none) else .bad
  | none => .bad
theorem se_mv {i : Nat} : SE cl xf W false (tVar i) (dMv i) := by
  refine ⟨fun z => (by cases z), fun A L B H δ σ Q j k => ?_⟩
  unfold dMv at k
  split at k
  · rename_i d e
    split at k
    · rename_i hf
      obtain ⟨f, g, h1, h2, h3, h4, h5⟩ := j.ex
      simp only [Rps] at h1
      obtain ⟨_, rfl⟩ := h1
      obtain ⟨v, f1, f2, k1, k2, k3, k4, k5⟩ := h2.take (join_some e) (by simpa using h3)
      refine ⟨v, k1, k [v] A H (Nx.refl j.ba) ⟨⟨f1, f2, ?_, k3, k4, fun a ha => h5 rfl a ((k5 a).mp (List.mem_append_left _ ha)), fun _ a ha => h5 rfl a ((k5 a).mp (List.mem_append_right _ ha))⟩, j.lb, j.ba, j.ad⟩ v rfl⟩
      simp only [Rps]
      exact ⟨v, [], f1, [], rfl, by simp, k2.free hf, rfl, rfl⟩
    · exact k.elim
  · exact k.elim
/-- a name's thing, from now on shared -/
def dFz (i : Nat) : DE := fun δ => match (δ[i]?).join with
  | some d => if d.free then .ok (frz d) (δ.set i (some (frz d))) else .bad
  | none => .bad
theorem set_set_eq {i : Nat} {v : V} (h : σ[i]? = some (some v)) : σ.set i (some v) = σ := by
  obtain ⟨hl, e⟩ := List.getElem?_eq_some_iff.mp h
  rw [← e]
  exact List.set_getElem_self hl
theorem se_fz {i : Nat} : SE cl xf W false (tVar i) (dFz i) := by
  refine ⟨fun z => (by cases z), fun A L B H δ σ Q j k => ?_⟩
  unfold dFz at k
  split at k
  · rename_i d e
    split at k
    · rename_i hf
      obtain ⟨f, g, h1, h2, h3, h4, h5⟩ := j.ex
      simp only [Rps] at h1
      obtain ⟨_, rfl⟩ := h1
      obtain ⟨v, f1, f2, k1, k2, k3, k4, k5⟩ := h2.take (join_some e) (by simpa using h3)
      have j1 : Jt false cl A L B H [d] [v] (δ.set i none) σ := ⟨⟨f1, f2, by simp only [Rps]; exact ⟨v, [], f1, [], rfl, by simp, k2.free hf, rfl, rfl⟩, k3, k4, fun a ha => h5 rfl a ((k5 a).mp (List.mem_append_left _ ha)), fun _ a ha => h5 rfl a ((k5 a).mp (List.mem_append_right _ ha))⟩, j.lb, j.ba, j.ad⟩
      have hk := j1.freezeK
      obtain ⟨A1, n1, j2⟩ := j1.freeze
      simp only [frzs] at j2 hk
      have j3 := j2.put (i := i)
      rw [set_set_eq k1, List.set_set] at j3
      obtain ⟨u, f3, e0, h6⟩ := j2.one
      cases e0
      exact ⟨v, k1, k [v] A1 H n1 (j3.kept (by simpa using hk) h6) v rfl⟩
    · exact k.elim
  · exact k.elim
def dsDrop (e : DE) : DS := fun δ => (e δ).bind fun _ δ1 => .ok .nx δ1
theorem ss_drop {e : DE} (he : SE cl xf W false te e) : SS cl xf W ws (tDrop te) (dsDrop e) := fun A L B H δ σ E j k => by
  refine he.run A L B H δ σ _ j (PostS.bind k fun d δ1 vs A1 H1 e1 n1 j1 k1 v ev => ?_)
  exact k1 A1 H1 σ n1 (Kp.refl σ) j1.drop
def dsIf (c : DT) (a b : DS) : DS := fun δ => (c δ).bind fun x δ1 => match x with | true => a δ1 | false => b δ1
theorem ss_if {c : DT} {a b : DS} (hc : SB cl xf W false tt c) (ha : SS cl xf W ws t a) (hb : SS cl xf W ws u b) : SS cl xf W ws (tIfS tt t u) (dsIf c a b) := fun A L B H δ σ E j k => by
  refine hc.run A L B H δ σ _ j (PostS.bind k fun x δ1 vs A1 H1 e1 n1 j1 k1 => ?_)
  cases x with
  | true => rw [if_pos rfl]; exact ha A1 L B H1 δ1 σ E j1.drop (PostS.step k1 n1 (Kp.refl σ))
  | false => exact hb A1 L B H1 δ1 σ E j1.drop (PostS.step k1 n1 (Kp.refl σ))
def dsBrk : DS := fun δ => .ok .bk δ
def dsCnt : DS := fun δ => .ok .ct δ
theorem ss_brk : SS cl xf W ws tBreak dsBrk := fun A L B H δ σ E j k => k A H σ (Nx.refl j.ba) (Kp.refl σ) j
theorem ss_cnt : SS cl xf W ws tCont dsCnt := fun A L B H δ σ E j k => k A H σ (Nx.refl j.ba) (Kp.refl σ) j
/-! ### what is walked -/
/-- J gives these things in turn, now and as long as what is under B stands -/
def ItOk (cl : Ec) (L B : Addr → Prop) (J : It) (its : List D) (A : Addr → Prop) (H : Hp) : Prop := ∀ A1 H1, Nx A B H A1 H1 → (∀ i, i < its.length → J.go i H1) ∧ (∀ i, its.length ≤ i → J.stop i H1) ∧
  ∀ i x H2 d, its[i]? = some d → J.yld i H1 x H2 → ∀ p B1 δ σ, (∀ a, B a → B1 a) → Jt p cl A1 L B1 H1 [] [] δ σ → ∃ A2, Nx A1 B1 H1 A2 H2 ∧ Jt p cl A2 L B1 H2 [d] [x] δ σ
theorem ItOk.step {J : It} {its : List D} (h : ItOk cl L B J its A H) (n : Nx A B H A' H') : ItOk cl L B J its A' H' := fun A1 H1 n1 => h A1 H1 (n.trans n1)
structure SI (cl : Ec) (xf : Nat → List Str) (W : WX) (p : Bool) (wi : TI) (di : DA) : Prop where
  pure : p = true → ∀ δ, (di δ).same δ
  run : ∀ A L B H δ σ R, Jt p cl A L B H [] [] δ σ → (match di δ with
    | .ok its δ' => ∀ J A' H' B', Nx A B H A' H' → (∀ a, B a → B' a) → Jt p cl A' L B' H' [] [] δ' σ → ItOk cl L B' J its A' H' → R J H'
    | .exc c xs δ' => PostX cl xf W p c xs δ' A L B H σ
    | .bad => False) → wi σ H R
def loop (tg : D → Sl → Option Sl) (body : DS) : List D → Sl → Out Flow
  | [], δ => .ok .nx δ
  | x :: xs, δ => match tg x δ with
    | none => .bad
    | some δ1 => (body δ1).bind fun f δ2 => match f with
      | .nx => loop tg body xs δ2
      | .ct => loop tg body xs δ2
      | .bk => .ok .nx δ2
      | .rt d => .ok (.rt d) δ2
def dsFor (di : DA) (tg : D → Sl → Option Sl) (body : DS) : DS := fun δ => (di δ).bind fun its δ1 => loop tg body its δ1
theorem ss_for {wi : TI} {di : DA} {g : TG} {tg : D → Sl → Option Sl} {body : DS} (hi : SI cl xf W false wi di) (hg : SG cl ws g tg) (hb : SS cl xf W ws t body) : SS cl xf W ws (tFor wi g t) (dsFor di tg body) := fun A L B H δ σ E j k => by
  refine hi.run A L B H δ σ _ j ?_
  unfold dsFor at k
  cases e : di δ with
  | bad => rw [e] at k; exact k
  | exc c xs s => rw [e] at k; exact fun d vs A' H' n x j => k d vs A' H' σ n (Kp.refl σ) x j
  | ok its δ1 =>
    rw [e] at k
    simp only [Out.bind] at k
    intro J A1 H1 B1 n1 hb1 j1 hit
    have k0 : PostS cl xf W ws (loop tg body its δ1) A1 L B1 H1 σ E := (PostS.step k n1 (Kp.refl σ)).under hb1 j.lb
    refine ⟨fun i m σi Hi => ∃ Ai δi, m = its.length - i ∧ i ≤ its.length ∧ ItOk cl L B1 J its Ai Hi ∧ Jt false cl Ai L B1 Hi [] [] δi σi ∧ PostS cl xf W ws (loop tg body (its.drop i) δi) Ai L B1 Hi σi E, ⟨its.length, A1, δ1, by simp, Nat.zero_le _, hit, j1, by rw [List.drop_zero]; exact k0⟩, ?_⟩
    rintro i m σi Hi ⟨Ai, δi, rfl, hi', hit', ji, ki⟩
    have tf := hit' Ai Hi (Nx.refl ji.ba)
    by_cases hlt : i < its.length
    · refine .inr ⟨tf.1 i hlt, fun σ2 H2 => ∃ A2 δ2, ItOk cl L B1 J its A2 H2 ∧ Jt false cl A2 L B1 H2 [] [] δ2 σ2 ∧ PostS cl xf W ws (loop tg body (its.drop (i + 1)) δ2) A2 L B1 H2 σ2 E, fun σ2 H2 ⟨A2, δ2, h1, h2, h3⟩ => ⟨its.length - (i + 1), by omega, A2, δ2, rfl, hlt, h1, h2, h3⟩, fun x H2 hy => ?_⟩
      have ed : its.drop i = its[i] :: its.drop (i + 1) := List.drop_eq_getElem_cons hlt
      rw [ed] at ki
      unfold loop at ki
      obtain ⟨A2, n2, j2⟩ := tf.2.2 i x H2 its[i] (List.getElem?_eq_getElem hlt) hy false B1 δi σi (fun _ h => h) ji
      split at ki
      · exact ki.elim
      · rename_i δ2 e2
        refine hg false A2 L B1 H2 δi δ2 σi its[i] x _ j2 e2 fun σ2 kp2 j3 => ?_
        refine hb A2 L B1 H2 δ2 σ2 _ j3 ?_
        have ki2 := PostS.step ki n2 kp2
        cases e3 : body δ2 with
        | bad => rw [e3] at ki2; exact ki2
        | exc c xs s => rw [e3] at ki2; exact ki2
        | ok f s =>
          rw [e3] at ki2
          simp only [Out.bind] at ki2
          cases f with
          | nx => exact fun A3 H3 σ3 n3 kp3 j4 => ⟨A3, s, (hit'.step n2).step n3, j4, PostS.step ki2 n3 kp3⟩
          | ct => exact fun A3 H3 σ3 n3 kp3 j4 => ⟨A3, s, (hit'.step n2).step n3, j4, PostS.step ki2 n3 kp3⟩
          | bk => exact ki2
          | rt d => exact ki2
    · have ed : its.drop i = [] := List.drop_eq_nil_of_le (by omega)
      rw [ed] at ki
      exact .inl ⟨tf.2.1 i (by omega), ki Ai Hi σi (Nx.refl ji.ba) (Kp.refl σi) ji⟩
end
end Fs
/-! F6 -/
/-! Changing what is owned; comprehensions; what is walked. -/
namespace Fs
open PySem L2
section
variable {cl : Ec} {xf : Nat → List Str} {W : WX} {ws : Nat → Bool} {A A' L B : Addr → Prop} {H H' : Hp} {δ δ' : Sl} {σ σ' : L2.St} {p q b : Bool} {te ta tb tc : TE} {tA : TA} {tt tu : TT} {t u : TS} {ts : List D} {vs : List V}
theorem Jt.seq2 (j : Jt p cl A L B H ts vs δ σ) : ∃ B', Jt p cl A L B' H [] [] δ σ ∧ (∀ a, B a → B' a) ∧
    ∀ A2 H2 us xs δ2 σ2, (p = true → δ2 = δ ∧ σ2 = σ) → Nx A B' H A2 H2 → Jt p cl A2 L B' H2 us xs δ2 σ2 → Jt p cl A2 L B H2 (ts ++ us) (vs ++ xs) δ2 σ2 := by
  cases p with
  | true =>
    refine ⟨A, j.drop.toPure, j.ba, fun A2 H2 us xs δ2 σ2 e n j2 => ?_⟩
    obtain ⟨rfl, rfl⟩ := e rfl
    exact j.backP (f := []) n j2
  | false =>
    obtain ⟨f, h1, h2, h3, h4⟩ := j.hide
    exact ⟨_, h4, fun a h => .inl h, fun A2 H2 us xs δ2 σ2 _ n j2 => Jt.back j h1 h2 h3 j.lb n j2⟩
/-- an owned thing in hand, looked at -/
theorem Jt.look {k : Kd} {ds : List D} {v : V} {ws : List V} (j : Jt p cl A L B H (.n k .own ds :: ts) (v :: ws) δ σ) (hk : ts.all D.kept = true) :
    ∃ a o us f, v = .ref a ∧ H a = some o ∧ Shape cl k us o ∧ Rps cl A L H false ds us f ∧ Rps cl A L H false ts ws [] ∧ f.Nodup ∧
    ∀ k' us' o' ds' f', Shape cl k' us' o' → Rps cl A L H false ds' us' f' → f'.Nodup → (∀ c ∈ f', c ∈ f) → Nx A B H A (upd H a o') ∧ Jt p cl A L B (upd H a o') [.n k' .own ds'] [.ref a] δ σ := by
  obtain ⟨f, g, h1, h2, h3, h4, h5⟩ := j.ex
  simp only [Rps, Rp] at h1
  obtain ⟨v0, vs', f1, f2, e, rfl, ⟨a, o, us, rfl, ho, hs, hA, fp', rfl, hr⟩, h6⟩ := h1
  cases e
  have e2 := kept_all hk h6
  subst e2
  have nd := List.nodup_append.mp h3
  have nd2 := List.nodup_cons.mp (List.nodup_append.mp nd.1).1
  refine ⟨a, o, us, fp', rfl, ho, hs, hr, h6, nd2.2, fun k' us' o' ds' f' s' r' n' c' => ?_⟩
  have nB : ¬ B a := h4 a (by simp)
  have nf : ∀ c ∈ f', c ≠ a := fun c hc e => by subst e; exact nd2.1 (c' c hc)
  have ng : ∀ c ∈ g, c ≠ a := fun c hc e => by subst e; exact nd.2.2 c (by simp) c hc rfl
  have st : ∀ c u, H c = some u → ¬ A c → upd H a o' c = some u ∧ ¬ A c := fun c u h n => ⟨by rw [upd_ne (show c ≠ a from fun e => n (by rw [e]; exact hA))]; exact h, n⟩
  refine ⟨⟨fun c h => .inl h, fun c u h n => (st c u h n).1, fun c h => ⟨upd_ne (show c ≠ a from fun e => nB (by rw [← e]; exact h)), j.ba c h⟩, fun c h => ?_⟩, ⟨⟨a :: f', g, ?_, h2.step st (fun c hc => ⟨upd_ne (ng c hc), (h2.inA c hc).1⟩) (fun c hc => ⟨upd_ne (show c ≠ a from fun e => nB (by rw [← e]; exact j.lb c hc)), hc⟩), ?_, ?_, h5⟩, j.lb, j.ba, fun c h => ?_⟩⟩
  · by_cases e : c = a
    · subst e; rw [upd_same] at h; cases h
    · rw [upd_ne e] at h; exact h
  · simp only [Rps, Rp]
    exact ⟨.ref a, [], a :: f', [], rfl, by simp, ⟨a, o', us', rfl, upd_same, s', hA, f', rfl, r'.step st (fun c hc => ⟨upd_ne (nf c hc), (r'.inA c hc).1⟩) (by simp)⟩, rfl, rfl⟩
  · rw [List.cons_append]
    refine List.nodup_cons.mpr ⟨fun q => ?_, List.nodup_append.mpr ⟨n', nd.2.1, fun c hc d hd => nd.2.2 c (by simp [c' c hc]) d hd⟩⟩
    rcases List.mem_append.mp q with q | q
    · exact nf a q rfl
    · exact ng a q rfl
  · intro c hc
    rcases List.mem_cons.mp hc with rfl | hc
    · exact nB
    · exact h4 c (by simp [c' c hc])
  · by_cases e : c = a
    · subst e; rw [upd_same]; simp
    · rw [upd_ne e]; exact j.ad c h
/-- temporaries behind the first are frozen -/
theorem Jt.freezeTail {d : D} {v : V} {ws : List V} (j : Jt p cl A L B H (d :: ts) (v :: ws) δ σ) : ∃ A', Nx A B H A' H ∧ Jt p cl A' L B H (d :: frzs ts) (v :: ws) δ σ := by
  obtain ⟨f, g, h1, h2, h3, h4, h5⟩ := j.ex
  simp only [Rps] at h1
  obtain ⟨v0, vs', f1, f2, e, rfl, h6, h7⟩ := h1
  cases e
  have nd := List.nodup_append.mp h3
  have nd2 := List.nodup_append.mp nd.1
  refine ⟨fun a => A a ∧ a ∉ f2, ⟨fun a h => .inl h.1, fun a o h _ => h, fun a h => ⟨rfl, j.ba a h, fun q => h4 a (List.mem_append_right _ q) h⟩, fun a h => h⟩, ⟨⟨f1, g, ?_, ?_, ?_, fun a ha => h4 a (List.mem_append_left _ ha), h5⟩, j.lb, fun a h => ⟨j.ba a h, fun q => h4 a (List.mem_append_right _ q) h⟩, fun a h => j.ad a h.1⟩⟩
  · simp only [Rps]
    exact ⟨v, ws, f1, [], rfl, by simp, h6.step (fun a o h n => ⟨h, fun q => n q.1⟩) (fun a ha => ⟨rfl, (h6.inA a ha).1, fun q => nd2.2.2 a ha a q rfl⟩) (by simp), h7.frz (fun a o _ n q => n q.1) (fun a ha q => q.2 ha)⟩
  · exact h2.step (fun a o h n => ⟨h, fun q => n q.1⟩) (fun a ha => ⟨rfl, (h2.inA a ha).1, fun q => nd.2.2 a (List.mem_append_right _ q) a ha rfl⟩) (fun a h => ⟨rfl, h⟩)
  · exact List.nodup_append.mpr ⟨nd2.1, nd.2.1, fun a ha c hc => nd.2.2 a (List.mem_append_left _ ha) c hc⟩
theorem Jt.tailK {d : D} {v : V} {ws : List V} (j : Jt p cl A L B H (d :: ts) (v :: ws) δ σ) : (frzs ts).all D.kept = true := by
  obtain ⟨f, g, h1, h2, h3, h4, h5⟩ := j.ex
  simp only [Rps] at h1
  obtain ⟨v0, vs', f1, f2, e, rfl, h6, h7⟩ := h1
  exact kept_frzs h7
/-- a list in hand grows -/
theorem Jt.push {acc : List D} {y : D} {v w : V} (j : Jt p cl A L B H [.n .lst .own acc, y] [v, w] δ σ) : ∃ D0 us A', v = .ref D0 ∧ H D0 = some (.lst us) ∧ us.length = acc.length ∧ Nx A B H A' (upd H D0 (.lst (us ++ [w]))) ∧ Jt p cl A' L B (upd H D0 (.lst (us ++ [w]))) [.n .lst .own (acc ++ [frz y])] [.ref D0] δ σ := by
  have hk := j.tailK
  obtain ⟨A1, n1, j1⟩ := j.freezeTail
  obtain ⟨a, o, us, f, rfl, ho, hs, hr, ht, nf, hm⟩ := j1.look hk
  cases hs
  have h := hm .lst (us ++ [w]) (.lst (us ++ [w])) (acc ++ [frz y]) (f ++ []) rfl (hr.append (by simpa [frzs] using ht)) (by simpa using nf) (by simp)
  exact ⟨a, us, A1, rfl, ho, hr.length.symm, n1.trans h.1, h.2⟩
/-! ### comprehensions -/
def wipeD (δ : Sl) : List Nat → Sl
  | [] => δ
  | v :: vs => (wipeD δ vs).set v none
theorem wipeD_length (δ : Sl) : ∀ vs : List Nat, (wipeD δ vs).length = δ.length
  | [] => rfl
  | v :: vs => by unfold wipeD; rw [List.length_set, wipeD_length δ vs]
theorem wipeD_get (δ : Sl) (i : Nat) : ∀ vs : List Nat, (wipeD δ vs)[i]? = if i ∈ vs then (if i < δ.length then some none else none) else δ[i]?
  | [] => by simp [wipeD]
  | v :: vs => by
    unfold wipeD
    by_cases e : v = i
    · subst e
      rw [if_pos (List.mem_cons_self)]
      by_cases h : v < δ.length
      · rw [if_pos h, List.getElem?_set_self (by rw [wipeD_length]; exact h)]
      · rw [if_neg h]
        exact List.getElem?_eq_none_iff.mpr (by rw [List.length_set, wipeD_length]; omega)
    · rw [List.getElem?_set_ne e, wipeD_get δ i vs]
      by_cases h : i ∈ vs
      · rw [if_pos h, if_pos (List.mem_cons_of_mem _ h)]
      · rw [if_neg h, if_neg (fun q => (List.mem_cons.mp q).elim (fun z => e z.symm) h)]
theorem wipe_get (σ : L2.St) (i : Nat) : ∀ vs : List Nat, (wipe σ vs)[i]? = if i ∈ vs then (if i < σ.length then some none else none) else σ[i]?
  | [] => by simp [wipe]
  | v :: vs => by
    unfold wipe
    by_cases e : v = i
    · subst e
      rw [if_pos (List.mem_cons_self)]
      by_cases h : v < σ.length
      · rw [if_pos h, List.getElem?_set_self (by rw [wipe_length]; exact h)]
      · rw [if_neg h]
        exact List.getElem?_eq_none_iff.mpr (by rw [List.length_set, wipe_length]; omega)
    · rw [List.getElem?_set_ne e, wipe_get σ i vs]
      by_cases h : i ∈ vs
      · rw [if_pos h, if_pos (List.mem_cons_of_mem _ h)]
      · rw [if_neg h, if_neg (fun q => (List.mem_cons.mp q).elim (fun z => e z.symm) h)]
theorem wipeD_idem (δ : Sl) (vs : List Nat) : wipeD (wipeD δ vs) vs = wipeD δ vs := List.ext_getElem? fun i => by
  rw [wipeD_get, wipeD_get, wipeD_length]
  split <;> rfl
theorem wipe_idem (σ : L2.St) (vs : List Nat) : wipe (wipe σ vs) vs = wipe σ vs := List.ext_getElem? fun i => by
  rw [wipe_get, wipe_get, wipe_length]
  split <;> rfl
theorem wipe_kp {vs : List Nat} (k : Kp (fun i => vs.contains i) σ σ') : wipe σ' vs = wipe σ vs := List.ext_getElem? fun i => by
  rw [wipe_get, wipe_get, k.1]
  split
  · rfl
  · rename_i h
    exact k.2 i (by simpa using h)
theorem Jt.wipe (j : Jt p cl A L B H ts vs δ σ) : ∀ ns : List Nat, Jt p cl A L B H ts vs (wipeD δ ns) (L2.wipe σ ns)
  | [] => j
  | n :: ns => by
    have h := (j.wipe ns).clear (i := n)
    unfold wipeD L2.wipe
    by_cases hl : n < (wipeD δ ns).length
    · exact h.blur (by rw [List.getElem?_set_self hl])
    · have e : (L2.wipe σ ns).length ≤ n := by
        obtain ⟨g, h2, _⟩ := (j.wipe ns).drop0
        have := h2.length
        omega
      rw [List.set_eq_of_length_le e]
      exact h
/-- a target touches these slots alone -/
def TgIn (vs : List Nat) (tg : D → Sl → Option Sl) : Prop := ∀ d δ δ', tg d δ = some δ' → wipeD δ' vs = wipeD δ vs
theorem tgIn_name {i : Nat} {vs : List Nat} (h : i ∈ vs) : TgIn vs (tgN i) := fun d δ δ' e => by
  cases e
  refine List.ext_getElem? fun k => ?_
  rw [wipeD_get, wipeD_get, List.length_set]
  split
  · rfl
  · rename_i hk
    exact List.getElem?_set_ne (fun e => hk (by rw [← e]; exact h))
theorem tgIn_tgs {vs : List Nat} : ∀ {ts : List (D → Sl → Option Sl)}, (∀ t ∈ ts, TgIn vs t) → ∀ (ds : List D) (δ δ' : Sl), tgs ts ds δ = some δ' → wipeD δ' vs = wipeD δ vs
  | [], _, [], δ, δ', e => by simp only [tgs, Option.some.injEq] at e; rw [e]
  | [], _, _ :: _, δ, δ', e => by simp [tgs] at e
  | t :: ts, _, [], δ, δ', e => by simp [tgs] at e
  | t :: ts, h, d :: ds, δ, δ', e => by
    simp only [tgs] at e
    obtain ⟨δ1, e1, e2⟩ := Option.bind_eq_some_iff.mp e
    rw [tgIn_tgs (fun t ht => h t (List.mem_cons_of_mem _ ht)) ds δ1 δ' e2, h t List.mem_cons_self d δ δ1 e1]
theorem tgIn_tup {vs : List Nat} {ts : List (D → Sl → Option Sl)} (h : ∀ t ∈ ts, TgIn vs t) : TgIn vs (tgT ts) := fun d δ δ' e => by
  unfold tgT at e
  split at e
  · split at e
    · exact tgIn_tgs h _ δ δ' e
    · cases e
  · cases e
def noX {α : Type} : Out α → Out α
  | .ok a s => .ok a s
  | _ => .bad
theorem noX_ok {α : Type} {a : α} {s : Sl} : noX (.ok a s) = .ok a s := rfl
theorem bind_ok {α β : Type} {a : α} {s : Sl} {f : α → Sl → Out β} : (Out.ok a s).bind f = f a s := rfl
def comp (vs : List Nat) (tg : D → Sl → Option Sl) (tst : DT) (elt : DE) : List D → List D → Sl → Out (List D)
  | [], acc, δ => .ok acc δ
  | x :: xs, acc, δ => match tg x δ with
    | none => .bad
    | some δ1 => (noX (tst δ1)).bind fun b δ2 => match b with
      | true => (noX (elt δ2)).bind fun y δ3 => if acc.length < 100000 then comp vs tg tst elt xs (acc ++ [frz y]) (wipeD δ3 vs) else .bad
      | false => comp vs tg tst elt xs acc (wipeD δ2 vs)
/-- [elt for tg in its if tst]; keep: the state stays (a pure one) -/
def dComp (keep : Bool) (vs : List Nat) (di : DA) (tg : D → Sl → Option Sl) (tst : DT) (elt : DE) : DE := fun δ => (di δ).bind fun its δ1 => (comp vs tg tst elt its [] (wipeD δ1 vs)).bind fun acc δ2 => .ok (.n .lst .own acc) (if keep then δ1 else δ2)
abbrev W0 : WX := fun _ _ _ _ => False
theorem Jt.unwipe : ∀ {ns : List Nat} {σ : L2.St}, wipeD δ ns = δ → Jt p cl A L B H ts vs δ (L2.wipe σ ns) → Jt p cl A L B H ts vs δ σ := by
  intro ns
  have key : ∀ (ms : List Nat) (σ : L2.St), (∀ n ∈ ms, n ∈ ns) → wipeD δ ns = δ → Jt p cl A L B H ts vs δ (L2.wipe σ ms) → Jt p cl A L B H ts vs δ σ := by
    intro ms
    induction ms with
    | nil => intro σ _ _ j; exact j
    | cons n ms ih =>
      intro σ hm hw j
      refine ih σ (fun k hk => hm k (List.mem_cons_of_mem _ hk)) hw ?_
      unfold L2.wipe at j
      by_cases hl : n < (L2.wipe σ ms).length
      · have hd : δ[n]? = some none := by
          have e := wipeD_get δ n ns
          rw [hw, if_pos (hm n List.mem_cons_self)] at e
          rw [e, if_pos]
          obtain ⟨g, h2, _⟩ := j.drop0
          have := h2.length
          rw [List.length_set] at this
          omega
        have j2 := j.blur (x := (L2.wipe σ ms)[n]) hd
        rw [List.set_set, List.set_getElem_self hl] at j2
        exact j2
      · rw [List.set_eq_of_length_le (by omega)] at j
        exact j
  intro σ hw j
  exact key ns σ (fun _ h => h) hw j
theorem Post.w0 {α : Type} {o : Out α} {den : α → List D} {Q : α → List V → Hp → Prop} (hb : noX o ≠ .bad) (h : ∀ a s, o = .ok a s → ∀ vs A' H', Nx A B H A' H' → Jt p cl A' L B H' (den a) vs s σ → Q a vs H') : Post cl xf W0 p o den A L B H σ Q := by
  cases o with
  | ok a s => exact h a s rfl
  | exc c xs s => exact absurd rfl hb
  | bad => exact absurd rfl hb
theorem comp_noexc {ns : List Nat} {tg : D → Sl → Option Sl} {tst : DT} {elt : DE} : ∀ (its acc : List D) (δ : Sl) (c : Nat) (xs : List D) (s : Sl), comp ns tg tst elt its acc δ ≠ .exc c xs s := by
  intro its
  induction its with
  | nil => intro acc δ c xs s h; cases h
  | cons x its ih =>
    intro acc δ c xs s h
    unfold comp at h
    split at h
    · cases h
    · rename_i δ2 _
      cases h3 : tst δ2 with
      | bad => rw [h3] at h; cases h
      | exc c2 xs2 s2 => rw [h3] at h; cases h
      | ok b s2 =>
        rw [h3, noX_ok, bind_ok] at h
        cases b with
        | false => exact ih _ _ _ _ _ h
        | true =>
          simp only at h
          cases h4 : elt s2 with
          | bad => rw [h4] at h; cases h
          | exc c3 xs3 s3 => rw [h4] at h; cases h
          | ok y s3 =>
            rw [h4, noX_ok, bind_ok] at h
            split at h
            · exact ih _ _ _ _ _ h
            · cases h
theorem comp_run {wi : TI} {di : DA} {g : TG} {tg : D → Sl → Option Sl} {tst : DT} {elt : DE} {ns : List Nat} (hi : SI cl xf W p wi di) (hg : SG cl (fun i => ns.contains i) g tg) (hin : TgIn ns tg) (ht : SB cl xf W0 p tt tst) (he : SE cl xf W0 p te elt)
    {Q : VK} (j : Jt p cl A L B H [] [] δ σ) (k : match di δ with
      | .ok its δ1 => (match comp ns tg tst elt its [] (wipeD δ1 ns) with
        | .ok acc δ2 => ∀ D0 A' H', Nx A B H A' H' → Jt p cl A' L B H' [.n .lst .own acc] [.ref D0] δ2 (L2.wipe σ ns) → wipeD δ2 ns = δ2 → Q (.ref D0) H'
        | _ => False)
      | .exc c xs δ' => PostX cl xf W p c xs δ' A L B H σ
      | .bad => False) : tLc wi g tt te ns σ H Q := by
  refine hi.run A L B H δ σ _ j ?_
  cases e : di δ with
  | bad => rw [e] at k; exact k
  | exc c xs s => rw [e] at k; exact k
  | ok its δ1 =>
    rw [e] at k
    simp only at k
    intro J A1 H1 B1 n1 hb1 j1 hit D0 hD
    obtain ⟨n2, j2⟩ := (j1.wipe ns).alloc (k := .lst) (o := .lst []) hD rfl
    let Fin : Out (List D) → Prop := fun o => match o with
      | .ok acc δ2 => ∀ A' H', Nx A1 B1 H1 A' H' → Jt p cl A' L B1 H' [.n .lst .own acc] [.ref D0] δ2 (L2.wipe σ ns) → wipeD δ2 ns = δ2 → Q (.ref D0) H'
      | _ => False
    have k0 : Fin (comp ns tg tst elt its [] (wipeD δ1 ns)) := by
      revert k
      cases comp ns tg tst elt its [] (wipeD δ1 ns) with
      | bad => exact id
      | exc c xs s => exact id
      | ok acc δ2 => exact fun k A' H' n' j' w' => k D0 A' H' (n1.trans (n'.weak hb1)) (j'.lower hb1 j.lb) w'
    refine ⟨fun i m Hi => ∃ Ai acc δi, m = its.length - i ∧ i ≤ its.length ∧ ItOk cl L B1 J its Ai Hi ∧ Nx A1 B1 H1 Ai Hi ∧ wipeD δi ns = δi ∧ Jt p cl Ai L B1 Hi [.n .lst .own acc] [.ref D0] δi (L2.wipe σ ns) ∧ Fin (comp ns tg tst elt (its.drop i) acc δi),
      ⟨its.length, _, [], _, by simp, Nat.zero_le _, hit.step n2, n2, wipeD_idem _ _, j2, by rw [List.drop_zero]; exact k0⟩, ?_⟩
    rintro i m Hi ⟨Ai, acc, δi, rfl, hi', hit', ni, wi', ji, ki⟩
    have tf := hit' Ai Hi (Nx.refl ji.ba)
    by_cases hlt : i < its.length
    · refine .inr ⟨tf.1 i hlt, fun H2 => ∃ A2 acc2 δ2, ItOk cl L B1 J its A2 H2 ∧ Nx A1 B1 H1 A2 H2 ∧ wipeD δ2 ns = δ2 ∧ Jt p cl A2 L B1 H2 [.n .lst .own acc2] [.ref D0] δ2 (L2.wipe σ ns) ∧ Fin (comp ns tg tst elt (its.drop (i + 1)) acc2 δ2),
        fun H2 ⟨A2, acc2, δ2, h1, h2, h3, h4, h5⟩ => ⟨its.length - (i + 1), by omega, A2, acc2, δ2, rfl, hlt, h1, h2, h3, h4, h5⟩, fun x H2 hy => ?_⟩
      have ed : its.drop i = its[i] :: its.drop (i + 1) := List.drop_eq_getElem_cons hlt
      rw [ed] at ki
      unfold comp at ki
      obtain ⟨B2, j3, hb2, hj⟩ := ji.seq2
      obtain ⟨A2, n3, j4⟩ := tf.2.2 i x H2 its[i] (List.getElem?_eq_getElem hlt) hy p B2 δi _ hb2 j3
      cases etg : tg its[i] δi with
      | none => rw [etg] at ki; exact ki.elim
      | some δ2 =>
        rw [etg] at ki
        simp only at ki
        refine hg p A2 L B2 H2 δi δ2 _ its[i] x _ j4 etg fun σ2 kp2 j5 => ⟨(wipe_kp kp2).trans (wipe_idem _ _), ?_⟩
        have hw2 : wipeD δ2 ns = δi := (hin _ _ _ etg).trans wi'
        have hb3 : noX (tst δ2) ≠ .bad := fun z => by rw [z] at ki; exact ki
        refine ht.run A2 L B2 H2 δ2 σ2 _ j5 (Post.w0 hb3 fun b δ3 e3 vs3 A3 H3 n4 j6 => ?_)
        rw [e3, noX_ok, bind_ok] at ki
        have hs3 : p = true → δ3 = δ2 := fun hp => by have := ht.pure hp δ2; rw [e3] at this; exact this
        cases b with
        | false =>
          rw [if_neg (by simp)]
          simp only at ki
          have j7 := j6.drop.wipe ns
          rw [(wipe_kp kp2).trans (wipe_idem _ _)] at j7
          have n5 := n3.trans n4
          have j8 := hj A3 H3 [] [] _ _ (fun hp => ⟨by rw [hs3 hp]; exact hw2, rfl⟩) n5 j7
          exact ⟨A3, acc, wipeD δ3 ns, (hit'.step (n5.weak hb2)), ni.trans (n5.weak hb2), wipeD_idem _ _, j8, ki⟩
        | true =>
          rw [if_pos rfl]
          simp only at ki
          have hb4 : noX (elt δ3) ≠ .bad := fun z => by rw [z] at ki; exact ki
          refine he.run A3 L B2 H3 δ3 σ2 _ j6.drop (Post.w0 hb4 fun y δ4 e4 vs4 A4 H4 n5 j7 v ev => ?_)
          subst ev
          rw [e4, noX_ok, bind_ok] at ki
          have hs4 : p = true → δ4 = δ3 := fun hp => by have := he.pure hp δ3; rw [e4] at this; exact this
          have j8 := j7.wipe ns
          rw [(wipe_kp kp2).trans (wipe_idem _ _)] at j8
          have n6 := (n3.trans n4).trans n5
          have j9 := hj A4 H4 [y] [v] _ _ (fun hp => ⟨by rw [hs4 hp, hs3 hp]; exact hw2, rfl⟩) n6 j8
          obtain ⟨a, us, A5, ea, h1, h2, n7, j10⟩ := j9.push
          cases ea
          split at ki
          · rename_i hl
            exact ⟨us, h1, by rw [h2]; exact sz_lt hl, A5, acc ++ [frz y], wipeD δ4 ns, (hit'.step (n6.weak hb2)).step n7, (ni.trans (n6.weak hb2)).trans n7, wipeD_idem _ _, j10, ki⟩
          · exact ki.elim
    · have ed : its.drop i = [] := List.drop_eq_nil_of_le (by omega)
      rw [ed] at ki
      exact .inl ⟨tf.2.1 i (by omega), ki Ai Hi ni ji wi'⟩
theorem Jt.ofPure2 {d : List D} {v : List V} {δ2 : Sl} {σ2 : L2.St} (j0 : Jt p cl A L B H [] [] δ σ) (x : Nx A A H A' H') (j : Jt true cl A' L A H' d v δ2 σ2) : Jt p cl A' L B H' d v δ σ := by
  obtain ⟨f0, g, h1, h2, h3, h4, h5⟩ := j0.ex
  obtain ⟨f2, g2, k1, k2, k3, k4, k5⟩ := j.ex
  have nd2 := List.nodup_append.mp k3
  have nd := List.nodup_append.mp h3
  have gA : ∀ a ∈ g, A a := fun a ha => (h2.inA a ha).1
  refine ⟨⟨f2, g, k1, h2.step x.both (fun a ha => x.prot a (gA a ha)) (fun a h => ⟨(x.prot a (j0.ba a (j0.lb a h))).1, h⟩), List.nodup_append.mpr ⟨nd2.1, nd.2.1, fun a ha c hc e => ?_⟩, fun a ha q => k4 a ha (j0.ba a q), fun hp a ha => h5 hp a ha⟩, j0.lb, fun a h => (x.prot a (j0.ba a h)).2, j.ad⟩
  subst e
  exact k4 a ha (gA a hc)
theorem se_comp {wi : TI} {di : DA} {g : TG} {tg : D → Sl → Option Sl} {tst : DT} {elt : DE} {ns : List Nat} (hi : SI cl xf W false wi di) (hg : SG cl (fun i => ns.contains i) g tg) (hin : TgIn ns tg) (ht : SB cl xf W0 false tt tst) (he : SE cl xf W0 false te elt) :
    SE cl xf W false (tLc wi g tt te ns) (dComp false ns di tg tst elt) := by
  refine ⟨fun z => (by cases z), fun A L B H δ σ Q j k => comp_run hi hg hin ht he j ?_⟩
  unfold dComp at k
  cases e : di δ with
  | bad => rw [e] at k; exact k
  | exc c xs s => rw [e] at k; exact k
  | ok its δ1 =>
    rw [e] at k
    simp only [Out.bind] at k ⊢
    revert k
    cases e2 : comp ns tg tst elt its [] (wipeD δ1 ns) with
    | bad => exact id
    | exc c xs s => exact fun k => absurd e2 (comp_noexc _ _ _ _ _ _)
    | ok acc δ2 => exact fun k D0 A' H' n' j' w' => k [.ref D0] A' H' n' (j'.unwipe w') _ rfl
theorem se_compP {wi : TI} {di : DA} {g : TG} {tg : D → Sl → Option Sl} {tst : DT} {elt : DE} {ns : List Nat} (hi : SI cl xf W true wi di) (hg : SG cl (fun i => ns.contains i) g tg) (hin : TgIn ns tg) (ht : SB cl xf W0 true tt tst) (he : SE cl xf W0 true te elt) :
    SE cl xf W true (tLc wi g tt te ns) (dComp true ns di tg tst elt) := by
  refine ⟨fun _ δ => Out.same_bind (hi.pure rfl δ) fun its => ?_, fun A L B H δ σ Q j k => comp_run hi hg hin ht he j.toPure ?_⟩
  · cases e2 : comp ns tg tst elt its [] (wipeD δ ns) with
    | bad => trivial
    | exc c xs s =>
      exact absurd e2 (comp_noexc _ _ _ _ _ _)
    | ok acc δ2 => rfl
  · unfold dComp at k
    have hs := hi.pure rfl δ
    cases e : di δ with
    | bad => rw [e] at k; exact k
    | exc c xs s =>
      rw [e] at k hs
      cases (show s = δ from hs)
      exact fun d vs A' H' n x j2 => k d vs A' H' (n.weak j.ba) x (j.ofPure n j2)
    | ok its δ1 =>
      rw [e] at k hs
      cases (show δ1 = δ from hs)
      simp only [Out.bind] at k ⊢
      revert k
      cases e2 : comp ns tg tst elt its [] (wipeD δ ns) with
      | bad => exact id
      | exc c xs s => exact fun k => absurd e2 (comp_noexc _ _ _ _ _ _)
      | ok acc δ2 => exact fun k D0 A' H' n' j' w' => k [.ref D0] A' H' (n'.weak j.ba) (j.ofPure2 n' j') _ rfl
end
end Fs
/-! F7 -/
/-! Functions: what a def's body makes of its arguments; calls. -/
namespace Fs
open PySem PySem.Spec PyProof.Rows L2
def ioF : List Bool → Sl → Sl
  | [], _ => []
  | b :: bs, [] => none :: ioF bs []
  | b :: bs, o :: δ => (if b then o else none) :: ioF bs δ
def runF (N : Nat) (io : List Bool) (ds : DS) : List D → Out D := fun args => if args.length = io.length then (match ds (args.map some ++ List.replicate (N - args.length) none) with
  | .ok .nx δ' => .ok .non (ioF io δ')
  | .ok (.rt d) δ' => .ok d (ioF io δ')
  | .ok .bk _ => .bad
  | .ok .ct _ => .bad
  | .exc c xs δ' => .exc c xs (ioF io δ')
  | .bad => .bad) else .bad
/-- the promise -/
def spF (cl : Ec) (xf : Nat → List Str) (np : Nat) (F : List D → Out D) : Sp := fun vs H Q E => ∃ A L B ds, Jt false cl A L B H [] [] (ds.map some) (vs.map some) ∧ vs.length = np ∧ match F ds with
  | .ok d ios => ∀ v A' H', Nx A B H A' H' → Jt false cl A' L B H' [d] [v] ios (vs.map some) → Q v H'
  | .exc c xs ios => ∀ dx us A' H', Nx A B H A' H' → XAt xf A' H' c us dx → Jt false cl A' L B H' xs us ios (vs.map some) → E (.ref (cl.c c)) dx H'
  | .bad => False
section
variable {cl : Ec} {xf : Nat → List Str} {W : WX} {ws : Nat → Bool} {A A' L B : Addr → Prop} {H H' : Hp} {δ δ' : Sl} {σ σ' : L2.St} {p q b : Bool} {te ta tb tc : TE} {tA : TA} {tt tu : TT} {t u : TS} {ts : List D} {vs : List V}
theorem Rpo.nones : ∀ (n : Nat), Rpo cl A L H (List.replicate n none) (List.replicate n none) []
  | 0 => by simp [Rpo]
  | n + 1 => by rw [List.replicate_succ, List.replicate_succ]; simp only [Rpo]; exact ⟨none, _, rfl, Rpo.nones n⟩
theorem Rpo.append : ∀ {δ δ2 : Sl} {σ σ2 : L2.St} {g g2 : List Addr}, Rpo cl A L H δ σ g → Rpo cl A L H δ2 σ2 g2 → Rpo cl A L H (δ ++ δ2) (σ ++ σ2) (g ++ g2)
  | [], δ2, σ, σ2, g, g2, h, h2 => by simp only [Rpo] at h; rw [h.1, h.2]; exact h2
  | none :: δ, δ2, σ, σ2, g, g2, h, h2 => by
    simp only [Rpo, List.cons_append] at h ⊢
    obtain ⟨x, σ', rfl, h3⟩ := h
    exact ⟨x, σ' ++ σ2, rfl, h3.append h2⟩
  | some d :: δ, δ2, σ, σ2, g, g2, h, h2 => by
    simp only [Rpo, List.cons_append] at h ⊢
    obtain ⟨v, σ', f1, f2, rfl, rfl, h3, h4⟩ := h
    exact ⟨v, σ' ++ σ2, f1, f2 ++ g2, rfl, by rw [List.append_assoc], h3, h4.append h2⟩
/-- at the end of a def: what the caller lent for changing -/
theorem Rpo.io : ∀ {io : List Bool} {δ : Sl} {σ σ0 : L2.St} {g : List Addr}, Rpo cl A L H δ σ g → g.Nodup → io.length = σ0.length → io.length ≤ δ.length → (∀ (i : Nat), io[i]? = some true → σ[i]? = σ0[i]?) → ∃ g', Rpo cl A L H (ioF io δ) σ0 g' ∧ g'.Nodup ∧ ∀ a ∈ g', a ∈ g
  | [], δ, σ, σ0, g, h, nd, hl, _, _ => by
    have : σ0 = [] := List.length_eq_zero_iff.mp hl.symm
    subst this
    exact ⟨[], by simp [ioF, Rpo], List.nodup_nil, by simp⟩
  | b :: bs, [], σ, σ0, g, h, nd, hl, hl2, _ => by simp at hl2
  | b :: bs, o :: δ, σ, [], g, h, nd, hl, _, _ => by simp at hl
  | b :: bs, o :: δ, σ, x0 :: σ0, g, h, nd, hl, hl2, hs => by
    simp only [List.length_cons, Nat.add_right_cancel_iff] at hl
    simp only [List.length_cons, Nat.add_le_add_iff_right] at hl2
    cases o with
    | none =>
      simp only [Rpo] at h
      obtain ⟨x, σ', rfl, h2⟩ := h
      obtain ⟨g', k1, k2, k3⟩ := Rpo.io (io := bs) h2 nd hl hl2 (fun i hi => by simpa using hs (i + 1) (by simpa using hi))
      exact ⟨g', by simp only [ioF, ite_self, Rpo]; exact ⟨x0, σ0, rfl, k1⟩, k2, k3⟩
    | some d =>
      simp only [Rpo] at h
      obtain ⟨v, σ', f1, f2, rfl, rfl, h3, h4⟩ := h
      have nd2 := List.nodup_append.mp nd
      obtain ⟨g', k1, k2, k3⟩ := Rpo.io (io := bs) h4 nd2.2.1 hl hl2 (fun i hi => by simpa using hs (i + 1) (by simpa using hi))
      cases b with
      | false => exact ⟨g', by simp only [ioF, Bool.false_eq_true, if_false, Rpo]; exact ⟨x0, σ0, rfl, k1⟩, k2, fun a ha => List.mem_append_right _ (k3 a ha)⟩
      | true =>
        have e0 : some v = x0 := by simpa using hs 0 (by simp)
        subst e0
        refine ⟨f1 ++ g', by simp only [ioF, if_true, Rpo]; exact ⟨v, σ0, f1, g', rfl, rfl, h3, k1⟩, List.nodup_append.mpr ⟨nd2.1, k2, fun a ha c hc => nd2.2.2 a ha c (k3 c hc)⟩, fun a ha => ?_⟩
        rcases List.mem_append.mp ha with ha | ha
        · exact List.mem_append_left _ ha
        · exact List.mem_append_right _ (k3 a ha)
theorem Jt.io {io : List Bool} {σ0 : L2.St} (j : Jt false cl A L B H ts vs δ σ) (hl : io.length = σ0.length) (hl2 : io.length ≤ δ.length) (hs : ∀ (i : Nat), io[i]? = some true → σ[i]? = σ0[i]?) : Jt false cl A L B H ts vs (ioF io δ) σ0 := by
  obtain ⟨f, g, h1, h2, h3, h4, h5⟩ := j.ex
  have nd := List.nodup_append.mp h3
  obtain ⟨g', k1, k2, k3⟩ := h2.io nd.2.1 hl hl2 hs
  exact ⟨⟨f, g', h1, k1, List.nodup_append.mpr ⟨nd.1, k2, fun a ha c hc => nd.2.2 a ha c (k3 c hc)⟩, h4, fun hp a ha => h5 hp a (k3 a ha)⟩, j.lb, j.ba, j.ad⟩
theorem Jt.slots (j : Jt p cl A L B H ts vs δ σ) : δ.length = σ.length := by
  obtain ⟨g, h2, _, _⟩ := j.drop0
  exact h2.length
/-- a block and what it makes of the state -/
def PRSs (cl : Ec) (xf : Nat → List Str) (X : Cx) (W : WX) (ws : Nat → Bool) (sts : List Stmt) (ds : DS) : Prop := ∃ t, PSs X sts t ∧ SS cl xf W ws t ds
theorem fn_ok {P : Program} {w : World} {K : PySem.W.Frag} {mg : Str → Option Value} {base : Heap} {x qual : Str} {params : Arguments} {body : List Stmt} {scope : Scope} {dvs : List V} {kws : List (Str × V)} {f : Addr} {fd : FuncData} {N ps : List Str} {k : Nat} {ds : DS} {io : List Bool}
    (Fd : FunD K x qual params body scope dvs kws f fd) (S : FnScope N ps scope) (hp : ps.length = io.length) (hN : ps.length ≤ N.length) (hio : ∀ (i : Nat), io[i]? = some true → ws i = false)
    (hb : ∀ (cdv : Value) (A : Around) (outer : List Env) (s : Shared) (H : Hp) (E : XK), Room k (A.deeper (envOfC qual scope s.heap.objs.size f cdv)) →
      PRSs cl xf (cxOf (L2.CX P w) P w K mg base N qual scope f cdv A outer s H E) (fun c d _ H' => E c d H') ws body ds) :
    FnOk P w K mg base (L2.CX P w) (k + 1) f fd ps (spF cl xf io.length (runF N.length io ds)) := by
  refine Fd.ok S (fun vs H Q E h => ?_) (fun cdv A outer s H vs Q E hr h => ?_)
  · obtain ⟨_, _, _, _, _, h, _⟩ := h
    rw [h, hp]
  · obtain ⟨t, ht, hs⟩ := hb cdv A outer s H E hr
    refine ⟨t, ht, ?_⟩
    obtain ⟨A0, L0, B0, args, j, hl, k0⟩ := h
    have hla : args.length = vs.length := by have := j.slots; simpa using this
    have j0 : Jt false cl A0 L0 B0 H [] [] (args.map some ++ List.replicate (N.length - args.length) none) (L2.start N vs) := by
      obtain ⟨f, g, h1, h2, h3, h4, h5⟩ := j.ex
      refine ⟨⟨f, g ++ [], h1, ?_, by simpa using h3, h4, by simpa using h5⟩, j.lb, j.ba, j.ad⟩
      unfold L2.start
      rw [hla]
      exact h2.append (Rpo.nones _)
    refine hs A0 L0 B0 H _ _ _ j0 ?_
    unfold runF at k0
    rw [if_pos (by rw [hla, hl])] at k0
    have hlen0 : (L2.start N vs).length = N.length := by unfold L2.start; simp; omega
    have hio2 : ∀ σ' : L2.St, Kp ws (L2.start N vs) σ' → ∀ (i : Nat), io[i]? = some true → σ'[i]? = (vs.map some)[i]? := fun σ' kp i hi => by
      have hi2 : i < io.length := (List.getElem?_eq_some_iff.mp hi).1
      rw [kp.2 i (hio i hi)]
      unfold L2.start
      rw [List.getElem?_append_left (by simp; omega)]
    revert k0
    cases e : ds (args.map some ++ List.replicate (N.length - args.length) none) with
    | bad => exact id
    | exc c xs δ' =>
      intro k0 d us A' H' σ' n' kp x j'
      have hlσ : δ'.length = N.length := by rw [j'.slots, kp.1, hlen0]
      exact k0 d us A' H' n' x (j'.io (by simp; omega) (by omega) (hio2 σ' kp))
    | ok fl δ' =>
      cases fl with
      | bk => exact fun k0 => k0.elim
      | ct => exact fun k0 => k0.elim
      | nx =>
        intro k0 A' H' σ' n' kp j'
        have hlσ : δ'.length = N.length := by rw [j'.slots, kp.1, hlen0]
        exact k0 .non A' H' n' ((j'.io (by simp; omega) (by omega) (hio2 σ' kp)).leaf rfl)
      | rt d =>
        intro k0 v A' H' σ' n' kp j'
        have hlσ : δ'.length = N.length := by rw [j'.slots, kp.1, hlen0]
        exact k0 v A' H' n' (j'.io (by simp; omega) (by omega) (hio2 σ' kp))
/-! ### calls that change nothing of the caller's -/
structure SC (cl : Ec) (xf : Nat → List Str) (W : WX) (ta : TA) (da : DA) : Prop where
  pure : ∀ δ, (da δ).same δ
  run : ∀ A L H δ σ g (R : List V → Hp → Prop), Rpo cl A L H δ σ g → g.Nodup → (∀ a, L a → A a) → (∀ a, A a → H a ≠ none) → (match da δ with
    | .ok ds _ => ∀ us A' H' f, Nx A A H A' H' → Rps cl A' (fun a => L a ∨ a ∈ g) H' true ds us f → f.Nodup → (∀ a ∈ f, ¬ A a) → (∀ a, A' a → H' a ≠ none) → R us H'
    | .exc c xs δ' => PostX cl xf W true c xs δ' A L A H σ
    | .bad => False) → ta σ H R
theorem sc_nil : SC cl xf W tNil daNil := ⟨fun δ => rfl, fun A L H δ σ g R h nd la ad k => k [] A H [] (Nx.refl fun _ h => h) (by simp [Rps]) List.nodup_nil (by simp) ad⟩
theorem Jt.pure0 {g : List Addr} (h : Rpo cl A L H δ σ g) (nd : g.Nodup) (la : ∀ a, L a → A a) (ad : ∀ a, A a → H a ≠ none) : Jt true cl A L A H [] [] δ σ := ⟨⟨[], g, by simp [Rps], h, by simpa using nd, by simp, by simp⟩, la, fun _ h => h, ad⟩
theorem sc_val {a : DE} {r : DA} (ha : SE cl xf W true te a) (hr : SC cl xf W tA r) : SC cl xf W (tCons te tA) (daCons a r) := by
  refine ⟨fun δ => Out.same_bind (ha.pure rfl δ) fun x => Out.same_bind (hr.pure δ) fun xs => rfl, fun A L H δ σ g R h nd la ad k => ?_⟩
  have j := Jt.pure0 h nd la ad
  have hs := ha.pure rfl δ
  unfold daCons at k
  refine ha.run A L A H δ σ _ j ?_
  cases e : a δ with
  | bad => rw [e] at k; exact k.elim
  | exc c xs s => rw [e] at k; exact k
  | ok x s =>
    rw [e] at k hs
    cases (show s = δ from hs)
    simp only [Out.bind] at k
    intro vs A1 H1 n1 j1 v ev
    subst ev
    obtain ⟨fx, g1, h1, h2, h3, h4, _⟩ := j1.ex
    simp only [Rps] at h1
    obtain ⟨v0, vs0, f1, f2, e0, rfl, h6, rfl, rfl⟩ := h1
    cases e0
    rw [List.append_nil] at h3 h4
    have gA : ∀ a ∈ g, A a := fun a ha => (h.inA a ha).1
    have hg := h.step (A' := A1) (L' := L) (H' := H1) n1.both (fun a ha => n1.prot a (gA a ha)) (fun a hl => ⟨(n1.prot a (la a hl)).1, hl⟩)
    refine hr.run A1 L H1 δ σ g _ hg nd (fun a hl => (n1.prot a (la a hl)).2) j1.ad ?_
    have hs2 := hr.pure δ
    cases e2 : r δ with
    | bad => rw [e2] at k; exact k.elim
    | exc c xs s =>
      rw [e2] at k hs2
      cases (show s = δ from hs2)
      intro d us A2 H2 n2 x2 j2
      exact k d us A2 H2 (n1.trans (n2.weak fun a ha => (n1.prot a ha).2)) x2 (j.ofPure2 (n1.trans (n2.weak fun a ha => (n1.prot a ha).2)) (j2.lower (fun a ha => (n1.prot a ha).2) la))
    | ok xs s =>
      rw [e2] at k
      simp only [Out.bind] at k
      intro us A2 H2 f n2 r2 nf hf ad2
      have n3 : Nx A A H A2 H2 := n1.trans (n2.weak fun a ha => (n1.prot a ha).2)
      refine k (v :: us) A2 H2 (f1 ++ f) n3 ?_ ?_ ?_ ad2
      · simp only [Rps]
        refine ⟨v, us, f1, f, rfl, rfl, (h6.step n2.both (fun a ha => n2.prot a (h6.inA a ha).1) (by simp)).weak, r2⟩
      · exact List.nodup_append.mpr ⟨(List.nodup_append.mp h3).1, nf, fun a ha c hc e => by subst e; exact hf a hc (h6.inA a ha).1⟩
      · intro a ha
        rcases List.mem_append.mp ha with ha | ha
        · exact h4 a ha
        · exact fun q => hf a ha (n1.prot a q).2
/-- a thing lent -/
def daLend (a : PP) (r : DA) : DA := fun δ => match a δ with
  | some d => (r δ).bind fun xs δ2 => .ok (lend d :: xs) δ2
  | none => .bad
theorem sc_lend {a : PP} {r : DA} (ha : SP cl te a) (hr : SC cl xf W tA r) : SC cl xf W (tCons te tA) (daLend a r) := by
  refine ⟨fun δ => ?_, fun A L H δ σ g R h nd la ad k => ?_⟩
  · unfold daLend
    split
    · exact Out.same_bind (hr.pure δ) fun xs => rfl
    · trivial
  · unfold daLend at k
    cases e : a δ with
    | none => rw [e] at k; exact k.elim
    | some d =>
      rw [e] at k
      simp only at k
      refine ha A L H δ σ g d _ h e fun v fp h1 n1 => ?_
      refine hr.run A L H δ σ g _ h nd la ad ?_
      cases e2 : r δ with
      | bad => rw [e2] at k; exact k.elim
      | exc c xs s => rw [e2] at k; exact k
      | ok xs s =>
        rw [e2] at k
        simp only [Out.bind] at k
        intro us A2 H2 f n2 r2 nf hf ad2
        refine k (v :: us) A2 H2 f n2 ?_ nf hf ad2
        simp only [Rps]
        have h2 := (h1.lend (L' := fun a => L a ∨ a ∈ g) (fun a ha => .inr (n1 a ha)) (fun a hl => .inl hl))
        refine ⟨v, us, [], f, rfl, rfl, h2.step n2.both (by simp) (fun _ a hl => ⟨?_, hl⟩), r2⟩
        rcases hl with hl | hl
        · exact (n2.prot a (la a hl)).1
        · exact (n2.prot a (h.inA a hl).1).1
theorem Rps.rpo : ∀ {ds : List D} {us : List V} {f : List Addr}, Rps cl A L H true ds us f → Rpo cl A L H (ds.map some) (us.map some) f
  | [], us, f, h => by simp only [Rps] at h; rw [h.1, h.2]; simp [Rpo]
  | d :: ds, us, f, h => by
    simp only [Rps] at h
    obtain ⟨v, vs', f1, f2, rfl, rfl, h3, h4⟩ := h
    simp only [List.map_cons, Rpo]
    exact ⟨v, _, f1, f2, rfl, rfl, h3, Rps.rpo h4⟩
/-- a call of a promised def -/
def dCall (F : List D → Out D) (r : DA) : DE := fun δ => (r δ).bind fun ds δ1 => match F ds with
  | .ok d _ => .ok d δ1
  | .exc c xs _ => .exc c xs δ1
  | .bad => .bad
theorem se_call {r : DA} {F : List D → Out D} {np : Nat} (hr : SC cl xf W tA r) (hn : ∀ δ ds s, r δ = .ok ds s → ds.length = np) : SE cl xf W true (tCallS (spF cl xf np F) (WE W) tA) (dCall F r) := by
  refine ⟨fun _ δ => Out.same_bind (hr.pure δ) fun ds => ?_, fun A L B H δ σ Q j k => ?_⟩
  · split <;> first | rfl | trivial
  · obtain ⟨g, hg, nd, _⟩ := j.drop0
    refine hr.run A L H δ σ g _ hg nd (fun a h => j.ba a (j.lb a h)) j.ad ?_
    unfold dCall at k
    have hs := hr.pure δ
    cases e : r δ with
    | bad => rw [e] at k; exact k.elim
    | exc c xs s =>
      rw [e] at k hs
      cases (show s = δ from hs)
      exact fun d us A2 H2 n2 x2 j2 => k d us A2 H2 (n2.weak j.ba) x2 (j.ofPure2 n2 j2)
    | ok ds s =>
      rw [e] at k hs
      cases (show s = δ from hs)
      simp only [Out.bind] at k
      intro us A1 H1 f n1 r1 nf hf ad1
      have gA : ∀ a ∈ g, A a := fun a ha => (hg.inA a ha).1
      have LgA : ∀ a, (L a ∨ a ∈ g) → A a := fun a h => h.elim (fun h => j.ba a (j.lb a h)) (gA a)
      let Bc : Addr → Prop := fun a => A1 a ∧ a ∉ f
      have jc : Jt false cl A1 Bc Bc H1 [] [] (ds.map some) (us.map some) := by
        refine ⟨⟨[], f, by simp [Rps], (r1.step (L' := Bc) (fun a o h n => ⟨h, n⟩) (fun a ha => ⟨rfl, (r1.inA a ha).1⟩) (fun _ a hl => ⟨rfl, (n1.prot a (LgA a hl)).2, fun q => hf a q (LgA a hl)⟩)).rpo, by simpa using nf, by simp, fun _ a ha q => q.2 ha⟩, fun _ h => h, fun a h => h.1, ad1⟩
      refine ⟨A1, Bc, Bc, ds, jc, by rw [← r1.length]; exact hn δ ds δ e, ?_⟩
      have fin : ∀ (d : List D) (v : List V) A2 H2 δ2 σ2, Nx A1 Bc H1 A2 H2 → Jt false cl A2 Bc Bc H2 d v δ2 σ2 → Nx A B H A2 H2 ∧ Jt true cl A2 L B H2 d v δ σ := by
        intro d v A2 H2 δ2 σ2 n2 j2
        have n3 : Nx A A H A2 H2 := n1.trans (n2.weak fun a ha => ⟨(n1.prot a ha).2, fun q => hf a q ha⟩)
        obtain ⟨f2, g2, k1, k2, k3, k4, k5⟩ := j2.ex
        refine ⟨n3.weak j.ba, j.ofPure2 n3 (δ2 := []) (σ2 := []) ⟨⟨f2, [], k1.step (L' := L) (fun a o h n => ⟨h, n⟩) (fun a ha => ⟨rfl, (k1.inA a ha).1⟩) (by simp), by simp [Rpo], by simpa using (List.nodup_append.mp k3).1, fun a ha q => k4 a ha ⟨(n1.prot a q).2, fun z => hf a z q⟩, by simp⟩, fun a h => j.ba a (j.lb a h), fun a h => (n3.prot a h).2, j2.ad⟩⟩
      cases e2 : F ds with
      | bad => rw [e2] at k; exact k.elim
      | exc c xs ios =>
        rw [e2] at k
        intro dx ws A2 H2 n2 x2 j2
        obtain ⟨n3, j3⟩ := fin _ _ _ _ _ _ n2 j2
        exact k dx ws A2 H2 n3 x2 j3
      | ok d ios =>
        rw [e2] at k
        intro v A2 H2 n2 j2
        obtain ⟨n3, j3⟩ := fin _ _ _ _ _ _ n2 j2
        exact k [v] A2 H2 n3 j3 v rfl
end
end Fs
/-! F8 -/
/-! Calls that change things of the caller's. -/
namespace Fs
open PySem PySem.Spec PyProof.Rows L2
/-- an argument: a value, a name that is lent, a name that is lent for changing -/
inductive AK | v (e : DE) | l (i : Nat) | o (i : Nat)
def dArgs : List AK → Sl → Out (List D)
  | [], δ => .ok [] δ
  | .v e :: ks, δ => (e δ).bind fun x δ1 => (dArgs ks δ1).bind fun xs δ2 => .ok (x :: xs) δ2
  | .l i :: ks, δ => if (δ[i]?).join.isSome then dArgs ks δ else .bad
  | .o i :: ks, δ => if (δ[i]?).join.isSome then dArgs ks δ else .bad
/-- the values in the arguments' order -/
def WV (σ : L2.St) : List AK → List V → List V → Prop
  | [], tv, vs => tv = [] ∧ vs = []
  | .v _ :: ks, tv, vs => ∃ t tv' vs', tv = t :: tv' ∧ vs = t :: vs' ∧ WV σ ks tv' vs'
  | .l i :: ks, tv, vs => ∃ v vs', σ[i]? = some (some v) ∧ vs = v :: vs' ∧ WV σ ks tv vs'
  | .o i :: ks, tv, vs => ∃ v vs', σ[i]? = some (some v) ∧ vs = v :: vs' ∧ WV σ ks tv vs'
def tk : List AK → List D → Sl → Option (List (Option D × Nat) × Sl)
  | [], [], δ => some ([], δ)
  | .v _ :: ks, t :: ts, δ => (tk ks ts δ).map fun r => ((some t, 0) :: r.1, r.2)
  | .l i :: ks, ts, δ => (tk ks ts δ).map fun r => ((none, i) :: r.1, r.2)
  | .o i :: ks, ts, δ => ((δ[i]?).join).bind fun d => if d.free then (tk ks ts (δ.set i none)).map fun r => ((some d, 0) :: r.1, r.2) else none
  | _, _, _ => none
def res (δ : Sl) : List (Option D × Nat) → Option (List D)
  | [] => some []
  | (some d, _) :: r => (res δ r).map fun ds => d :: ds
  | (none, i) :: r => ((δ[i]?).join).bind fun d => (res δ r).map fun ds => lend d :: ds
def putB : List AK → Sl → Sl → Option Sl
  | [], [], δ => some δ
  | .o i :: ks, some d :: ios, δ => if d.free then putB ks ios (δ.set i (some d)) else none
  | _ :: ks, _ :: ios, δ => putB ks ios δ
  | _, _, _ => none
section
variable {cl : Ec} {xf : Nat → List Str} {W : WX} {ws : Nat → Bool} {A A' L L' B : Addr → Prop} {H H' : Hp} {δ δ' : Sl} {σ σ' : L2.St} {p q b : Bool} {te ta tb tc : TE} {tA : TA} {tt tu : TT} {t u : TS} {ts : List D} {vs : List V}
def SQ (cl : Ec) (xf : Nat → List Str) (W : WX) (ta : TA) (ks : List AK) : Prop := ∀ A L B H δ σ R, Jt false cl A L B H [] [] δ σ → (match dArgs ks δ with
  | .ok ts δ1 => ∀ tv vs A' H', Nx A B H A' H' → Jt false cl A' L B H' ts tv δ1 σ → WV σ ks tv vs → R vs H'
  | .exc c xs δ' => PostX cl xf W false c xs δ' A L B H σ
  | .bad => False) → ta σ H R
theorem sq_nil : SQ cl xf W tNil [] := fun A L B H δ σ R j k => k [] [] A H (Nx.refl j.ba) j ⟨rfl, rfl⟩
theorem sq_val {a : DE} {ks : List AK} (ha : SE cl xf W false te a) (hr : SQ cl xf W tA ks) : SQ cl xf W (tCons te tA) (.v a :: ks) := fun A L B H δ σ R j k => by
  unfold dArgs at k
  refine ha.run A L B H δ σ _ j ?_
  cases e : a δ with
  | bad => rw [e] at k; exact k.elim
  | exc c xs s => rw [e] at k; exact k
  | ok x s =>
    rw [e] at k
    simp only [Out.bind] at k
    intro vs A1 H1 n1 j1 v ev
    subst ev
    obtain ⟨B', j2, hb, hj⟩ := j1.seq
    refine hr A1 L B' H1 s σ _ j2 ?_
    cases e2 : dArgs ks s with
    | bad => rw [e2] at k; exact k.elim
    | exc c xs s2 => rw [e2] at k; exact (PostX.step (show PostX cl xf W false c xs s2 A L B H σ from k) n1).under hb j1.lb
    | ok xs s2 =>
      rw [e2] at k
      simp only [Out.bind] at k
      intro tv us A2 H2 n2 j3 w
      exact k (v :: tv) (v :: us) A2 H2 (n1.trans (n2.weak hb)) (hj A2 H2 _ _ _ (by simp) n2 j3) ⟨v, tv, us, rfl, rfl, w⟩
theorem slot_some {i : Nat} (j : Jt p cl A L B H ts vs δ σ) (h : (δ[i]?).join.isSome = true) : ∃ v, σ[i]? = some (some v) := by
  obtain ⟨d, e⟩ := Option.isSome_iff_exists.mp h
  obtain ⟨g, h2, _⟩ := j.drop0
  obtain ⟨v, f1, g1, _⟩ := h2.get (join_some e)
  exact ⟨v, g1⟩
theorem sq_l {i : Nat} {ks : List AK} (hr : SQ cl xf W tA ks) : SQ cl xf W (tCons (tVar i) tA) (.l i :: ks) := fun A L B H δ σ R j k => by
  unfold dArgs at k
  by_cases h : (δ[i]?).join.isSome = true
  · rw [if_pos h] at k
    obtain ⟨v, hv⟩ := slot_some j h
    refine ⟨v, hv, hr A L B H δ σ _ j ?_⟩
    cases e2 : dArgs ks δ with
    | bad => rw [e2] at k; exact k.elim
    | exc c xs s2 => rw [e2] at k; exact k
    | ok xs s2 =>
      rw [e2] at k
      intro tv us A2 H2 n2 j3 w
      exact k tv (v :: us) A2 H2 n2 j3 ⟨v, us, hv, rfl, w⟩
  · rw [if_neg h] at k
    exact k.elim
theorem sq_o {i : Nat} {ks : List AK} (hr : SQ cl xf W tA ks) : SQ cl xf W (tCons (tVar i) tA) (.o i :: ks) := fun A L B H δ σ R j k => by
  unfold dArgs at k
  by_cases h : (δ[i]?).join.isSome = true
  · rw [if_pos h] at k
    obtain ⟨v, hv⟩ := slot_some j h
    refine ⟨v, hv, hr A L B H δ σ _ j ?_⟩
    cases e2 : dArgs ks δ with
    | bad => rw [e2] at k; exact k.elim
    | exc c xs s2 => rw [e2] at k; exact k
    | ok xs s2 =>
      rw [e2] at k
      intro tv us A2 H2 n2 j3 w
      exact k tv (v :: us) A2 H2 n2 j3 ⟨v, us, hv, rfl, w⟩
  · rw [if_neg h] at k
    exact k.elim
/-- the things in hand, and places that are lent -/
def PA (cl : Ec) (A L : Addr → Prop) (H : Hp) (σ : L2.St) : List (Option D × Nat) → List V → List Addr → Prop
  | [], vs, f => vs = [] ∧ f = []
  | (some d, _) :: r, vs, f => ∃ v vs' f1 f2, vs = v :: vs' ∧ f = f1 ++ f2 ∧ Rp cl A L H false d v f1 ∧ PA cl A L H σ r vs' f2
  | (none, i) :: r, vs, f => ∃ v vs', vs = v :: vs' ∧ σ[i]? = some (some v) ∧ PA cl A L H σ r vs' f
theorem nodup_mid {α : Type} {a b c : List α} : (a ++ (b ++ c)).Nodup → (b ++ (a ++ c)).Nodup := fun h => by
  have h1 := List.nodup_append.mp h
  have h2 := List.nodup_append.mp h1.2.1
  refine List.nodup_append.mpr ⟨h2.1, List.nodup_append.mpr ⟨h1.1, h2.2.1, fun x hx y hy => h1.2.2 x hx y (List.mem_append_right _ hy)⟩, fun x hx y hy e => ?_⟩
  subst e
  rcases List.mem_append.mp hy with hy | hy
  · exact h1.2.2 x hy x (List.mem_append_left _ hx) rfl
  · exact h2.2.2 x hx x hy rfl
theorem tk_ok : ∀ {ks : List AK} {ts : List D} {tv vs : List V} {δ δr : Sl} {f g : List Addr} {es : List (Option D × Nat)}, Rps cl A L H false ts tv f → Rpo cl A L H δ σ g → (f ++ g).Nodup → WV σ ks tv vs → tk ks ts δ = some (es, δr) →
    ∃ f' gr, PA cl A L H σ es vs f' ∧ Rpo cl A L H δr σ gr ∧ (f' ++ gr).Nodup ∧ ∀ a ∈ f' ++ gr, a ∈ f ++ g
  | [], [], tv, vs, δ, δr, f, g, es, h1, h2, nd, w, e => by
    simp only [tk, Option.some.injEq, Prod.mk.injEq] at e
    obtain ⟨rfl, rfl⟩ := e
    simp only [Rps] at h1
    simp only [WV] at w
    obtain ⟨_, rfl⟩ := h1
    exact ⟨[], g, by simp only [PA]; exact ⟨w.2, trivial⟩, h2, nd, fun a ha => ha⟩
  | [], t :: ts, tv, vs, δ, δr, f, g, es, h1, h2, nd, w, e => by simp [tk] at e
  | .v x :: ks, [], tv, vs, δ, δr, f, g, es, h1, h2, nd, w, e => by simp [tk] at e
  | .v x :: ks, t :: ts, tv, vs, δ, δr, f, g, es, h1, h2, nd, w, e => by
    simp only [tk] at e
    obtain ⟨⟨es', δr'⟩, e1, e2⟩ := Option.map_eq_some_iff.mp e
    simp only [Prod.mk.injEq] at e2
    obtain ⟨rfl, rfl⟩ := e2
    simp only [Rps] at h1
    obtain ⟨v, tv', f1, f2, rfl, rfl, h3, h4⟩ := h1
    simp only [WV] at w
    obtain ⟨t0, tv0, vs', e3, rfl, w⟩ := w
    cases e3
    rw [List.append_assoc] at nd
    have nd2 := List.nodup_append.mp nd
    obtain ⟨f', gr, k1, k2, k3, k4⟩ := tk_ok h4 h2 nd2.2.1 w e1
    refine ⟨f1 ++ f', gr, by simp only [PA]; exact ⟨v, vs', f1, f', rfl, rfl, h3, k1⟩, k2, ?_, fun a ha => ?_⟩
    · rw [List.append_assoc]
      exact List.nodup_append.mpr ⟨nd2.1, k3, fun a ha c hc => nd2.2.2 a ha c (k4 c hc)⟩
    · rw [List.append_assoc] at ha ⊢
      rcases List.mem_append.mp ha with ha | ha
      · exact List.mem_append_left _ ha
      · exact List.mem_append_right _ (k4 a ha)
  | .l i :: ks, ts, tv, vs, δ, δr, f, g, es, h1, h2, nd, w, e => by
    simp only [tk] at e
    obtain ⟨⟨es', δr'⟩, e1, e2⟩ := Option.map_eq_some_iff.mp e
    simp only [Prod.mk.injEq] at e2
    obtain ⟨rfl, rfl⟩ := e2
    simp only [WV] at w
    obtain ⟨v, vs', e3, rfl, w⟩ := w
    obtain ⟨f', gr, k1, k2, k3, k4⟩ := tk_ok h1 h2 nd w e1
    exact ⟨f', gr, by simp only [PA]; exact ⟨v, vs', rfl, e3, k1⟩, k2, k3, k4⟩
  | .o i :: ks, ts, tv, vs, δ, δr, f, g, es, h1, h2, nd, w, e => by
    simp only [tk] at e
    obtain ⟨d, e0, e⟩ := Option.bind_eq_some_iff.mp e
    split at e
    · rename_i hf
      obtain ⟨⟨es', δr'⟩, e1, e2⟩ := Option.map_eq_some_iff.mp e
      simp only [Prod.mk.injEq] at e2
      obtain ⟨rfl, rfl⟩ := e2
      simp only [WV] at w
      obtain ⟨v, vs', e3, rfl, w⟩ := w
      have nd1 := List.nodup_append.mp nd
      obtain ⟨v2, g1, g2, q1, q2, q3, q4, q5⟩ := h2.take (join_some e0) nd1.2.1
      rw [e3] at q1
      cases q1
      have q4' := List.nodup_append.mp q4
      have nd2 : (f ++ g2).Nodup := List.nodup_append.mpr ⟨nd1.1, q4'.2.1, fun a ha c hc => nd1.2.2 a ha c ((q5 c).mp (List.mem_append_right _ hc))⟩
      obtain ⟨f', gr, k1, k2, k3, k4⟩ := tk_ok h1 q3 nd2 w e1
      refine ⟨g1 ++ f', gr, by simp only [PA]; exact ⟨v, vs', g1, f', rfl, rfl, q2.free hf, k1⟩, k2, ?_, fun a ha => ?_⟩
      · rw [List.append_assoc]
        refine List.nodup_append.mpr ⟨q4'.1, k3, fun a ha c hc e => ?_⟩
        subst e
        rcases List.mem_append.mp (k4 a hc) with z | z
        · exact nd1.2.2 a z a ((q5 a).mp (List.mem_append_left _ ha)) rfl
        · exact q4'.2.2 a ha a z rfl
      · rw [List.append_assoc] at ha
        rcases List.mem_append.mp ha with ha | ha
        · exact List.mem_append_right _ ((q5 a).mp (List.mem_append_left _ ha))
        · rcases List.mem_append.mp (k4 a ha) with z | z
          · exact List.mem_append_left _ z
          · exact List.mem_append_right _ ((q5 a).mp (List.mem_append_right _ z))
    · cases e
theorem res_ok : ∀ {es : List (Option D × Nat)} {vs : List V} {f gr : List Addr} {δr : Sl} {ds : List D}, PA cl A L H σ es vs f → Rpo cl A L H δr σ gr → res δr es = some ds → Rps cl A (fun a => L a ∨ a ∈ gr) H true ds vs f
  | [], vs, f, gr, δr, ds, h, h2, e => by
    simp only [res, Option.some.injEq] at e
    subst e
    simp only [PA] at h
    simp only [Rps]
    exact h
  | (some d, n) :: es, vs, f, gr, δr, ds, h, h2, e => by
    simp only [res] at e
    obtain ⟨ds', e1, rfl⟩ := Option.map_eq_some_iff.mp e
    simp only [PA] at h
    obtain ⟨v, vs', f1, f2, rfl, rfl, h3, h4⟩ := h
    simp only [Rps]
    exact ⟨v, vs', f1, f2, rfl, rfl, (h3.step (fun a o q n => ⟨q, n⟩) (fun a ha => ⟨rfl, (h3.inA a ha).1⟩) (by simp)).weak, res_ok h4 h2 e1⟩
  | (none, i) :: es, vs, f, gr, δr, ds, h, h2, e => by
    simp only [res] at e
    obtain ⟨d, e0, e⟩ := Option.bind_eq_some_iff.mp e
    obtain ⟨ds', e1, rfl⟩ := Option.map_eq_some_iff.mp e
    simp only [PA] at h
    obtain ⟨v, vs', rfl, e2, h4⟩ := h
    obtain ⟨v2, f1, g1, g2, g3⟩ := h2.get (join_some e0)
    rw [e2] at g1
    cases g1
    simp only [Rps]
    exact ⟨v, vs', [], f, rfl, rfl, g2.lend (fun a ha => .inr (g3 a ha)) (fun a hl => .inl hl), res_ok h4 h2 e1⟩
theorem putB_ok : ∀ {ks : List AK} {tv vs : List V} {ios δr δ2 : Sl} {gi gr : List Addr}, WV σ ks tv vs → Rpo cl A L' H ios (vs.map some) gi → Rpo cl A L H δr σ gr → (gi ++ gr).Nodup → putB ks ios δr = some δ2 → ∃ g2, Rpo cl A L H δ2 σ g2 ∧ g2.Nodup ∧ ∀ a ∈ g2, a ∈ gi ++ gr
  | [], tv, vs, [], δr, δ2, gi, gr, w, h1, h2, nd, e => by
    simp only [putB, Option.some.injEq] at e
    subst e
    exact ⟨gr, h2, (List.nodup_append.mp nd).2.1, fun a ha => List.mem_append_right _ ha⟩
  | [], tv, vs, _ :: _, δr, δ2, gi, gr, w, h1, h2, nd, e => by simp [putB] at e
  | .v x :: ks, tv, vs, [], δr, δ2, gi, gr, w, h1, h2, nd, e => by simp [putB] at e
  | .l i :: ks, tv, vs, [], δr, δ2, gi, gr, w, h1, h2, nd, e => by simp [putB] at e
  | .o i :: ks, tv, vs, [], δr, δ2, gi, gr, w, h1, h2, nd, e => by simp [putB] at e
  | .v x :: ks, tv, vs, o :: ios, δr, δ2, gi, gr, w, h1, h2, nd, e => by
    simp only [putB] at e
    simp only [WV] at w
    obtain ⟨t0, tv0, vs', rfl, rfl, w⟩ := w
    obtain ⟨g', q1, q2⟩ : ∃ g', Rpo cl A L' H ios (vs'.map some) g' ∧ (g' ++ gr).Nodup ∧ ∀ a ∈ g', a ∈ gi := by
      cases o with
      | none => simp only [List.map_cons, Rpo] at h1; obtain ⟨x, σ', e, h⟩ := h1; cases e; exact ⟨gi, h, nd, fun a ha => ha⟩
      | some d =>
        simp only [List.map_cons, Rpo] at h1
        obtain ⟨v, σ', f1, f2, e, rfl, h3, h4⟩ := h1
        cases e
        rw [List.append_assoc] at nd
        exact ⟨f2, h4, (List.nodup_append.mp nd).2.1, fun a ha => List.mem_append_right _ ha⟩
    obtain ⟨g2, k1, k2, k3⟩ := putB_ok w q1 h2 q2.1 e
    exact ⟨g2, k1, k2, fun a ha => (List.mem_append.mp (k3 a ha)).elim (fun z => List.mem_append_left _ (q2.2 a z)) (fun z => List.mem_append_right _ z)⟩
  | .l i :: ks, tv, vs, o :: ios, δr, δ2, gi, gr, w, h1, h2, nd, e => by
    simp only [putB] at e
    simp only [WV] at w
    obtain ⟨v0, vs', e0, rfl, w⟩ := w
    obtain ⟨g', q1, q2⟩ : ∃ g', Rpo cl A L' H ios (vs'.map some) g' ∧ (g' ++ gr).Nodup ∧ ∀ a ∈ g', a ∈ gi := by
      cases o with
      | none => simp only [List.map_cons, Rpo] at h1; obtain ⟨x, σ', e, h⟩ := h1; cases e; exact ⟨gi, h, nd, fun a ha => ha⟩
      | some d =>
        simp only [List.map_cons, Rpo] at h1
        obtain ⟨v, σ', f1, f2, e, rfl, h3, h4⟩ := h1
        cases e
        rw [List.append_assoc] at nd
        exact ⟨f2, h4, (List.nodup_append.mp nd).2.1, fun a ha => List.mem_append_right _ ha⟩
    obtain ⟨g2, k1, k2, k3⟩ := putB_ok w q1 h2 q2.1 e
    exact ⟨g2, k1, k2, fun a ha => (List.mem_append.mp (k3 a ha)).elim (fun z => List.mem_append_left _ (q2.2 a z)) (fun z => List.mem_append_right _ z)⟩
  | .o i :: ks, tv, vs, none :: ios, δr, δ2, gi, gr, w, h1, h2, nd, e => by
    simp only [putB] at e
    simp only [WV] at w
    obtain ⟨v0, vs', e0, rfl, w⟩ := w
    simp only [List.map_cons, Rpo] at h1
    obtain ⟨x, σ', e3, h⟩ := h1
    cases e3
    exact putB_ok w h h2 nd e
  | .o i :: ks, tv, vs, some d :: ios, δr, δ2, gi, gr, w, h1, h2, nd, e => by
    simp only [putB] at e
    by_cases hfr : d.free = true
    case neg => rw [if_neg hfr] at e; cases e
    rw [if_pos hfr] at e
    simp only [WV] at w
    obtain ⟨v0, vs', e0, rfl, w⟩ := w
    simp only [List.map_cons, Rpo] at h1
    obtain ⟨v, σ', f1, f2, e3, rfl, h3, h4⟩ := h1
    cases e3
    have h3f := h3.free hfr
    replace h3 := (h3f.step (L' := L) (fun a o q n => ⟨q, n⟩) (fun a ha => ⟨rfl, (h3f.inA a ha).1⟩) (by simp)).weak (b := true)
    rw [List.append_assoc] at nd
    have nd1 := List.nodup_append.mp nd
    have nd2 := List.nodup_append.mp nd1.2.1
    have hlen : i < δr.length := by rw [h2.length]; exact (List.getElem?_eq_some_iff.mp e0).1
    obtain ⟨g3, q1, q2, q3⟩ := h2.put hlen h3 (List.nodup_append.mpr ⟨nd1.1, nd2.2.1, fun a ha c hc => nd1.2.2 a ha c (List.mem_append_right _ hc)⟩)
    rw [set_set_eq e0] at q1
    have nd3 : (f2 ++ g3).Nodup := List.nodup_append.mpr ⟨nd2.1, q2, fun a ha c hc e => by
      subst e
      rcases List.mem_append.mp (q3 a hc) with z | z
      · exact nd1.2.2 a z a (List.mem_append_left _ ha) rfl
      · exact nd2.2.2 a ha a z rfl⟩
    obtain ⟨g2, k1, k2, k3⟩ := putB_ok w h4 q1 nd3 e
    refine ⟨g2, k1, k2, fun a ha => ?_⟩
    rw [List.append_assoc]
    rcases List.mem_append.mp (k3 a ha) with z | z
    · exact List.mem_append_right _ (List.mem_append_left _ z)
    · rcases List.mem_append.mp (q3 a z) with z | z
      · exact List.mem_append_left _ z
      · exact List.mem_append_right _ (List.mem_append_right _ z)
def dCallIO (F : List D → Out D) (ks : List AK) : DE := fun δ => (dArgs ks δ).bind fun ts δ1 => match tk ks ts δ1 with
  | none => .bad
  | some r => match res r.2 r.1 with
    | none => .bad
    | some ds => match F ds with
      | .ok d ios => (match putB ks ios r.2 with | some δ2 => .ok d δ2 | none => .bad)
      | .exc c xs ios => (match putB ks ios r.2 with | some δ2 => .exc c xs δ2 | none => .bad)
      | .bad => .bad
theorem WV.len : ∀ {ks : List AK} {tv vs : List V}, WV σ ks tv vs → vs.length = ks.length
  | [], tv, vs, w => by simp only [WV] at w; simp [w.2]
  | .v x :: ks, tv, vs, w => by simp only [WV] at w; obtain ⟨_, _, vs', _, rfl, w⟩ := w; simp [WV.len w]
  | .l i :: ks, tv, vs, w => by simp only [WV] at w; obtain ⟨_, vs', _, rfl, w⟩ := w; simp [WV.len w]
  | .o i :: ks, tv, vs, w => by simp only [WV] at w; obtain ⟨_, vs', _, rfl, w⟩ := w; simp [WV.len w]
theorem se_callIO {ks : List AK} {F : List D → Out D} {np : Nat} (hr : SQ cl xf W tA ks) (hn : ks.length = np) : SE cl xf W false (tCallS (spF cl xf np F) (WE W) tA) (dCallIO F ks) := by
  refine ⟨fun z => (by cases z), fun A L B H δ σ Q j k => hr A L B H δ σ _ j ?_⟩
  unfold dCallIO at k
  cases e : dArgs ks δ with
  | bad => rw [e] at k; exact k.elim
  | exc c xs s => rw [e] at k; exact k
  | ok ts s =>
    rw [e] at k
    simp only [Out.bind] at k
    intro tv vs A1 H1 n1 j1 w
    cases e1 : tk ks ts s with
    | none => rw [e1] at k; exact k.elim
    | some r =>
      obtain ⟨es, δr⟩ := r
      rw [e1] at k
      simp only at k
      cases e2 : res δr es with
      | none => rw [e2] at k; exact k.elim
      | some ds =>
        rw [e2] at k
        simp only at k
        obtain ⟨f0, g0, h1, h2, h3, h4, h5⟩ := j1.ex
        obtain ⟨f, gr, q1, q2, q3, q4⟩ := tk_ok h1 h2 h3 w e1
        have r1 := res_ok q1 q2 e2
        have nB : ∀ a ∈ f ++ gr, ¬ B a := fun a ha => (List.mem_append.mp (q4 a ha)).elim (h4 a) (h5 rfl a)
        have nd := List.nodup_append.mp q3
        have grA : ∀ a ∈ gr, A1 a := fun a ha => (q2.inA a ha).1
        let Bc : Addr → Prop := fun a => A1 a ∧ a ∉ f
        have grB : ∀ a ∈ gr, Bc a := fun a ha => ⟨grA a ha, fun z => nd.2.2 a z a ha rfl⟩
        have bB : ∀ a, B a → Bc a := fun a h => ⟨j1.ba a h, fun z => nB a (List.mem_append_left _ z) h⟩
        have jc : Jt false cl A1 Bc Bc H1 [] [] (ds.map some) (vs.map some) := by
          refine ⟨⟨[], f, by simp [Rps], (r1.step (L' := Bc) (fun a o h n => ⟨h, n⟩) (fun a ha => ⟨rfl, (r1.inA a ha).1⟩) (fun _ a hl => ⟨rfl, hl.elim (fun h => bB a (j1.lb a h)) (grB a)⟩)).rpo, by simpa using nd.1, by simp, fun _ a ha q => q.2 ha⟩, fun _ h => h, fun a h => h.1, j1.ad⟩
        refine ⟨A1, Bc, Bc, ds, jc, by rw [w.len, hn], ?_⟩
        have fin : ∀ (d : List D) (v : List V) A2 H2 ios δ2, Nx A1 Bc H1 A2 H2 → Jt false cl A2 Bc Bc H2 d v ios (vs.map some) → putB ks ios δr = some δ2 → Nx A B H A2 H2 ∧ Jt false cl A2 L B H2 d v δ2 σ := by
          intro d v A2 H2 ios δ2 n2 j2 ep
          obtain ⟨f2, gi, k1, k2, k3, k4, k5⟩ := j2.ex
          have k3' := List.nodup_append.mp k3
          have hgr := q2.step (A' := A2) (L' := L) (H' := H2) n2.both (fun a ha => n2.prot a (grB a ha)) (fun a hl => ⟨(n2.prot a (bB a (j1.lb a hl))).1, hl⟩)
          have ndg : (gi ++ gr).Nodup := List.nodup_append.mpr ⟨k3'.2.1, nd.2.1, fun a ha c hc e => by subst e; exact k5 rfl a ha (grB a hc)⟩
          obtain ⟨g2, m1, m2, m3⟩ := putB_ok w k2 hgr ndg ep
          refine ⟨n1.trans (n2.weak bB), ⟨⟨f2, g2, k1.step (L' := L) (fun a o h n => ⟨h, n⟩) (fun a ha => ⟨rfl, (k1.inA a ha).1⟩) (by simp), m1, List.nodup_append.mpr ⟨k3'.1, m2, fun a ha c hc e => ?_⟩, fun a ha q => k4 a ha (bB a q), fun _ a ha q => ?_⟩, j1.lb, fun a h => (n2.prot a (bB a h)).2, j2.ad⟩⟩
          · subst e
            rcases List.mem_append.mp (m3 a hc) with z | z
            · exact k3'.2.2 a ha a z rfl
            · exact k4 a ha (grB a z)
          · rcases List.mem_append.mp (m3 a ha) with z | z
            · exact k5 rfl a z (bB a q)
            · exact nB a (List.mem_append_right _ z) q
        cases e3 : F ds with
        | bad => rw [e3] at k; exact k.elim
        | exc c xs ios =>
          rw [e3] at k
          simp only at k
          intro dx us A2 H2 n2 x2 j2
          cases e4 : putB ks ios δr with
          | none => rw [e4] at k; exact k.elim
          | some δ2 =>
            rw [e4] at k
            obtain ⟨n3, j3⟩ := fin _ _ _ _ _ _ n2 j2 e4
            exact k dx us A2 H2 n3 x2 j3
        | ok d ios =>
          rw [e3] at k
          simp only at k
          intro v A2 H2 n2 j2
          cases e4 : putB ks ios δr with
          | none => rw [e4] at k; exact k.elim
          | some δ2 =>
            rw [e4] at k
            obtain ⟨n3, j3⟩ := fin _ _ _ _ _ _ n2 j2 e4
            exact k [v] A2 H2 n3 j3 v rfl
end
end Fs
/-! F9 -/
/-! Operations however their operands come; built-in functions; what is walked. -/
namespace Fs
open PySem PySem.Spec PyProof.Rows L2
section
variable {cl : Ec} {xf : Nat → List Str} {W : WX} {ws : Nat → Bool} {A A' L B : Addr → Prop} {H H' : Hp} {δ δ' : Sl} {σ σ' : L2.St} {p q b : Bool} {te ta tb tc : TE} {tA : TA} {tt tu : TT} {t u : TS} {ts : List D} {vs : List V}
def GOp (cl : Ec) (r : R2) (f : D → D → Option D) : Prop := ∀ p A L B H ts ws δ σ x y u w f1 f2 z Q, Jt p cl A L B H ts ws δ σ → Rp cl A L H true x u f1 → Rp cl A L H true y w f2 → f x y = some z → (∀ v A' H', Nx A B H A' H' → Jt p cl A' L B H' [z] [v] δ σ → Q v H') → r u w H Q
def GUn (cl : Ec) (r : V → Hp → VK → Prop) (f : D → Option D) : Prop := ∀ p A L B H ts ws δ σ x u f1 z Q, Jt p cl A L B H ts ws δ σ → Rp cl A L H true x u f1 → f x = some z → (∀ v A' H', Nx A B H A' H' → Jt p cl A' L B H' [z] [v] δ σ → Q v H') → r u H Q
theorem POp.g {r : R2} {f : D → D → Option D} (ho : POp cl r f) : GOp cl r (fun x y => (f x y).filter D.kept) := by
  intro p A L B H ts ws δ σ x y u w f1 f2 z Q j h1 h2 e k
  obtain ⟨e1, e2⟩ := Option.filter_eq_some_iff.mp e
  exact ho A L H x y u w f1 f2 z Q h1 h2 e1 fun v fp h7 _ => k v A H (Nx.refl j.ba) (j.kept e2 h7)
theorem POp.gs {r : R2} {f : D → D → Option D} (ho : POp cl r f) (hk : ∀ x y z, f x y = some z → z.kept = true) : GOp cl r f := by
  intro p A L B H ts ws δ σ x y u w f1 f2 z Q j h1 h2 e k
  exact ho A L H x y u w f1 f2 z Q h1 h2 e fun v fp h7 _ => k v A H (Nx.refl j.ba) (j.kept (hk x y z e) h7)
theorem PUn.g {r : V → Hp → VK → Prop} {f : D → Option D} (ho : PUn cl r f) (hk : ∀ x z, f x = some z → z.kept = true) : GUn cl r f := by
  intro p A L B H ts ws δ σ x u f1 z Q j h1 e k
  exact ho A L H x u f1 z Q h1 e fun v fp h7 _ => k v A H (Nx.refl j.ba) (j.kept (hk x z e) h7)
theorem GOp.r {r : R2} {f : D → D → Option D} (ho : GOp cl r f) : ROp cl r f := by
  intro p A L B H δ σ x y u w z Q j e k
  obtain ⟨u', w', f1, f2, e0, h1, h2⟩ := j.pair
  cases e0
  exact ho p A L B H _ _ δ σ x y u w f1 f2 z Q j h1.weak h2.weak e k
theorem GUn.r {r : V → Hp → VK → Prop} {f : D → Option D} (ho : GUn cl r f) : RUn cl r f := by
  intro p A L B H δ σ x u z Q j e k
  obtain ⟨u', f1, e0, h1⟩ := j.one
  cases e0
  exact ho p A L B H _ _ δ σ x u f1 z Q j h1.weak e k
def dPP (f : D → D → Option D) (a b : PP) : DE := fun δ => Out.ofO ((a δ).bind fun x => (b δ).bind fun y => f x y) δ
def dP1 (f : D → Option D) (a : PP) : DE := fun δ => Out.ofO ((a δ).bind f) δ
def dPD (f : D → D → Option D) (a : PP) (b : DE) : DE := fun δ => match a δ with
  | some x => (b δ).bind fun y δ2 => Out.ofO (f x y) δ2
  | none => .bad
def dDP (f : D → D → Option D) (a : DE) (b : PP) : DE := fun δ => (a δ).bind fun x δ1 => Out.ofO ((b δ1).bind fun y => f x y) δ1
/-- a name's thing, looked at behind the second operand -/
def dVD (f : D → D → Option D) (i : Nat) (b : DE) : DE := fun δ => if (δ[i]?).join.isSome then (b δ).bind fun y δ2 => Out.ofO (((δ2[i]?).join).bind fun x => f x y) δ2 else .bad
theorem se_dd {r : R2} {f : D → D → Option D} {a b : DE} (ho : GOp cl r f) (ha : SE cl xf W p ta a) (hb : SE cl xf W p tb b) : SE cl xf W p (tOp r ta tb) (d2 f a b) := se_rop ho.r ha hb
theorem se_1d {r : V → Hp → VK → Prop} {f : D → Option D} {a : DE} (ho : GUn cl r f) (ha : SE cl xf W p ta a) : SE cl xf W p (tUn r ta) (d1 f a) := se_run ho.r ha
theorem se_pp {r : R2} {f : D → D → Option D} {a b : PP} (ho : GOp cl r f) (ha : SP cl ta a) (hb : SP cl tb b) : SE cl xf W p (tOp r ta tb) (dPP f a b) := by
  refine ⟨fun _ δ => Out.same_ofO, fun A L B H δ σ Q j k => ?_⟩
  obtain ⟨z, e, k2⟩ := Post.ofO k
  obtain ⟨x, e1, e⟩ := Option.bind_eq_some_iff.mp e
  obtain ⟨y, e2, e⟩ := Option.bind_eq_some_iff.mp e
  obtain ⟨g, hg, _, _⟩ := j.drop0
  exact ha A L H δ σ g x _ hg e1 fun u f1 h1 _ => hb A L H δ σ g y _ hg e2 fun w f2 h2 _ => ho p A L B H _ _ δ σ x y u w f1 f2 z Q j h1 h2 e fun v A' H' n' j' => k2 [v] A' H' n' j' v rfl
theorem se_1p {r : V → Hp → VK → Prop} {f : D → Option D} {a : PP} (ho : GUn cl r f) (ha : SP cl ta a) : SE cl xf W p (tUn r ta) (dP1 f a) := by
  refine ⟨fun _ δ => Out.same_ofO, fun A L B H δ σ Q j k => ?_⟩
  obtain ⟨z, e, k2⟩ := Post.ofO k
  obtain ⟨x, e1, e⟩ := Option.bind_eq_some_iff.mp e
  obtain ⟨g, hg, _, _⟩ := j.drop0
  exact ha A L H δ σ g x _ hg e1 fun u f1 h1 _ => ho p A L B H _ _ δ σ x u f1 z Q j h1 e fun v A' H' n' j' => k2 [v] A' H' n' j' v rfl
theorem se_dp {r : R2} {f : D → D → Option D} {a : DE} {b : PP} (ho : GOp cl r f) (ha : SE cl xf W p ta a) (hb : SP cl tb b) : SE cl xf W p (tOp r ta tb) (dDP f a b) := by
  refine ⟨fun hp δ => Out.same_bind (ha.pure hp δ) fun x => Out.same_ofO, fun A L B H δ σ Q j k => ?_⟩
  refine ha.run A L B H δ σ _ j (Post.bind (γ := D) k fun x δ1 vs A1 H1 e1 n1 j1 k1 u ev => ?_)
  subst ev
  obtain ⟨z, e, k2⟩ := Post.ofO k1
  obtain ⟨y, e2, e⟩ := Option.bind_eq_some_iff.mp e
  obtain ⟨g, hg, _, _⟩ := j1.drop0
  obtain ⟨u', f1, e0, h1⟩ := j1.one
  cases e0
  exact hb A1 L H1 δ1 σ g y _ hg e2 fun w f2 h2 _ => ho p A1 L B H1 _ _ δ1 σ x y u w f1 f2 z Q j1 h1.weak h2 e fun v A' H' n' j' => k2 [v] A' H' (n1.trans n') j' v rfl
theorem se_pd {r : R2} {f : D → D → Option D} {a : PP} {b : DE} (ho : GOp cl r f) (ha : SP cl ta a) (hb : SE cl xf W true tb b) : SE cl xf W p (tOp r ta tb) (dPD f a b) := by
  refine SE.to ⟨fun _ δ => ?_, fun A L B H δ σ Q j k => ?_⟩
  · unfold dPD
    split
    · exact Out.same_bind (hb.pure rfl δ) fun x => Out.same_ofO
    · trivial
  · unfold dPD at k
    split at k
    · rename_i x e1
      obtain ⟨g0, hg0, _, _⟩ := j.drop0
      refine ha A L H δ σ g0 x _ hg0 e1 fun u f1 h1 _ => ?_
      have hs := hb.pure rfl δ
      refine hb.run A L A H δ σ _ j.toPure ?_
      cases e2 : b δ with
      | bad => rw [e2] at k; exact k
      | exc c xs s =>
        rw [e2] at k hs
        cases (show s = δ from hs)
        exact fun d vs A' H' n x j2 => k d vs A' H' (n.weak j.ba) x (j.ofPure n j2)
      | ok y s =>
        rw [e2] at k hs
        cases (show s = δ from hs)
        intro vs A' H' n j2 w ew
        subst ew
        obtain ⟨z, e, k2⟩ := Post.ofO k
        obtain ⟨w', f2, ew, h2⟩ := j2.one
        cases ew
        have h1' := h1.step (A' := A') (L' := L) (H' := H') n.both (fun a ha => n.prot a (h1.inA a ha).1) (fun _ a hl => ⟨(n.prot a (j.ba a (j.lb a hl))).1, hl⟩)
        exact ho true A' L B H' _ _ δ σ x y u w f1 f2 z Q (j.ofPure n j2) h1' h2.weak e fun v A2 H2 n2 j3 => k2 [v] A2 H2 ((n.weak j.ba).trans n2) j3 v rfl
    · exact k.elim
theorem se_vd {r : R2} {f : D → D → Option D} {i : Nat} {b : DE} (ho : GOp cl r f) (hb : SE cl xf W false tb b) : SE cl xf W false (tOp r (tVar i) tb) (dVD f i b) := by
  refine ⟨fun z => (by cases z), fun A L B H δ σ Q j k => ?_⟩
  unfold dVD at k
  by_cases hi : (δ[i]?).join.isSome = true
  · rw [if_pos hi] at k
    obtain ⟨v0, hv0⟩ := slot_some j hi
    refine ⟨v0, hv0, hb.run A L B H δ σ _ j (Post.bind (γ := D) k fun y δ1 vs A1 H1 e1 n1 j1 k1 w ev => ?_)⟩
    subst ev
    obtain ⟨z, e, k2⟩ := Post.ofO k1
    obtain ⟨x, e2, e⟩ := Option.bind_eq_some_iff.mp e
    obtain ⟨g, hg, _, _⟩ := j1.drop0
    obtain ⟨v2, f1, q1, q2, _⟩ := hg.get (join_some e2)
    rw [hv0] at q1
    cases q1
    obtain ⟨w', f2, e0, h2⟩ := j1.one
    cases e0
    exact ho false A1 L B H1 _ _ δ1 σ x y v0 w f1 f2 z Q j1 q2 h2.weak e fun v A' H' n' j' => k2 [v] A' H' (n1.trans n') j' v rfl
  · rw [if_neg hi] at k
    exact k.elim
/-! sums -/
theorem gop_add {K : PySem.W.Frag} : GOp cl (rAddA K) addD := by
  intro p A L B H ts ws δ σ x y u w f1 f2 z Q j h1 h2 e k
  unfold addD at e
  split at e
  · rename_i i j'
    cases e
    obtain ⟨rfl, rfl, _⟩ := h1.leafv
    obtain ⟨rfl, rfl, _⟩ := h2.leafv
    exact .inl (.inl ⟨i, j', rfl, rfl, k _ A H (Nx.refl j.ba) (j.leaf rfl)⟩)
  · rename_i s t
    split at e
    · rename_i hl
      cases e
      obtain ⟨rfl, rfl, _⟩ := h1.leafv
      obtain ⟨rfl, rfl, _⟩ := h2.leafv
      exact .inl (.inr ⟨s, t, rfl, rfl, sz_of hl, k _ A H (Nx.refl j.ba) (j.leaf rfl)⟩)
    · cases e
  · rename_i fl xs fl' ys
    split at e
    · rename_i hl
      cases e
      obtain ⟨a, o, vs, fp', rfl, ho, hs, hr, hf⟩ := h1.node
      obtain ⟨a', o', vs', fp'', rfl, ho', hs', hr', hf'⟩ := h2.node
      cases hs
      cases hs'
      refine .inr (.inl ⟨a, a', vs, vs', rfl, rfl, ho, ho', by rw [← hr.length, ← hr'.length]; exact sz_of hl.1, fun p0 hp => ?_⟩)
      have hk : (xs ++ ys).all D.kept = true := by rw [List.all_append, hl.2.1, hl.2.2]; rfl
      have j2 := j.keptL hk (hr.append hr')
      have h := j2.alloc (k := .lst) (o := .lst (vs ++ vs')) hp rfl
      exact k _ _ _ h.1 h.2
    · cases e
  · rename_i fl x0 xs fl' y0 ys
    split at e
    · rename_i hl
      cases e
      obtain ⟨a, o, vs, fp', rfl, ho, hs, hr, hf⟩ := h1.node
      obtain ⟨a', o', vs', fp'', rfl, ho', hs', hr', hf'⟩ := h2.node
      cases hs
      cases hs'
      have l1 := hr.length
      have l2 := hr'.length
      have hk : ((x0 :: xs) ++ (y0 :: ys)).all D.kept = true := by rw [List.all_append, hl.2.1, hl.2.2]; rfl
      refine .inr (.inr ⟨a, a', vs, vs', rfl, rfl, SqT.of ho, SqT.of ho', by intro z; rw [z] at l1; simp at l1, ?_, ?_⟩)
      · rw [← l1, ← l2]
        simp only [List.length_cons]
        exact Nat.le_trans (Nat.add_le_add_right (Nat.add_le_add_right (Nat.le_refl _) _) _) (by have := hl.1; have h16 := PySem.sizeLine_eq; omega)
      · refine ⟨fun z => by rw [z] at l2; simp at l2, fun _ p0 hp => ?_⟩
        have j2 := j.keptL hk (hr.append hr')
        have h := j2.allocS (k := .tup) (o := .tup (vs ++ vs')) hk hp rfl
        exact k _ _ _ h.1 h.2
    · cases e
  · cases e
/-! len -/
def rLenA (K : PySem.W.Frag) : V → Hp → VK → Prop := fun x H Q => (∃ x' n, [x] = [x'] ∧ LenV K x' H n ∧ Q (.int n) H) ∨ ∃ a kvs, [x] = [V.ref a] ∧ H a = some (.dK kvs) ∧ Q (.int kvs.length) H
def lenD : D → Option D
  | .v (.str s) => if s.length ≤ 100000 then some (.int s.length) else none
  | .n .lst _ xs => some (.int xs.length)
  | .s ns => some (.int ns.length)
  | .n .tup _ xs => some (.int xs.length)
  | .n (.dct ks) _ xs => some (.int xs.length)
  | _ => none
theorem lenD_kept : ∀ x z, lenD x = some z → z.kept = true := by
  intro x z e
  unfold lenD at e
  split at e
  · split at e
    · cases e; rfl
    · cases e
  all_goals (cases e; try rfl)
theorem pun_len : PUn cl (rLenA cl.K) lenD := by
  intro A L H x u f1 z Q h1 e k
  unfold lenD at e
  split at e
  · rename_i s
    split at e
    · rename_i hl
      cases e
      obtain ⟨rfl, rfl, _⟩ := h1.leafv
      exact .inl ⟨_, s.length, rfl, ⟨sz_of hl, rfl⟩, k _ [] (Rp.leaf rfl) (by simp)⟩
    · cases e
  · rename_i w xs
    cases e
    obtain ⟨a, o, vs, fp', rfl, ho, hs, hr, hf⟩ := h1.node
    cases hs
    exact .inl ⟨_, xs.length, rfl, .inl ⟨vs, SqL.of ho, hr.length⟩, k _ [] (Rp.leaf rfl) (by simp)⟩
  · rename_i ns
    cases e
    obtain ⟨a, rfl, hs, rfl, _⟩ := h1.scr
    exact .inl ⟨_, ns.length, rfl, .inl ⟨ns.map V.int, hs, by simp⟩, k _ [] (Rp.leaf rfl) (by simp)⟩
  · rename_i w xs
    cases e
    obtain ⟨a, o, vs, fp', rfl, ho, hs, hr, hf⟩ := h1.node
    cases hs
    exact .inl ⟨_, xs.length, rfl, .inr ⟨vs, SqT.of ho, hr.length⟩, k _ [] (Rp.leaf rfl) (by simp)⟩
  · rename_i ks w xs
    cases e
    obtain ⟨a, o, vs, fp', rfl, ho, ⟨hl, hs⟩, hr, hf⟩ := h1.node
    subst hs
    have e1 : (ks.zip vs).length = xs.length := by rw [List.length_zip, hl, Nat.min_self, hr.length]
    exact .inr ⟨a, _, rfl, ho, by rw [e1]; exact k _ [] (Rp.leaf rfl) (by simp)⟩
  · cases e
/-! isinstance of a built-in class -/
def tyD : D → Option String
  | .v .non => some "NoneType"
  | .v (.bl _) => some "bool"
  | .v (.int _) => some "int"
  | .v (.str _) => some "str"
  | .n .lst _ _ => some "list"
  | .n .tup _ _ => some "tuple"
  | .n (.dct _) _ _ => some "dict"
  | _ => none
theorem Rp.ty {K : PySem.W.Frag} {x : D} {v : V} {fp : List Addr} {s : String} (h : Rp cl A L H true x v fp) (e : tyD x = some s) : TyX K H v (.type s) := by
  unfold tyD at e
  split at e
  · obtain ⟨rfl, _, _⟩ := h.leafv; cases e; exact .base .non
  · obtain ⟨rfl, _, _⟩ := h.leafv; cases e; exact .base (.bl _)
  · obtain ⟨rfl, _, _⟩ := h.leafv; cases e; exact .base (.int _)
  · obtain ⟨rfl, _, _⟩ := h.leafv; cases e; exact .base (.str _)
  · obtain ⟨a, o, vs, fp', rfl, ho, hs, _⟩ := h.node; cases hs; cases e; exact .base (.lst ho)
  · obtain ⟨a, o, vs, fp', rfl, ho, hs, _⟩ := h.node; cases hs; cases e; exact .base (.tup ho)
  · obtain ⟨a, o, vs, fp', rfl, ho, ⟨_, hs⟩, _⟩ := h.node; subst hs; cases e; exact .base (.dK ho)
  · cases e
/-- isinstance's answer for the built-in classes met here -/
def isTy (s c : String) : Bool := s == c || (s == "bool" && c == "int")
def isiD (c : String) (x : D) : Option D := (tyD x).map fun s => .bl (isTy s c)
def tyNames : List String := ["NoneType", "bool", "int", "str", "list", "tuple", "dict"]
theorem tyD_mem {x : D} {s : String} (e : tyD x = some s) : s ∈ tyNames := by
  unfold tyD at e
  split at e <;> first | (cases e; decide) | cases e
theorem kitB_ok : ∀ c ∈ ["bool", "int", "str", "list", "tuple", "dict"], ∀ s ∈ tyNames, kitB s c = some (isTy s c) := by decide +kernel
theorem pun_isi {K : PySem.W.Frag} {c : String} (hc : c ∈ ["bool", "int", "str", "list", "tuple", "dict"]) : PUn cl (fun x H Q => rIsi K [x, .ty c] H Q) (isiD c) := by
  intro A L H x u f1 z Q h1 e k
  unfold isiD at e
  obtain ⟨s, e1, rfl⟩ := Option.map_eq_some_iff.mp e
  exact ⟨u, .ty c, .type s, .type c, isTy s c, rfl, .ty c, h1.ty e1, kit_ty (kitB_ok c hc s (tyD_mem e1)), k _ [] (Rp.leaf rfl) (by simp)⟩
theorem isiD_kept {c : String} : ∀ x z, isiD c x = some z → z.kept = true := by
  intro x z e
  unfold isiD at e
  obtain ⟨s, e1, rfl⟩ := Option.map_eq_some_iff.mp e
  rfl
/-! max, min of two ints; int of an int, a truth, a text -/
abbrev maxD := f2I fun i j => some (.int (if j > i then j else i))
abbrev minD := f2I fun i j => some (.int (if j < i then j else i))
theorem pop_2 {g : Int → Int → V} {r : R2} (hr : ∀ i j H Q, Q (g i j) H → r (.int i) (.int j) H Q) (hg : ∀ i j, sc (g i j) = true) : POp cl r (f2I fun i j => some (g i j)) := by
  intro A L H x y u w f1 f2 z Q h1 h2 e k
  unfold f2I at e
  split at e
  · rename_i i j
    cases e
    obtain ⟨rfl, rfl, _⟩ := h1.leafv
    obtain ⟨rfl, rfl, _⟩ := h2.leafv
    exact hr i j H Q (k _ [] (Rp.leaf (hg i j)) (by simp))
  · cases e
def rIntA : V → Hp → VK → Prop := fun x H Q => ((∃ i, [x] = [V.int i] ∧ Q (.int i) H) ∨ ∃ k, [x] = [V.bl k] ∧ Q (.int (if k then 1 else 0)) H) ∨ ∃ a n, [x] = [V.str a] ∧ PySem.intText? a = some n ∧ a.length ≤ 640 ∧ Q (.int n) H
def intD : D → Option D
  | .v (.int i) => some (.int i)
  | .v (.bl k) => some (.int (if k then 1 else 0))
  | .v (.str s) => if s.length ≤ 640 then (PySem.intText? s).map fun n => D.int n else none
  | _ => none
theorem pun_int : PUn cl rIntA intD := by
  intro A L H x u f1 z Q h1 e k
  unfold intD at e
  split at e
  · cases e; obtain ⟨rfl, rfl, _⟩ := h1.leafv; exact .inl (.inl ⟨_, rfl, k _ [] (Rp.leaf rfl) (by simp)⟩)
  · cases e; obtain ⟨rfl, rfl, _⟩ := h1.leafv; exact .inl (.inr ⟨_, rfl, k _ [] (Rp.leaf rfl) (by simp)⟩)
  · split at e
    · rename_i hl
      obtain ⟨n, e1, rfl⟩ := Option.map_eq_some_iff.mp e
      obtain ⟨rfl, rfl, _⟩ := h1.leafv
      exact .inr ⟨_, n, rfl, e1, hl, k _ [] (Rp.leaf rfl) (by simp)⟩
    · cases e
  · cases e
theorem intD_kept : ∀ x z, intD x = some z → z.kept = true := by
  intro x z e
  unfold intD at e
  split at e
  · cases e; rfl
  · cases e; rfl
  · split at e
    · obtain ⟨n, _, rfl⟩ := Option.map_eq_some_iff.mp e; rfl
    · cases e
  · cases e
/-! all of a list of truths -/
def allB : List D → Option Bool
  | [] => some true
  | .v (.bl b) :: ds => (allB ds).map fun c => b && c
  | _ => none
theorem allB_ok : ∀ {ds : List D} {vs : List V} {fp : List Addr} {c : Bool}, Rps cl A L H true ds vs fp → allB ds = some c → ∃ bs : List Bool, vs = bs.map V.bl ∧ c = bs.all id
  | [], vs, fp, c, h, e => by
    simp only [Rps] at h
    simp only [allB, Option.some.injEq] at e
    exact ⟨[], by simp [h.1], by simp [← e]⟩
  | .v (.bl x) :: ds, vs, fp, c, h, e => by
    simp only [Rps] at h
    obtain ⟨v, vs', f1, f2, rfl, rfl, h3, h4⟩ := h
    simp only [allB] at e
    obtain ⟨c', e1, rfl⟩ := Option.map_eq_some_iff.mp e
    obtain ⟨bs, rfl, rfl⟩ := allB_ok h4 e1
    obtain ⟨rfl, _, _⟩ := h3.leafv
    exact ⟨x :: bs, by simp, by simp⟩
  | .v .non :: ds, vs, fp, c, h, e => by simp [allB] at e
  | .v (.int _) :: ds, vs, fp, c, h, e => by simp [allB] at e
  | .v (.str _) :: ds, vs, fp, c, h, e => by simp [allB] at e
  | .v (.byt _) :: ds, vs, fp, c, h, e => by simp [allB] at e
  | .v (.flt _) :: ds, vs, fp, c, h, e => by simp [allB] at e
  | .v (.ref _) :: ds, vs, fp, c, h, e => by simp [allB] at e
  | .v (.ty _) :: ds, vs, fp, c, h, e => by simp [allB] at e
  | .s _ :: ds, vs, fp, c, h, e => by simp [allB] at e
  | .n _ _ _ :: ds, vs, fp, c, h, e => by simp [allB] at e
def allD : D → Option D | .n .lst _ xs => (allB xs).map fun c => .bl c | _ => none
theorem pun_all {K : PySem.W.Frag} : PUn cl (fun x H Q => rAll K [x] H Q) allD := by
  intro A L H x u f1 z Q h1 e k
  unfold allD at e
  split at e
  · obtain ⟨c, e1, rfl⟩ := Option.map_eq_some_iff.mp e
    obtain ⟨a, o, vs, fp', rfl, ho, hs, hr, hf⟩ := h1.node
    cases hs
    obtain ⟨bs, rfl, rfl⟩ := allB_ok hr e1
    exact ⟨a, bs, rfl, SqL.of ho, k _ [] (Rp.leaf rfl) (by simp)⟩
  · cases e
theorem allD_kept : ∀ x z, allD x = some z → z.kept = true := by
  intro x z e
  unfold allD at e
  split at e
  · obtain ⟨c, _, rfl⟩ := Option.map_eq_some_iff.mp e; rfl
  · cases e
/-! join of a list of texts -/
def txts : List D → Option (List Str)
  | [] => some []
  | .v (.str s) :: ds => (txts ds).map fun r => s :: r
  | _ => none
theorem txts_ok : ∀ {ds : List D} {vs : List V} {fp : List Addr} {ss : List Str}, Rps cl A L H true ds vs fp → txts ds = some ss → vs = ss.map V.str
  | [], vs, fp, ss, h, e => by
    simp only [Rps] at h
    simp only [txts, Option.some.injEq] at e
    simp [h.1, ← e]
  | .v (.str x) :: ds, vs, fp, c, h, e => by
    simp only [Rps] at h
    obtain ⟨v, vs', f1, f2, rfl, rfl, h3, h4⟩ := h
    simp only [txts] at e
    obtain ⟨c', e1, rfl⟩ := Option.map_eq_some_iff.mp e
    obtain ⟨rfl, _, _⟩ := h3.leafv
    rw [txts_ok h4 e1]
    rfl
  | .v .non :: ds, vs, fp, c, h, e => by simp [txts] at e
  | .v (.int _) :: ds, vs, fp, c, h, e => by simp [txts] at e
  | .v (.bl _) :: ds, vs, fp, c, h, e => by simp [txts] at e
  | .v (.byt _) :: ds, vs, fp, c, h, e => by simp [txts] at e
  | .v (.flt _) :: ds, vs, fp, c, h, e => by simp [txts] at e
  | .v (.ref _) :: ds, vs, fp, c, h, e => by simp [txts] at e
  | .v (.ty _) :: ds, vs, fp, c, h, e => by simp [txts] at e
  | .s _ :: ds, vs, fp, c, h, e => by simp [txts] at e
  | .n _ _ _ :: ds, vs, fp, c, h, e => by simp [txts] at e
def joinD (a : Str) : D → Option D
  | .n .lst _ xs => (txts xs).bind fun ss => if (ss.map (·.length)).sum + ss.length * a.length ≤ 100000 then some (.str (Txt.join a ss)) else none
  | _ => none
theorem pun_join {K : PySem.W.Frag} {a : Str} : PUn cl (fun y H Q => ∃ a' p, ∃ ys : List Str, V.str a = .str a' ∧ [y] = [V.ref p] ∧ (SqL K H p (ys.map V.str) ∨ SqT K H p (ys.map V.str)) ∧ (ys.map (·.length)).sum + ys.length * a'.length ≤ 16777216 ∧ Q (.str (Txt.join a' ys)) H) (joinD a) := by
  intro A L H x u f1 z Q h1 e k
  unfold joinD at e
  split at e
  · obtain ⟨ss, e1, e⟩ := Option.bind_eq_some_iff.mp e
    split at e
    · rename_i hl
      cases e
      obtain ⟨p, o, vs, fp', rfl, ho, hs, hr, hf⟩ := h1.node
      cases hs
      have := txts_ok hr e1
      subst this
      exact ⟨a, p, ss, rfl, rfl, .inl (SqL.of ho), Nat.le_trans hl (by decide), k _ [] (Rp.leaf rfl) (by simp)⟩
    · cases e
  · cases e
theorem joinD_kept {a : Str} : ∀ x z, joinD a x = some z → z.kept = true := by
  intro x z e
  unfold joinD at e
  split at e
  · obtain ⟨ss, _, e⟩ := Option.bind_eq_some_iff.mp e
    split at e
    · cases e; rfl
    · cases e
  · cases e
/-! a sign in a text -/
def inSD : D → D → Option D
  | .v (.str ⟨⟨[c]⟩⟩), .v (.str z) => some (.bl (decide (c ∈ z.cps.toList)))
  | _, _ => none
def notinSD : D → D → Option D
  | .v (.str ⟨⟨[c]⟩⟩), .v (.str z) => some (.bl (!decide (c ∈ z.cps.toList)))
  | _, _ => none
theorem pop_inS : POp cl (fun x y H Q => ∃ (c : Nat) (z : Str), x = .str ⟨#[c]⟩ ∧ y = .str z ∧ Q (.bl (decide (c ∈ z.cps.toList))) H) inSD := by
  intro A L H x y u w f1 f2 z Q h1 h2 e k
  unfold inSD at e
  split at e
  · cases e
    obtain ⟨rfl, rfl, _⟩ := h1.leafv
    obtain ⟨rfl, rfl, _⟩ := h2.leafv
    exact ⟨_, _, rfl, rfl, k _ [] (Rp.leaf rfl) (by simp)⟩
  · cases e
theorem pop_notinS : POp cl (fun x y H Q => ∃ (c : Nat) (z : Str), x = .str ⟨#[c]⟩ ∧ y = .str z ∧ Q (.bl (!decide (c ∈ z.cps.toList))) H) notinSD := by
  intro A L H x y u w f1 f2 z Q h1 h2 e k
  unfold notinSD at e
  split at e
  · cases e
    obtain ⟨rfl, rfl, _⟩ := h1.leafv
    obtain ⟨rfl, rfl, _⟩ := h2.leafv
    exact ⟨_, _, rfl, rfl, k _ [] (Rp.leaf rfl) (by simp)⟩
  · cases e
theorem inSD_kept : ∀ x y z, inSD x y = some z → z.kept = true := by
  intro x y z e; unfold inSD at e; split at e
  · cases e; rfl
  · cases e
theorem notinSD_kept : ∀ x y z, notinSD x y = some z → z.kept = true := by
  intro x y z e; unfold notinSD at e; split at e
  · cases e; rfl
  · cases e
theorem isND_kept : ∀ x z, isND x = some z → z.kept = true := by
  intro x z e; unfold isND at e; split at e <;> (cases e; rfl)
theorem notND_kept : ∀ x z, notND x = some z → z.kept = true := by
  intro x z e
  unfold notND isND at e
  split at e <;> (simp [notD] at e; subst e; rfl)
end
end Fs
/-! F10 -/
/-! What is walked; a piece of the program's text with what it makes of data. -/
namespace Fs
open PySem PySem.Spec PyProof.Rows L2
section
variable {cl : Ec} {xf : Nat → List Str} {W : WX} {ws : Nat → Bool} {A A' L B : Addr → Prop} {H H' : Hp} {δ δ' : Sl} {σ σ' : L2.St} {p q b : Bool} {te ta tb tc : TE} {tA : TA} {tt tu : TT} {t u : TS} {ts : List D} {vs : List V}
theorem it_list {K : PySem.W.Frag} {a : Addr} {us : List V} {ds : List D} {fp : List Addr} (lb : ∀ a, L a → B a) (hst : ∀ A1 H1, Nx A B H A1 H1 → SqL K H1 a us) (hr : Rps cl A L H b ds us fp) (hk : ds.all D.kept = true) : ItOk cl L B (Itl K a) ds A H := by
  intro A1 H1 n1
  have hs := hst A1 H1 n1
  have hl := hr.length
  refine ⟨fun i hi => ⟨us, us[i]'(by omega), hs, List.getElem?_eq_getElem (by omega)⟩, fun i hi => ⟨us, hs, by omega⟩, fun i x H2 d e hy p B1 δ σ hb j => ?_⟩
  obtain ⟨rfl, hy⟩ := hy
  obtain ⟨v, f1, g1, g2, _⟩ := (hr.keptS hk).get e
  rw [hy us hs] at g1
  cases g1
  have hkd : d.kept = true := List.all_eq_true.mp hk d (List.mem_of_getElem? e)
  have g3 := (g2.strong hkd)
  obtain ⟨g3, rfl⟩ := g3
  exact ⟨A1, Nx.refl j.ba, j.kept hkd (g3.step (L' := L) n1.both (by simp) (by simp))⟩
theorem it_tup {K : PySem.W.Frag} {a : Addr} {us : List V} {ds : List D} {fp : List Addr} (lb : ∀ a, L a → B a) (hst : ∀ A1 H1, Nx A B H A1 H1 → SqT K H1 a us) (hr : Rps cl A L H b ds us fp) (hk : ds.all D.kept = true) : ItOk cl L B (Itt K a) ds A H := by
  intro A1 H1 n1
  have hs := hst A1 H1 n1
  have hl := hr.length
  refine ⟨fun i hi => ⟨us, us[i]'(by omega), hs, List.getElem?_eq_getElem (by omega)⟩, fun i hi => ⟨us, hs, by omega⟩, fun i x H2 d e hy p B1 δ σ hb j => ?_⟩
  obtain ⟨rfl, hy⟩ := hy
  obtain ⟨v, f1, g1, g2, _⟩ := (hr.keptS hk).get e
  rw [hy us hs] at g1
  cases g1
  have hkd : d.kept = true := List.all_eq_true.mp hk d (List.mem_of_getElem? e)
  have g3 := (g2.strong hkd)
  obtain ⟨g3, rfl⟩ := g3
  exact ⟨A1, Nx.refl j.ba, j.kept hkd (g3.step (L' := L) n1.both (by simp) (by simp))⟩
theorem Rps.ints : ∀ {ns : List Int}, Rps cl A L H b (ns.map D.int) (ns.map V.int) []
  | [] => by simp [Rps]
  | n :: ns => by simp only [List.map_cons, Rps]; exact ⟨_, _, [], [], rfl, rfl, Rp.leaf rfl, Rps.ints⟩
theorem it_scr {a : Addr} {ns : List Int} (h : (∃ ob, H a = some (.frz ob (.lst (ns.map V.int))) ∧ ¬ A a) ∨ cl.Wr a (ns.map V.int)) (lb : ∀ a, L a → B a := by assumption) : ItOk cl L B (Itl cl.K a) (ns.map D.int) A H := by
  refine it_list lb (fun A1 H1 n => ?_) (Rps.ints (b := true)) (by simp [List.all_eq_true, D.kept])
  rcases h with ⟨ob, h1, h2⟩ | h
  · exact .inl (.inr ⟨ob, n.keep a _ h1 h2⟩)
  · exact .inr h
/-- what a peek finds, to be walked: kept items; own things only where nothing changes -/
def itL (p : Bool) : D → Option (List D)
  | .n .lst w xs => if xs.all D.kept = true ∧ (p = true ∨ w ≠ .own) then some xs else none
  | .s ns => some (ns.map D.int)
  | _ => none
def itT (p : Bool) : D → Option (List D)
  | .n .tup w xs => if xs.all D.kept = true ∧ (p = true ∨ w ≠ .own) then some xs else none
  | _ => none
def diP (f : D → Option (List D)) (a : PP) : DA := fun δ => Out.ofO ((a δ).bind f) δ
/-- a node that stands as long as B does -/
theorem Rp.stands {k : Kd} {w : Fl} {ds : List D} {v : V} {fp : List Addr} (lb : ∀ a, L a → B a) (hw : w = .own → ∀ a ∈ fp, B a) (h : Rp cl A L H true (.n k w ds) v fp) : ∃ a o us fp', v = .ref a ∧ Shape cl k us o ∧ (∀ A1 H1, Nx A B H A1 H1 → H1 a = some o) ∧ Rps cl A L H true ds us fp' := by
  cases w with
  | shr =>
    simp only [Rp] at h
    obtain ⟨a, o, vs, h1, h2, h3, h4, h5, h6⟩ := h
    exact ⟨a, o, vs, [], h1, h3, fun A1 H1 n => n.keep a o h2 h4, h6.weak⟩
  | own =>
    simp only [Rp] at h
    obtain ⟨a, o, vs, h1, h2, h3, h4, fp', h5, h6⟩ := h
    exact ⟨a, o, vs, fp', h1, h3, fun A1 H1 n => (n.prot a (hw rfl a (by rw [h5]; exact List.mem_cons_self))).1.trans h2, h6.weak⟩
  | bor =>
    simp only [Rp] at h
    obtain ⟨a, o, vs, h1, h2, h3, h4, h5, h6, h7⟩ := h
    exact ⟨a, o, vs, [], h1, h3, fun A1 H1 n => (n.prot a (lb a h5)).1.trans h2, h7⟩
theorem si_listP {a : PP} (ha : SP cl ta a) : SI cl xf W p (iList cl.K ta) (diP (itL p) a) := by
  refine ⟨fun _ δ => Out.same_ofO, fun A L B H δ σ R j k => ?_⟩
  unfold diP at k
  cases e : (a δ).bind (itL p) with
  | none => rw [e] at k; exact k.elim
  | some its =>
    rw [e] at k
    obtain ⟨d, e1, e2⟩ := Option.bind_eq_some_iff.mp e
    obtain ⟨g, hg, _, _⟩ := j.drop0
    refine ha A L H δ σ g d _ hg e1 fun v fp h1 n1 => ?_
    have key : ∃ B', (∀ a, B a → B' a) ∧ Jt p cl A L B' H [] [] δ σ ∧ ∀ w : Fl, (p = true ∨ w ≠ .own) → w = .own → ∀ a ∈ fp, B' a := by
      cases p with
      | true => exact ⟨A, j.ba, j.toPure, fun w _ _ a ha => (h1.inA a ha).1⟩
      | false => exact ⟨B, fun _ h => h, j, fun w hw e => absurd e (hw.resolve_left (by simp))⟩
    obtain ⟨B', hb, j', hw⟩ := key
    unfold itL at e2
    split at e2
    · split at e2
      · rename_i w xs hk
        cases e2
        obtain ⟨a0, o, us, fp', rfl, hs, hst, hr⟩ := h1.stands (B := B') j'.lb (hw w hk.2)
        cases hs
        exact ⟨a0, rfl, ⟨us, SqL.of (hst A H (Nx.refl j'.ba))⟩, k _ A H B' (Nx.refl j.ba) hb j' (it_list j'.lb (fun A1 H1 n => SqL.of (hst A1 H1 n)) hr hk.1)⟩
      · cases e2
    · cases e2
      obtain ⟨a0, rfl, hs, rfl, hor⟩ := h1.scr
      exact ⟨a0, rfl, ⟨_, hs⟩, k _ A H B' (Nx.refl j.ba) hb j' (it_scr hor j'.lb)⟩
    · cases e2
theorem si_tupP {K : PySem.W.Frag} {a : PP} (ha : SP cl ta a) : SI cl xf W p (iTup K ta) (diP (itT p) a) := by
  refine ⟨fun _ δ => Out.same_ofO, fun A L B H δ σ R j k => ?_⟩
  unfold diP at k
  cases e : (a δ).bind (itT p) with
  | none => rw [e] at k; exact k.elim
  | some its =>
    rw [e] at k
    obtain ⟨d, e1, e2⟩ := Option.bind_eq_some_iff.mp e
    obtain ⟨g, hg, _, _⟩ := j.drop0
    refine ha A L H δ σ g d _ hg e1 fun v fp h1 n1 => ?_
    have key : ∃ B', (∀ a, B a → B' a) ∧ Jt p cl A L B' H [] [] δ σ ∧ ∀ w : Fl, (p = true ∨ w ≠ .own) → w = .own → ∀ a ∈ fp, B' a := by
      cases p with
      | true => exact ⟨A, j.ba, j.toPure, fun w _ _ a ha => (h1.inA a ha).1⟩
      | false => exact ⟨B, fun _ h => h, j, fun w hw e => absurd e (hw.resolve_left (by simp))⟩
    obtain ⟨B', hb, j', hw⟩ := key
    unfold itT at e2
    split at e2
    · split at e2
      · rename_i w xs hk
        cases e2
        obtain ⟨a0, o, us, fp', rfl, hs, hst, hr⟩ := h1.stands (B := B') j'.lb (hw w hk.2)
        cases hs
        exact ⟨a0, rfl, ⟨us, SqT.of (hst A H (Nx.refl j'.ba))⟩, k _ A H B' (Nx.refl j.ba) hb j' (it_tup j'.lb (fun A1 H1 n => SqT.of (hst A1 H1 n)) hr hk.1)⟩
      · cases e2
    · cases e2
/-- a text, sign by sign -/
def itS : D → Option (List D)
  | .v (.str s) => some (s.cps.toList.map fun c => D.str ⟨#[c]⟩)
  | _ => none
theorem si_strP {a : PP} (ha : SP cl ta a) : SI cl xf W p (iStr ta) (diP itS a) := by
  refine ⟨fun _ δ => Out.same_ofO, fun A L B H δ σ R j k => ?_⟩
  unfold diP at k
  cases e : (a δ).bind itS with
  | none => rw [e] at k; exact k.elim
  | some its =>
    rw [e] at k
    obtain ⟨d, e1, e2⟩ := Option.bind_eq_some_iff.mp e
    obtain ⟨g, hg, _, _⟩ := j.drop0
    refine ha A L H δ σ g d _ hg e1 fun v fp h1 n1 => ?_
    unfold itS at e2
    split at e2
    · rename_i s
      cases e2
      obtain ⟨rfl, rfl, _⟩ := h1.leafv
      refine ⟨s, rfl, k _ A H B (Nx.refl j.ba) (fun _ h => h) j ?_⟩
      intro A1 H1 n1
      refine ⟨fun i hi => by simpa [Its] using hi, fun i hi => by simpa [Its] using hi, fun i x H2 d e hy p B1 δ σ hb j => ?_⟩
      obtain ⟨rfl, c, hc, rfl⟩ := hy
      have ed : d = D.str ⟨#[c]⟩ := by
        rw [List.getElem?_map] at e
        have : s.cps.toList[i]? = some c := by rw [Array.getElem?_toList]; exact hc
        rw [this] at e
        simpa using e.symm
      subst ed
      exact ⟨A1, Nx.refl j.ba, j.leaf rfl⟩
    · cases e2
/-- range(n) -/
def itR : D → Option (List D)
  | .v (.int n) => if n.natAbs < 2 ^ 62 then some ((List.range n.toNat).map fun (k : Nat) => D.int (k : Int)) else none
  | _ => none
def diD (f : D → Option (List D)) (a : DE) : DA := fun δ => (a δ).bind fun d δ1 => Out.ofO (f d) δ1
theorem it_range {lo : Int} {n : Nat} : ItOk cl L B (Itr lo n) ((List.range n).map fun (k : Nat) => D.int (lo + (k : Int))) A H := by
  intro A1 H1 n1
  refine ⟨fun i hi => by simpa [Itr] using hi, fun i hi => by simpa [Itr] using hi, fun i x H2 d e hy p B1 δ σ hb j => ?_⟩
  obtain ⟨rfl, rfl⟩ := hy
  have ed : d = D.int (lo + (i : Int)) := by
    rw [List.getElem?_map] at e
    obtain ⟨k, hk, rfl⟩ := Option.map_eq_some_iff.mp e
    obtain ⟨_, hk⟩ := List.getElem?_eq_some_iff.mp hk
    rw [List.getElem_range] at hk
    rw [hk]
  subst ed
  exact ⟨A1, Nx.refl j.ba, j.leaf rfl⟩
theorem si_range1 {a : DE} (ha : SE cl xf W p ta a) : SI cl xf W p (iRng1 (tCons ta tNil)) (diD itR a) := by
  refine ⟨fun hp δ => Out.same_bind (ha.pure hp δ) fun x => Out.same_ofO, fun A L B H δ σ R j k => ?_⟩
  unfold diD at k
  refine ha.run A L B H δ σ _ j ?_
  cases e : a δ with
  | bad => rw [e] at k; exact k
  | exc c xs s => rw [e] at k; exact k
  | ok d s =>
    rw [e] at k
    simp only [Out.bind] at k
    intro us A1 H1 n1 j1 v ev
    subst ev
    cases e2 : itR d with
    | none => rw [e2] at k; exact k.elim
    | some its =>
      rw [e2] at k
      unfold itR at e2
      split at e2
      · rename_i n
        split at e2
        · rename_i hn
          cases e2
          obtain ⟨v', f1, e0, h1⟩ := j1.one
          cases e0
          obtain ⟨rfl, _, _⟩ := h1.leafv
          refine ⟨n, rfl, by omega, by omega, k _ A1 H1 B n1 (fun _ h => h) j1.drop ?_⟩
          have h := it_range (cl := cl) (L := L) (B := B) (A := A1) (H := H1) (lo := 0) (n := n.toNat)
          simpa using h
        · cases e2
      · cases e2
/-- a value that is walked -/
theorem si_listD {a : DE} (ha : SE cl xf W p ta a) : SI cl xf W p (iList cl.K ta) (diD (itL true) a) := by
  refine ⟨fun hp δ => Out.same_bind (ha.pure hp δ) fun x => Out.same_ofO, fun A L B H δ σ R j k => ?_⟩
  unfold diD at k
  refine ha.run A L B H δ σ _ j ?_
  cases e : a δ with
  | bad => rw [e] at k; exact k
  | exc c xs s => rw [e] at k; exact k
  | ok d s =>
    rw [e] at k
    simp only [Out.bind] at k
    intro us A1 H1 n1 j1 v ev
    subst ev
    cases e2 : itL true d with
    | none => rw [e2] at k; exact k.elim
    | some its =>
      rw [e2] at k
      have key : ∃ B' fp, (∀ a, B a → B' a) ∧ Jt p cl A1 L B' H1 [] [] s σ ∧ Rp cl A1 L H1 true d v fp ∧ ∀ a ∈ fp, B' a := by
        obtain ⟨v', f1, e0, h1⟩ := j1.one
        cases e0
        cases p with
        | true => exact ⟨A1, f1, j1.ba, j1.drop.toPure, h1.weak, fun a ha => (h1.inA a ha).1⟩
        | false =>
          obtain ⟨f, q1, q2, q3, q4⟩ := j1.hide
          simp only [Rps] at q1
          obtain ⟨v0, vs0, f2, f3, e1, rfl, q1, rfl, rfl⟩ := q1
          cases e1
          exact ⟨_, f2, fun a h => .inl h, q4, q1.weak, fun a ha => .inr (by simpa using ha)⟩
      obtain ⟨B', fp, hb, j', h1, hfp⟩ := key
      unfold itL at e2
      split at e2
      · split at e2
        · rename_i w xs hk
          cases e2
          obtain ⟨a0, o, us, fp', rfl, hs, hst, hr⟩ := h1.stands (B := B') j'.lb (fun _ => hfp)
          cases hs
          exact ⟨a0, rfl, ⟨us, SqL.of (hst A1 H1 (Nx.refl j'.ba))⟩, k _ A1 H1 B' n1 hb j' (it_list j'.lb (fun A1 H1 n => SqL.of (hst A1 H1 n)) hr hk.1)⟩
        · cases e2
      · cases e2
        obtain ⟨a0, rfl, hs, rfl, hor⟩ := h1.scr
        exact ⟨a0, rfl, ⟨_, hs⟩, k _ A1 H1 B' n1 hb j' (it_scr hor j'.lb)⟩
      · cases e2
/-- append to a name's list -/
def dApp (i : Nat) (a : DE) : DE := fun δ => match (δ[i]?).join with
  | some (.n .lst _ _) => (a δ).bind fun y δ1 => (match (δ1[i]?).join with
    | some (.n .lst .own xs) => if xs.length < 100000 then .ok .non (δ1.set i (some (.n .lst .own (xs ++ [frz y])))) else .bad
    | _ => .bad)
  | _ => .bad
theorem Jt.take {i : Nat} {d : D} (j : Jt false cl A L B H ts vs δ σ) (e : (δ[i]?).join = some d) (hf : d.free = true) : ∃ v, σ[i]? = some (some v) ∧ Jt false cl A L B H (d :: ts) (v :: vs) (δ.set i none) σ := by
  obtain ⟨f, g, h1, h2, h3, h4, h5⟩ := j.ex
  have nd := List.nodup_append.mp h3
  obtain ⟨v, f1, f2, k1, k2, k3, k4, k5⟩ := h2.take (join_some e) nd.2.1
  have k4' := List.nodup_append.mp k4
  refine ⟨v, k1, ⟨⟨f1 ++ f, f2, by simp only [Rps]; exact ⟨v, vs, f1, f, rfl, rfl, k2.free hf, h1⟩, k3, ?_, fun a ha => ?_, fun _ a ha => h5 rfl a ((k5 a).mp (List.mem_append_right _ ha))⟩, j.lb, j.ba, j.ad⟩⟩
  · rw [List.append_assoc]
    refine nodup_mid (List.nodup_append.mpr ⟨nd.1, k4, fun a ha c hc => nd.2.2 a ha c ((k5 c).mp hc)⟩)
  · rcases List.mem_append.mp ha with ha | ha
    · exact h5 rfl a ((k5 a).mp (List.mem_append_left _ ha))
    · exact h4 a ha
theorem se_app {K : PySem.W.Frag} {i : Nat} {a : DE} (ha : SE cl xf W false ta a) : SE cl xf W false (tBM K "list" rAppend (tVar i) (tCons ta tNil)) (dApp i a) := by
  refine ⟨fun z => (by cases z), fun A L B H δ σ Q j k => ?_⟩
  unfold dApp at k
  split at k
  · rename_i w0 xs0 e0
    obtain ⟨g, hg, _, _⟩ := j.drop0
    obtain ⟨v0, f0, q1, q2, _⟩ := hg.get (join_some e0)
    obtain ⟨a0, o0, us0, fp0, rfl, ho0, hs0, _⟩ := q2.node
    cases hs0
    refine ⟨_, q1, .inl ⟨rfl, _, SqL.of ho0⟩, ha.run A L B H δ σ _ j (Post.bind (γ := D) k fun y δ1 vs A1 H1 e1 n1 j1 k1 w ev => ?_)⟩
    subst ev
    split at k1
    · rename_i xs e2
      split at k1
      · rename_i hl
        obtain ⟨v, hv, j2⟩ := j1.take e2 rfl
        rw [q1] at hv
        cases hv
        obtain ⟨D0, us, A2, ev, hD, hlen, n2, j3⟩ := j2.push
        cases ev
        have j4 := j3.put (i := i)
        rw [set_set_eq q1, List.set_set] at j4
        exact ⟨a0, us, w, rfl, rfl, hD, by rw [hlen]; exact sz_lt hl, k1 _ A2 _ (n1.trans n2) (j4.leaf rfl) _ rfl⟩
      · exact k1.elim
    · exact k1.elim
  · exact k.elim
/-- x[k] = e, x a name's list -/
def dsSetL (i : Nat) (ix : DE) (e : DE) : DS := fun δ => (e δ).bind fun y δ1 => if (δ1[i]?).join.isSome then (ix δ1).bind fun k δ2 => (match (δ2[i]?).join, k with
  | some (.n .lst .own xs), .v (.int n) => (match ixN xs.length n with | some m => .ok .nx (δ2.set i (some (.n .lst .own (xs.set m (frz y))))) | none => .bad)
  | _, _ => .bad) else .bad
theorem Rps.set : ∀ {ds : List D} {us : List V} {f : List Addr} {m : Nat} {d : D} {v : V}, Rps cl A L H false ds us f → Rp cl A L H false d v [] → f.Nodup → ∃ f', Rps cl A L H false (ds.set m d) (us.set m v) f' ∧ f'.Nodup ∧ ∀ a ∈ f', a ∈ f
  | [], us, f, m, d, v, h, hd, nd => by simp only [Rps] at h; rw [h.1, h.2]; exact ⟨[], by simp [Rps], List.nodup_nil, by simp⟩
  | d0 :: ds, us, f, m, d, v, h, hd, nd => by
    simp only [Rps] at h
    obtain ⟨v0, us', f1, f2, rfl, rfl, h3, h4⟩ := h
    have nd' := List.nodup_append.mp nd
    cases m with
    | zero => exact ⟨f2, by simp only [List.set_cons_zero, Rps]; exact ⟨v, us', [], f2, rfl, rfl, hd, h4⟩, nd'.2.1, fun a ha => List.mem_append_right _ ha⟩
    | succ m =>
      obtain ⟨f', k1, k2, k3⟩ := Rps.set (m := m) h4 hd nd'.2.1
      refine ⟨f1 ++ f', by simp only [List.set_cons_succ, Rps]; exact ⟨v0, _, f1, f', rfl, rfl, h3, k1⟩, List.nodup_append.mpr ⟨nd'.1, k2, fun a ha c hc => nd'.2.2 a ha c (k3 c hc)⟩, fun a ha => ?_⟩
      rcases List.mem_append.mp ha with ha | ha
      · exact List.mem_append_left _ ha
      · exact List.mem_append_right _ (k3 a ha)
theorem PostS.seq {α : Type} {ts : List D} {ws' : List V} {o : Out α} {f : α → Sl → Out Flow} {E : Ends} {den0 : α → List D} {Q0 : α → List V → Hp → Prop} {B' : Addr → Prop} (h : PostS cl xf W ws (o.bind f) A L B H σ E) (lb : ∀ a, L a → B a) (hb : ∀ a, B a → B' a)
    (hj : ∀ A2 H2 us xs δ2, (false = true → δ2 = δ) → Nx A B' H A2 H2 → Jt false cl A2 L B' H2 us xs δ2 σ → Jt false cl A2 L B H2 (ts ++ us) (ws' ++ xs) δ2 σ)
    (k : ∀ a δ1 vs A' H', o = .ok a δ1 → Nx A B H A' H' → Jt false cl A' L B H' (ts ++ den0 a) (ws' ++ vs) δ1 σ → PostS cl xf W ws (f a δ1) A L B H σ E → Q0 a vs H') : Post cl xf W false o den0 A L B' H σ Q0 := by
  cases o with
  | ok a s => exact fun vs A' H' n j => k a s vs A' H' rfl (n.weak hb) (hj A' H' _ _ _ (by simp) n j) h
  | exc c xs s => exact fun d vs A' H' n x j => h d vs A' H' σ (n.weak hb) (Kp.refl σ) x (j.lower hb lb)
  | bad => exact h
theorem ss_setL {i : Nat} {ix e : DE} (he : SE cl xf W false te e) (hi : SE cl xf W false ta ix) : SS cl xf W ws (tAsg te (gSub (tVar i) ta rSetL)) (dsSetL i ix e) := fun A L B H δ σ E j k => by
  refine he.run A L B H δ σ _ j (PostS.bind k fun y δ1 vs A1 H1 e1 n1 j1 k1 v ev => ?_)
  subst ev
  by_cases hsl : (δ1[i]?).join.isSome = true
  case neg => rw [if_neg hsl] at k1; exact k1.elim
  rw [if_pos hsl] at k1
  obtain ⟨v0, hv0⟩ := slot_some j1 hsl
  obtain ⟨B', j2, hb, hj⟩ := j1.seq
  refine ⟨v0, hv0, hi.run A1 L B' H1 δ1 σ _ j2 (PostS.seq (ts := [y]) (ws' := [v]) (PostS.step k1 n1 (Kp.refl σ)) j1.lb hb hj fun kk δ2 ks A2 H2 e2 n2 j3 k2 kv ek => ?_)⟩
  subst ek
  split at k2
  · rename_i xs n es
    split at k2
    · rename_i m em
      obtain ⟨v1, hv1, j4⟩ := j3.take es rfl
      rw [hv0] at hv1
      cases hv1
      have hk := j4.tailK
      obtain ⟨A3, n3, j5⟩ := j4.freezeTail
      obtain ⟨a, o, us, f, rfl, ho, hs, hr, ht, nf, hm⟩ := j5.look hk
      cases hs
      simp only [frzs, List.cons_append, List.nil_append, Rps] at ht
      obtain ⟨w1, ws1, g1, g2, e3, e4, h5, w2, ws2, g3, g4, e5, e6, h6, e7, e8⟩ := ht
      cases e3
      cases e5
      have e4' := List.append_eq_nil_iff.mp e4.symm
      have e6' := List.append_eq_nil_iff.mp (e4'.2.symm.trans e6).symm
      obtain ⟨rfl, _⟩ := e4'
      obtain ⟨rfl, _⟩ := e6'
      simp only [frz] at h6
      obtain ⟨rfl, _, _⟩ := h6.leafv
      obtain ⟨f', r1, r2, r3⟩ := hr.set (m := m) h5 nf
      have h := hm .lst (us.set m v) (.lst (us.set m v)) (xs.set m (frz y)) f' rfl r1 r2 r3
      have j6 := h.2.put (i := i)
      rw [set_set_eq hv0, List.set_set] at j6
      exact ⟨a, us, n, m, rfl, rfl, ho, by rw [← hr.length]; exact em, k2 A3 _ σ (n2.trans (n3.trans h.1)) (Kp.refl σ) j6⟩
    · exact k2.elim
  · exact k2.elim
end
end Fs
/-! F11 -/
/-! A piece of the program's text with what it makes of data. -/
namespace Fs
open PySem PySem.Spec PyProof.Rows L2
section
variable (cl : Ec) (xf : Nat → List Str) (X : Cx) (W : WX) (ws : Nat → Bool)
def Rd (p : Bool) (e : Expr) (de : DE) : Prop := ∃ te, PE X e te ∧ SE cl xf W p te de
def Rk (e : Expr) (pp : PP) : Prop := ∃ te, PE X e te ∧ SP cl te pp
def Rt (p : Bool) (e : Expr) (dt : DT) : Prop := ∃ tt, L2.PT X e tt ∧ SB cl xf W p tt dt
def Rw (p : Bool) (e : Expr) (dt : DT) : Prop := ∃ tt, PW X e tt ∧ SB cl xf W p tt dt
def Ra (p : Bool) (es : List Expr) (da : DA) : Prop := ∃ ta, L2.PA X es ta ∧ SA cl xf W p ta da
def Rc (es : List Expr) (da : DA) : Prop := ∃ ta, L2.PA X es ta ∧ SC cl xf W ta da
def Rq (es : List Expr) (ks : List AK) : Prop := ∃ ta, L2.PA X es ta ∧ SQ cl xf W ta ks
def Ri (p : Bool) (tg e : Expr) (di : DA) : Prop := ∃ wi, PI X tg e wi ∧ SI cl xf W p wi di
def Rg (tg : Expr) (t : D → Sl → Option Sl) : Prop := ∃ g, PG X tg g ∧ SG cl ws g t
def Rgs (tg : List Expr) (t : List (D → Sl → Option Sl)) : Prop := ∃ g, PGs X tg g ∧ SGs cl ws g t
def Rs (st : Stmt) (ds : DS) : Prop := ∃ t, PS X st t ∧ SS cl xf W ws t ds
def Rb (sts : List Stmt) (ds : DS) : Prop := ∃ t, PSs X sts t ∧ SS cl xf W ws t ds
/-- an operation on two expressions, on one, as the text says it -/
def B2 (e a b : Expr) (r : R2) : Prop := ∀ ta tb, PE X a ta → PE X b tb → PE X e (tOp r ta tb)
def B1 (e a : Expr) (r : V → Hp → VK → Prop) : Prop := ∀ ta, PE X a ta → PE X e (tUn r ta)
end
section
variable {cl : Ec} {xf : Nat → List Str} {X : Cx} {W : WX} {ws : Nat → Bool} {p : Bool} {e a b c : Expr} {es : List Expr} {da db dc : DE} {pa pb : PP} {r : R2} {r1 : V → Hp → VK → Prop} {f : D → D → Option D} {f1 : D → Option D} {pos pos' : Pos}
/-! peeks -/
theorem k_var (i : Nat) {x : Str} (hN : X.N[i]? = some x := by rfl) (hv : Vis X.env.scope x := by first | exact Or.inl rfl | exact Or.inr (Or.inl rfl) | exact Or.inr (Or.inr rfl)) (hd : (x == ("__debug__" : Str)) = false := by decide) (hcd : (x == ("__classdict__" : Str)) = false := by decide) : Rk cl X (.Name x pos) (pVar i) := ⟨_, pe_var hN hv hd hcd, sp_var⟩
theorem k_int {i : Int} {j : Nat} : Rk cl X (.Constant (.int i) j pos) (pC (.int i)) := ⟨_, pe_int, sp_c rfl⟩
theorem k_bl {i : Bool} {j : Nat} : Rk cl X (.Constant (.bool i) j pos) (pC (.bl i)) := ⟨_, pe_bl, sp_c rfl⟩
theorem k_non {j : Nat} : Rk cl X (.Constant .none j pos) (pC .non) := ⟨_, pe_non, sp_c rfl⟩
theorem k_str {s : Str} {j : Nat} : Rk cl X (.Constant (.str s) j pos) (pC (.str s)) := ⟨_, pe_str, sp_c rfl⟩
theorem k_glob {x : Str} {v : V} {u : Value} (hm : X.mg x = some u) (rv : RelV v u) (hs : sc v = true := by rfl) (hg : Gl X x := by rfl) (hd : (x == ("__debug__" : Str)) = false := by decide) : Rk cl X (.Name x pos) (pC v) := ⟨_, pe_glob hg hm rv hd, sp_c hs⟩
theorem k_op (o : B2 X e a b r) (h : POp cl r f) (ha : Rk cl X a pa) (hb : Rk cl X b pb) : Rk cl X e (pOp f pa pb) := by
  obtain ⟨ta, h1, h2⟩ := ha
  obtain ⟨tb, h3, h4⟩ := hb
  exact ⟨_, o _ _ h1 h3, sp_op h h2 h4⟩
theorem k_un (o : B1 X e a r1) (h : PUn cl r1 f1) (ha : Rk cl X a pa) : Rk cl X e (pUn f1 pa) := by
  obtain ⟨ta, h1, h2⟩ := ha
  exact ⟨_, o _ h1, sp_un h h2⟩
/-! values -/
theorem d_p (ha : Rk cl X a pa) : Rd cl xf X W p a (dP pa) := by obtain ⟨ta, h1, h2⟩ := ha; exact ⟨_, h1, se_p h2⟩
theorem Rd.to (ha : Rd cl xf X W true a da) : Rd cl xf X W p a da := by obtain ⟨ta, h1, h2⟩ := ha; exact ⟨_, h1, h2.to⟩
theorem d_dd (o : B2 X e a b r) (h : GOp cl r f) (ha : Rd cl xf X W p a da) (hb : Rd cl xf X W p b db) : Rd cl xf X W p e (d2 f da db) := by
  obtain ⟨ta, h1, h2⟩ := ha
  obtain ⟨tb, h3, h4⟩ := hb
  exact ⟨_, o _ _ h1 h3, se_dd h h2 h4⟩
theorem d_pp (o : B2 X e a b r) (h : GOp cl r f) (ha : Rk cl X a pa) (hb : Rk cl X b pb) : Rd cl xf X W p e (dPP f pa pb) := by
  obtain ⟨ta, h1, h2⟩ := ha
  obtain ⟨tb, h3, h4⟩ := hb
  exact ⟨_, o _ _ h1 h3, se_pp h h2 h4⟩
theorem d_pd (o : B2 X e a b r) (h : GOp cl r f) (ha : Rk cl X a pa) (hb : Rd cl xf X W true b db) : Rd cl xf X W p e (dPD f pa db) := by
  obtain ⟨ta, h1, h2⟩ := ha
  obtain ⟨tb, h3, h4⟩ := hb
  exact ⟨_, o _ _ h1 h3, se_pd h h2 h4⟩
theorem d_dp (o : B2 X e a b r) (h : GOp cl r f) (ha : Rd cl xf X W p a da) (hb : Rk cl X b pb) : Rd cl xf X W p e (dDP f da pb) := by
  obtain ⟨ta, h1, h2⟩ := ha
  obtain ⟨tb, h3, h4⟩ := hb
  exact ⟨_, o _ _ h1 h3, se_dp h h2 h4⟩
theorem d_vd (i : Nat) {x : Str} (o : B2 X e (.Name x pos) b r) (h : GOp cl r f) (hb : Rd cl xf X W false b db) (hN : X.N[i]? = some x := by rfl) (hv : Vis X.env.scope x := by first | exact Or.inl rfl | exact Or.inr (Or.inl rfl) | exact Or.inr (Or.inr rfl)) (hd : (x == ("__debug__" : Str)) = false := by decide) (hcd : (x == ("__classdict__" : Str)) = false := by decide) : Rd cl xf X W false e (dVD f i db) := by
  obtain ⟨tb, h3, h4⟩ := hb
  exact ⟨_, o _ _ (pe_var hN hv hd hcd) h3, se_vd h h4⟩
theorem d_1d (o : B1 X e a r1) (h : GUn cl r1 f1) (ha : Rd cl xf X W p a da) : Rd cl xf X W p e (d1 f1 da) := by
  obtain ⟨ta, h1, h2⟩ := ha
  exact ⟨_, o _ h1, se_1d h h2⟩
theorem d_1p (o : B1 X e a r1) (h : GUn cl r1 f1) (ha : Rk cl X a pa) : Rd cl xf X W p e (dP1 f1 pa) := by
  obtain ⟨ta, h1, h2⟩ := ha
  exact ⟨_, o _ h1, se_1p h h2⟩
theorem d_mv (i : Nat) {x : Str} (hN : X.N[i]? = some x := by rfl) (hv : Vis X.env.scope x := by first | exact Or.inl rfl | exact Or.inr (Or.inl rfl) | exact Or.inr (Or.inr rfl)) (hd : (x == ("__debug__" : Str)) = false := by decide) (hcd : (x == ("__classdict__" : Str)) = false := by decide) : Rd cl xf X W false (.Name x pos) (dMv i) := ⟨_, pe_var hN hv hd hcd, se_mv⟩
theorem d_fz (i : Nat) {x : Str} (hN : X.N[i]? = some x := by rfl) (hv : Vis X.env.scope x := by first | exact Or.inl rfl | exact Or.inr (Or.inl rfl) | exact Or.inr (Or.inr rfl)) (hd : (x == ("__debug__" : Str)) = false := by decide) (hcd : (x == ("__classdict__" : Str)) = false := by decide) : Rd cl xf X W false (.Name x pos) (dFz i) := ⟨_, pe_var hN hv hd hcd, se_fz⟩
theorem a_nil : Ra cl xf X W p [] daNil := ⟨_, pa_nil, sa_nil⟩
theorem a_cons {da' : DA} (ha : Rd cl xf X W p e da) (hr : Ra cl xf X W p es da') (hs : starEach (e :: es) X.env = (false, eval e X.env) :: starEach es X.env := by rfl) : Ra cl xf X W p (e :: es) (daCons da da') := by
  obtain ⟨ta, h1, h2⟩ := ha
  obtain ⟨tb, h3, h4⟩ := hr
  exact ⟨_, pa_cons h1 h3 hs, sa_cons h2 h4⟩
theorem d_lst {da' : DA} (h : Ra cl xf X W p es da') : Rd cl xf X W p (.List es pos) (dF mkLst da') := by obtain ⟨ta, h1, h2⟩ := h; exact ⟨_, pe_lst h1, se_lst h2⟩
theorem d_tup {x1} {da' : DA} (h : Ra cl xf X W p es da') : Rd cl xf X W p (.Tuple es x1 pos) (dF mkTup da') := by obtain ⟨ta, h1, h2⟩ := h; exact ⟨_, pe_tup h1, se_tup h2⟩
theorem d_and {rest : List Expr} (ha : Rd cl xf X W p a da) (hb : Rd cl xf X W p (.BoolOp .And (b :: rest) pos) db) : Rd cl xf X W p (.BoolOp .And (a :: b :: rest) pos) (dAnd da db) := by
  obtain ⟨ta, h1, h2⟩ := ha
  obtain ⟨tb, h3, h4⟩ := hb
  exact ⟨_, pe_and h1 h3, se_and h2 h4⟩
theorem d_or {rest : List Expr} (ha : Rd cl xf X W p a da) (hb : Rd cl xf X W p (.BoolOp .Or (b :: rest) pos) db) : Rd cl xf X W p (.BoolOp .Or (a :: b :: rest) pos) (dOr da db) := by
  obtain ⟨ta, h1, h2⟩ := ha
  obtain ⟨tb, h3, h4⟩ := hb
  exact ⟨_, pe_or h1 h3, se_or h2 h4⟩
theorem d_one {op} (ha : Rd cl xf X W p a da) : Rd cl xf X W p (.BoolOp op [a] pos) da := by obtain ⟨ta, h1, h2⟩ := ha; exact ⟨_, pe_one h1, h2⟩
theorem d_not (ha : Rd cl xf X W p a da) : Rd cl xf X W p (.UnaryOp .Not a pos) (d1S notD da) := by obtain ⟨ta, h1, h2⟩ := ha; exact ⟨_, pe_not h1, se_not h2⟩
theorem d_if {dt : DT} (hc : Rt cl xf X W p c dt) (ha : Rd cl xf X W p a da) (hb : Rd cl xf X W p b db) : Rd cl xf X W p (.IfExp c a b pos) (dIf dt da db) := by
  obtain ⟨tc, h5, h6⟩ := hc
  obtain ⟨ta, h1, h2⟩ := ha
  obtain ⟨tb, h3, h4⟩ := hb
  exact ⟨_, pe_ifExp h5 h1 h3, se_if h6 h2 h4⟩
theorem d_ch {op op' : CmpOp} {r r' : R2} {f g : D → D → Option D} (ho : OpR X (compareOp op) r) (ho' : OpR X (compareOp op') r') (hf : POp cl r f) (hg : POp cl r' g) (ha : Rd cl xf X W p a da) (hb : Rd cl xf X W p b db) (hc : Rd cl xf X W p c dc) (hm : lastMarks [op, op'] [b, c] = false := by with_unfolding_all rfl) :
    Rd cl xf X W p (.Compare a [op, op'] [b, c] pos) (dCh f g da db dc) := by
  obtain ⟨ta, h1, h2⟩ := ha
  obtain ⟨tb, h3, h4⟩ := hb
  obtain ⟨tc, h5, h6⟩ := hc
  exact ⟨_, pe_chain ho ho' h1 h3 h5 hm, se_ch hf hg h2 h4 h6⟩
/-! tests -/
theorem t_v (ha : Rd cl xf X W p a da) (he : ∀ whole, isTrue a X.env whole = (do let v ← whole; standAt a.pos; holding [v] (truthy v)) := by intro _; rfl) : Rt cl xf X W p a (dtV da) := by obtain ⟨ta, h1, h2⟩ := ha; exact ⟨_, pt_val h1 he, sb_v h2⟩
/-- a comparison as a test: o2 says it as a value and as a test -/
def C2 (X : Cx) (e a b : Expr) (r : R2) : Prop := ∀ ta tb, PE X a ta → PE X b tb → L2.PT X e (tTest (tOp r ta tb))
theorem t_cmp (o : ∃ op pos, e = .Compare a [op] [b] pos ∧ OpR X (compareOp op) r ∧ behindInMarks op b = false) {de : DE} (h : ∀ o2 : B2 X e a b r, Rd cl xf X W p e de) : True := trivial
theorem t_dd (o : C2 X e a b r) (h : GOp cl r f) (ha : Rd cl xf X W p a da) (hb : Rd cl xf X W p b db) : Rt cl xf X W p e (dtV (d2 f da db)) := by
  obtain ⟨ta, h1, h2⟩ := ha
  obtain ⟨tb, h3, h4⟩ := hb
  exact ⟨_, o _ _ h1 h3, sb_v (se_dd h h2 h4)⟩
theorem t_pp (o : C2 X e a b r) (h : GOp cl r f) (ha : Rk cl X a pa) (hb : Rk cl X b pb) : Rt cl xf X W p e (dtV (dPP f pa pb)) := by
  obtain ⟨ta, h1, h2⟩ := ha
  obtain ⟨tb, h3, h4⟩ := hb
  exact ⟨_, o _ _ h1 h3, sb_v (se_pp h h2 h4)⟩
theorem t_pd (o : C2 X e a b r) (h : GOp cl r f) (ha : Rk cl X a pa) (hb : Rd cl xf X W true b db) : Rt cl xf X W p e (dtV (dPD f pa db)) := by
  obtain ⟨ta, h1, h2⟩ := ha
  obtain ⟨tb, h3, h4⟩ := hb
  exact ⟨_, o _ _ h1 h3, sb_v (se_pd h h2 h4)⟩
theorem t_dp (o : C2 X e a b r) (h : GOp cl r f) (ha : Rd cl xf X W p a da) (hb : Rk cl X b pb) : Rt cl xf X W p e (dtV (dDP f da pb)) := by
  obtain ⟨ta, h1, h2⟩ := ha
  obtain ⟨tb, h3, h4⟩ := hb
  exact ⟨_, o _ _ h1 h3, sb_v (se_dp h h2 h4)⟩
theorem t_vd (i : Nat) {x : Str} (o : C2 X e (.Name x pos) b r) (h : GOp cl r f) (hb : Rd cl xf X W false b db) (hN : X.N[i]? = some x := by rfl) (hv : Vis X.env.scope x := by first | exact Or.inl rfl | exact Or.inr (Or.inl rfl) | exact Or.inr (Or.inr rfl)) (hd : (x == ("__debug__" : Str)) = false := by decide) (hcd : (x == ("__classdict__" : Str)) = false := by decide) : Rt cl xf X W false e (dtV (dVD f i db)) := by
  obtain ⟨tb, h3, h4⟩ := hb
  exact ⟨_, o _ _ (pe_var hN hv hd hcd) h3, sb_v (se_vd h h4)⟩
theorem t_ch {op op' : CmpOp} {r r' : R2} {f g : D → D → Option D} (ho : OpR X (compareOp op) r) (ho' : OpR X (compareOp op') r') (hf : POp cl r f) (hg : POp cl r' g) (ha : Rd cl xf X W p a da) (hb : Rd cl xf X W p b db) (hc : Rd cl xf X W p c dc) (hm : lastMarks [op, op'] [b, c] = false := by with_unfolding_all rfl) :
    Rt cl xf X W p (.Compare a [op, op'] [b, c] pos) (dtV (dCh f g da db dc)) := by
  obtain ⟨ta, h1, h2⟩ := ha
  obtain ⟨tb, h3, h4⟩ := hb
  obtain ⟨tc, h5, h6⟩ := hc
  exact ⟨_, pt_chain ho ho' h1 h3 h5 hm, sb_v (se_ch hf hg h2 h4 h6)⟩
theorem t_not {dt : DT} (ha : Rt cl xf X W p a dt) : Rt cl xf X W p (.UnaryOp .Not a pos) (dtNot dt) := by obtain ⟨ta, h1, h2⟩ := ha; exact ⟨_, pt_not h1, sb_not h2⟩
theorem t_w {dt : DT} (ha : Rw cl xf X W p a dt) : Rt cl xf X W p a dt := by obtain ⟨ta, h1, h2⟩ := ha; exact ⟨_, PW.pt h1, h2⟩
theorem w_and1 {dt : DT} (ha : Rt cl xf X W p a dt) : Rw cl xf X W p (.BoolOp .And [a] pos) dt := by obtain ⟨ta, h1, h2⟩ := ha; exact ⟨_, pw_and1 h1, h2⟩
theorem w_or1 {dt : DT} (ha : Rt cl xf X W p a dt) : Rw cl xf X W p (.BoolOp .Or [a] pos) dt := by obtain ⟨ta, h1, h2⟩ := ha; exact ⟨_, pw_or1 h1, h2⟩
theorem w_and {rest : List Expr} {dt du : DT} (ha : Rt cl xf X W p a dt) (hb : Rw cl xf X W p (.BoolOp .And (b :: rest) pos) du) : Rw cl xf X W p (.BoolOp .And (a :: b :: rest) pos) (dtAnd dt du) := by
  obtain ⟨ta, h1, h2⟩ := ha
  obtain ⟨tb, h3, h4⟩ := hb
  exact ⟨_, pw_and h1 h3, sb_and h2 h4⟩
theorem w_or {rest : List Expr} {dt du : DT} (ha : Rt cl xf X W p a dt) (hb : Rw cl xf X W p (.BoolOp .Or (b :: rest) pos) du) : Rw cl xf X W p (.BoolOp .Or (a :: b :: rest) pos) (dtOr dt du) := by
  obtain ⟨ta, h1, h2⟩ := ha
  obtain ⟨tb, h3, h4⟩ := hb
  exact ⟨_, pw_or h1 h3, sb_or h2 h4⟩
/-! calls of the program's own defs -/
structure Fn (cl : Ec) (xf : Nat → List Str) (P : Program) (w : World) (K : PySem.W.Frag) (mg : Str → Option Value) (base : Heap) (x : Str) (k np : Nat) (F : List D → Out D) : Prop where
  ex : ∃ f fd ps, FnOk P w K mg base (L2.CX P w) k f fd ps (spF cl xf np F) ∧ mg x = some (.ref f) ∧ PySem.W.keepIn K (.ref f) = true ∧ Binds K fd ps []
theorem c_nil : Rc cl xf X W [] daNil := ⟨_, pa_nil, sc_nil⟩
theorem c_val {da' : DA} (ha : Rd cl xf X W true e da) (hr : Rc cl xf X W es da') (hs : starEach (e :: es) X.env = (false, eval e X.env) :: starEach es X.env := by rfl) : Rc cl xf X W (e :: es) (daCons da da') := by
  obtain ⟨ta, h1, h2⟩ := ha
  obtain ⟨tb, h3, h4⟩ := hr
  exact ⟨_, pa_cons h1 h3 hs, sc_val h2 h4⟩
theorem c_lend {da' : DA} (ha : Rk cl X e pa) (hr : Rc cl xf X W es da') (hs : starEach (e :: es) X.env = (false, eval e X.env) :: starEach es X.env := by rfl) : Rc cl xf X W (e :: es) (daLend pa da') := by
  obtain ⟨ta, h1, h2⟩ := ha
  obtain ⟨tb, h3, h4⟩ := hr
  exact ⟨_, pa_cons h1 h3 hs, sc_lend h2 h4⟩
/-- how many arguments -/
def DL (n : Nat) (da : DA) : Prop := ∀ δ ds s, da δ = .ok ds s → ds.length = n
theorem dl_nil : DL 0 daNil := fun δ ds s e => by cases e; rfl
theorem dl_cons {n : Nat} {da' : DA} (h : DL n da') : DL (n + 1) (daCons da da') := fun δ ds s e => by
  unfold daCons at e
  cases e1 : da δ with
  | bad => rw [e1] at e; cases e
  | exc c xs s => rw [e1] at e; cases e
  | ok x s1 =>
    rw [e1] at e
    simp only [Out.bind] at e
    cases e2 : da' s1 with
    | bad => rw [e2] at e; cases e
    | exc c xs s => rw [e2] at e; cases e
    | ok xs s2 => rw [e2] at e; cases e; simp [h _ _ _ e2]
theorem dl_lend {n : Nat} {da' : DA} (h : DL n da') : DL (n + 1) (daLend pa da') := fun δ ds s e => by
  unfold daLend at e
  split at e
  · cases e2 : da' δ with
    | bad => rw [e2] at e; cases e
    | exc c xs s => rw [e2] at e; cases e
    | ok xs s2 => rw [e2] at e; cases e; simp [h _ _ _ e2]
  · cases e
theorem d_call {F : List D → Out D} {x : Str} {k m np : Nat} {da' : DA} {pp : Pos} (Fk : Fn cl xf X.prog X.w X.K X.mg X.base x k np F) (hr : Room m X.A) (hkm : k ≤ m) (tk : Takes X W) (ha : Rc cl xf X W (e :: es) da') (hn : DL np da') (hg : Gl X x := by rfl)
    (hdb : (x == ("__debug__" : Str)) = false := by decide) (he : starEach (e :: es) X.env = (false, eval e X.env) :: starEach es X.env := by rfl) (hpl : (backTo pos (starEach es X.env)).any (·.1) = false := by rfl) : Rd cl xf X W p (.Call (.Name x pp) (e :: es) [] pos) (dCall F da') := by
  obtain ⟨ta, h1, h2⟩ := ha
  obtain ⟨f, fd, ps, hF, hm, hk, hb⟩ := Fk.ex
  exact ⟨_, pe_callS hF (hr.mono hkm) hg hm hk hb (fun σ => passAt tk σ) h1 hdb he hpl, (se_call h2 hn).to⟩
theorem q_nil : Rq cl xf X W [] [] := ⟨_, pa_nil, sq_nil⟩
theorem q_val {ks : List AK} (ha : Rd cl xf X W false e da) (hr : Rq cl xf X W es ks) (hs : starEach (e :: es) X.env = (false, eval e X.env) :: starEach es X.env := by rfl) : Rq cl xf X W (e :: es) (.v da :: ks) := by
  obtain ⟨ta, h1, h2⟩ := ha
  obtain ⟨tb, h3, h4⟩ := hr
  exact ⟨_, pa_cons h1 h3 hs, sq_val h2 h4⟩
theorem q_l (i : Nat) {x : Str} {ks : List AK} (hr : Rq cl xf X W es ks) (hN : X.N[i]? = some x := by rfl) (hv : Vis X.env.scope x := by first | exact Or.inl rfl | exact Or.inr (Or.inl rfl) | exact Or.inr (Or.inr rfl)) (hd : (x == ("__debug__" : Str)) = false := by decide) (hcd : (x == ("__classdict__" : Str)) = false := by decide)
    (hs : starEach (.Name x pos :: es) X.env = (false, eval (.Name x pos) X.env) :: starEach es X.env := by rfl) : Rq cl xf X W (.Name x pos :: es) (.l i :: ks) := by
  obtain ⟨tb, h3, h4⟩ := hr
  exact ⟨_, pa_cons (pe_var hN hv hd hcd) h3 hs, sq_l h4⟩
theorem q_o (i : Nat) {x : Str} {ks : List AK} (hr : Rq cl xf X W es ks) (hN : X.N[i]? = some x := by rfl) (hv : Vis X.env.scope x := by first | exact Or.inl rfl | exact Or.inr (Or.inl rfl) | exact Or.inr (Or.inr rfl)) (hd : (x == ("__debug__" : Str)) = false := by decide) (hcd : (x == ("__classdict__" : Str)) = false := by decide)
    (hs : starEach (.Name x pos :: es) X.env = (false, eval (.Name x pos) X.env) :: starEach es X.env := by rfl) : Rq cl xf X W (.Name x pos :: es) (.o i :: ks) := by
  obtain ⟨tb, h3, h4⟩ := hr
  exact ⟨_, pa_cons (pe_var hN hv hd hcd) h3 hs, sq_o h4⟩
theorem d_io {F : List D → Out D} {x : Str} {k m np : Nat} {ks : List AK} {pp : Pos} (Fk : Fn cl xf X.prog X.w X.K X.mg X.base x k np F) (hr : Room m X.A) (hkm : k ≤ m) (tk : Takes X W) (ha : Rq cl xf X W (e :: es) ks) (hn : ks.length = np) (hg : Gl X x := by rfl)
    (hdb : (x == ("__debug__" : Str)) = false := by decide) (he : starEach (e :: es) X.env = (false, eval e X.env) :: starEach es X.env := by rfl) (hpl : (backTo pos (starEach es X.env)).any (·.1) = false := by rfl) : Rd cl xf X W false (.Call (.Name x pp) (e :: es) [] pos) (dCallIO F ks) := by
  obtain ⟨ta, h1, h2⟩ := ha
  obtain ⟨f, fd, ps, hF, hm, hk, hb⟩ := Fk.ex
  exact ⟨_, pe_callS hF (hr.mono hkm) hg hm hk hb (fun σ => passAt tk σ) h1 hdb he hpl, se_callIO h2 hn⟩
/-! what is walked -/
theorem i_listP {tg : Expr} (hK : X.K = cl.K) (ha : Rk cl X a pa) : Ri cl xf X W p tg a (diP (itL p) pa) := by obtain ⟨ta, h1, h2⟩ := ha; exact ⟨_, pi_list h1, by rw [hK]; exact si_listP h2⟩
theorem i_tupP {tg : Expr} (ha : Rk cl X a pa) : Ri cl xf X W p tg a (diP (itT p) pa) := by obtain ⟨ta, h1, h2⟩ := ha; exact ⟨_, pi_tup h1, si_tupP h2⟩
theorem i_strP {tg : Expr} (ha : Rk cl X a pa) : Ri cl xf X W p tg a (diP itS pa) := by obtain ⟨ta, h1, h2⟩ := ha; exact ⟨_, pi_str h1, si_strP h2⟩
theorem i_listD {tg : Expr} (hK : X.K = cl.K) (ha : Rd cl xf X W p a da) : Ri cl xf X W p tg a (diD (itL true) da) := by obtain ⟨ta, h1, h2⟩ := ha; exact ⟨_, pi_list h1, by rw [hK]; exact si_listD h2⟩
theorem i_range1 {tg : Expr} {pp : Pos} (hm : X.mg "range" = none) (ha : Rd cl xf X W p a da) (hg : Gl X "range" := by rfl) (hs : starEach [a] X.env = [(false, eval a X.env)] := by rfl) (hs2 : starEach (a :: []) X.env = (false, eval a X.env) :: starEach [] X.env := by rfl) : Ri cl xf X W p tg (.Call (.Name "range" pp) [a] [] pos) (diD itR da) := by
  obtain ⟨ta, h1, h2⟩ := ha
  exact ⟨_, pi_range1 hg hm (pa_cons h1 pa_nil hs2) hs, si_range1 h2⟩
/-! targets -/
theorem g_name (i : Nat) {x : Str} (hN : X.N.Nodup) (hw : ws i = true := by rfl) (hi : X.N[i]? = some x := by rfl) (hx : Loc X.env.scope x := by first | exact Or.inl rfl | exact Or.inr rfl) (hf : X.fn x = true ∨ X.env.scope.names.lookup x = some .local := by first | exact .inl rfl | exact .inr rfl) : Rg cl X ws (.Name x pos) (tgN i) := ⟨_, pg_name hN hi hx hf, sg_name hw⟩
theorem gs_nil : Rgs cl X ws [] [] := ⟨_, pgs_nil, sgs_nil⟩
end
end Fs
/-! F12 -/
/-! The same of statements, comprehensions, built-in functions. -/
namespace Fs
open PySem PySem.Spec PyProof.Rows L2
section
variable {cl : Ec} {xf : Nat → List Str} {X : Cx} {W : WX} {ws : Nat → Bool} {p : Bool} {e a b c tg : Expr} {es : List Expr} {da db dc : DE} {pa pb : PP} {r : R2} {r1 : V → Hp → VK → Prop} {f : D → D → Option D} {f1 : D → Option D} {pos pos' pp : Pos}
theorem gs_cons {tgs' : List (D → Sl → Option Sl)} {t : D → Sl → Option Sl} (h1 : Rg cl X ws e t) (h2 : Rgs cl X ws es tgs') (hs : (assignEach (e :: es) X.env).map (·.2) = assign e X.env :: (assignEach es X.env).map (·.2) := by rfl) : Rgs cl X ws (e :: es) (t :: tgs') := by
  obtain ⟨g, q1, q2⟩ := h1
  obtain ⟨g', q3, q4⟩ := h2
  exact ⟨_, pgs_cons q1 q3 hs, sgs_cons q2 q4⟩
theorem g_tup {k : Nat} {tgs' : List (D → Sl → Option Sl)} (h : Rgs cl X ws es tgs') (hc : X.calm = true := by rfl) (hn : (assignEach es X.env).length = tgs'.length := by rfl) (hst : (assignEach es X.env).findIdx? (·.1) = none := by rfl) : Rg cl X ws (.Tuple es k pos) (tgT tgs') := by
  obtain ⟨g, q1, q2⟩ := h
  exact ⟨_, pg_tup hc q1 hn hst, sg_tup rfl q2⟩
/-! comprehensions -/
theorem d_lcP {elt iter : Expr} {ifs : List Expr} {scope : Scope} {own : List (Str × Nat)} {di : DA} {t : D → Sl → Option Sl} {tst : DT} {elt' : DE} (hi : Ri cl xf X W true tg iter di) (ok : BlkOk X.N X.env.scope scope own) (hin : TgIn (own.map (·.2)) t)
    (hg : ∃ g, (∀ (s : Shared) (H : Hp) (C : Addr) (cl' : List (Str × Addr)) (fp : List Addr), PG (X.blk s H scope (compEnvC scope cl' C X.env) fp) tg g) ∧ SG cl (fun i => (own.map (·.2)).contains i) g t)
    (ht : ∃ tt, (∀ (s : Shared) (H : Hp) (C : Addr) (cl' : List (Str × Addr)) (fp : List Addr), PTs (X.blk s H scope (compEnvC scope cl' C X.env) fp) ifs tt) ∧ SB cl xf W0 true tt tst)
    (he : ∃ te, (∀ (s : Shared) (H : Hp) (C : Addr) (cl' : List (Str × Addr)) (fp : List Addr), PE (X.blk s H scope (compEnvC scope cl' C X.env) fp) elt te) ∧ SE cl xf W0 true te elt')
    (hN : X.N.Nodup) (hc : X.calm = true := by rfl) (hs : ∀ x, foldedSetIterable iter X.env x = pure x := by intro _; rfl) :
    Rd cl xf X W p (.ListComp elt [⟨tg, iter, ifs, 0⟩] scope pos) (dComp true (own.map (·.2)) di t tst elt') := by
  obtain ⟨wi, q1, q2⟩ := hi
  obtain ⟨g, q3, q4⟩ := hg
  obtain ⟨tt, q5, q6⟩ := ht
  obtain ⟨te, q7, q8⟩ := he
  exact ⟨_, pe_lc hc hN q1 ok q3 q5 q7 hs, (se_compP q2 q4 hin q6 q8).to⟩
theorem d_lc {elt iter : Expr} {ifs : List Expr} {scope : Scope} {own : List (Str × Nat)} {di : DA} {t : D → Sl → Option Sl} {tst : DT} {elt' : DE} (hi : Ri cl xf X W false tg iter di) (ok : BlkOk X.N X.env.scope scope own) (hin : TgIn (own.map (·.2)) t)
    (hg : ∃ g, (∀ (s : Shared) (H : Hp) (C : Addr) (cl' : List (Str × Addr)) (fp : List Addr), PG (X.blk s H scope (compEnvC scope cl' C X.env) fp) tg g) ∧ SG cl (fun i => (own.map (·.2)).contains i) g t)
    (ht : ∃ tt, (∀ (s : Shared) (H : Hp) (C : Addr) (cl' : List (Str × Addr)) (fp : List Addr), PTs (X.blk s H scope (compEnvC scope cl' C X.env) fp) ifs tt) ∧ SB cl xf W0 false tt tst)
    (he : ∃ te, (∀ (s : Shared) (H : Hp) (C : Addr) (cl' : List (Str × Addr)) (fp : List Addr), PE (X.blk s H scope (compEnvC scope cl' C X.env) fp) elt te) ∧ SE cl xf W0 false te elt')
    (hN : X.N.Nodup) (hc : X.calm = true := by rfl) (hs : ∀ x, foldedSetIterable iter X.env x = pure x := by intro _; rfl) :
    Rd cl xf X W false (.ListComp elt [⟨tg, iter, ifs, 0⟩] scope pos) (dComp false (own.map (·.2)) di t tst elt') := by
  obtain ⟨wi, q1, q2⟩ := hi
  obtain ⟨g, q3, q4⟩ := hg
  obtain ⟨tt, q5, q6⟩ := ht
  obtain ⟨te, q7, q8⟩ := he
  exact ⟨_, pe_lc hc hN q1 ok q3 q5 q7 hs, se_comp q2 q4 hin q6 q8⟩
/-- y = [..] -/
theorem s_lcP (i : Nat) {y : Str} {py : Pos} {elt iter : Expr} {ifs : List Expr} {scope : Scope} {own : List (Str × Nat)} {di : DA} {t : D → Sl → Option Sl} {tst : DT} {elt' : DE} (hi : Ri cl xf X W true tg iter di) (ok : BlkOk X.N X.env.scope scope own) (hin : TgIn (own.map (·.2)) t)
    (hg : ∃ g, (∀ (s : Shared) (H : Hp) (C : Addr) (cl' : List (Str × Addr)) (fp : List Addr), PG (X.blk s H scope (compEnvC scope cl' C X.env) fp) tg g) ∧ SG cl (fun i => (own.map (·.2)).contains i) g t)
    (ht : ∃ tt, (∀ (s : Shared) (H : Hp) (C : Addr) (cl' : List (Str × Addr)) (fp : List Addr), PTs (X.blk s H scope (compEnvC scope cl' C X.env) fp) ifs tt) ∧ SB cl xf W0 true tt tst)
    (he : ∃ te, (∀ (s : Shared) (H : Hp) (C : Addr) (cl' : List (Str × Addr)) (fp : List Addr), PE (X.blk s H scope (compEnvC scope cl' C X.env) fp) elt te) ∧ SE cl xf W0 true te elt')
    (hN : X.N.Nodup) (hsw : swapsWith (.ListComp elt [⟨tg, iter, ifs, 0⟩] scope pos) (some (.Name y py)) pos'.line X.env = pure true) (hw : ws i = true := by rfl) (hy : X.N[i]? = some y := by rfl) (hyl : X.env.scope.names.lookup y = some .local := by rfl) (hc : X.calm = true := by rfl) (hs : ∀ x, foldedSetIterable iter X.env x = pure x := by intro _; rfl) :
    Rs cl xf X W ws (.Assign [.Name y py] (.ListComp elt [⟨tg, iter, ifs, 0⟩] scope pos) pos') (dsAsg (dComp true (own.map (·.2)) di t tst elt') (tgN i)) := by
  obtain ⟨wi, q1, q2⟩ := hi
  obtain ⟨g, q3, q4⟩ := hg
  obtain ⟨tt, q5, q6⟩ := ht
  obtain ⟨te, q7, q8⟩ := he
  exact ⟨_, ps_setLc hc hN hy hyl hsw q1 ok q3 q5 q7 hs, ss_asg (se_compP q2 q4 hin q6 q8).to (sg_name hw)⟩
theorem s_lc (i : Nat) {y : Str} {py : Pos} {elt iter : Expr} {ifs : List Expr} {scope : Scope} {own : List (Str × Nat)} {di : DA} {t : D → Sl → Option Sl} {tst : DT} {elt' : DE} (hi : Ri cl xf X W false tg iter di) (ok : BlkOk X.N X.env.scope scope own) (hin : TgIn (own.map (·.2)) t)
    (hg : ∃ g, (∀ (s : Shared) (H : Hp) (C : Addr) (cl' : List (Str × Addr)) (fp : List Addr), PG (X.blk s H scope (compEnvC scope cl' C X.env) fp) tg g) ∧ SG cl (fun i => (own.map (·.2)).contains i) g t)
    (ht : ∃ tt, (∀ (s : Shared) (H : Hp) (C : Addr) (cl' : List (Str × Addr)) (fp : List Addr), PTs (X.blk s H scope (compEnvC scope cl' C X.env) fp) ifs tt) ∧ SB cl xf W0 false tt tst)
    (he : ∃ te, (∀ (s : Shared) (H : Hp) (C : Addr) (cl' : List (Str × Addr)) (fp : List Addr), PE (X.blk s H scope (compEnvC scope cl' C X.env) fp) elt te) ∧ SE cl xf W0 false te elt')
    (hN : X.N.Nodup) (hsw : swapsWith (.ListComp elt [⟨tg, iter, ifs, 0⟩] scope pos) (some (.Name y py)) pos'.line X.env = pure true) (hw : ws i = true := by rfl) (hy : X.N[i]? = some y := by rfl) (hyl : X.env.scope.names.lookup y = some .local := by rfl) (hc : X.calm = true := by rfl) (hs : ∀ x, foldedSetIterable iter X.env x = pure x := by intro _; rfl) :
    Rs cl xf X W ws (.Assign [.Name y py] (.ListComp elt [⟨tg, iter, ifs, 0⟩] scope pos) pos') (dsAsg (dComp false (own.map (·.2)) di t tst elt') (tgN i)) := by
  obtain ⟨wi, q1, q2⟩ := hi
  obtain ⟨g, q3, q4⟩ := hg
  obtain ⟨tt, q5, q6⟩ := ht
  obtain ⟨te, q7, q8⟩ := he
  exact ⟨_, ps_setLc hc hN hy hyl hsw q1 ok q3 q5 q7 hs, ss_asg (se_comp q2 q4 hin q6 q8) (sg_name hw)⟩
def dtYes : DT := fun δ => .ok true δ
theorem sb_yes : SB cl xf W p tYes dtYes := ⟨fun _ δ => rfl, fun A L B H δ σ Q j k => k [] A H (Nx.refl j.ba) j⟩
/-! statements -/
theorem b_nil : Rb cl xf X W ws [] dsNext := ⟨_, pss_nil, ss_next⟩
theorem b_cons {st : Stmt} {sts : List Stmt} {d d' : DS} (h : Rs cl xf X W ws st d) (h' : Rb cl xf X W ws sts d') : Rb cl xf X W ws (st :: sts) (dsSeq d d') := by
  obtain ⟨t, q1, q2⟩ := h
  obtain ⟨t', q3, q4⟩ := h'
  exact ⟨_, pss_cons q1 q3, ss_seq q2 q4⟩
theorem b_one {st : Stmt} {d : DS} (h : Rs cl xf X W ws st d) : Rb cl xf X W ws [st] d := by obtain ⟨t, q1, q2⟩ := h; exact ⟨_, pss_one q1, q2⟩
theorem s_set (i : Nat) {x : Str} (h : Rd cl xf X W false e da) (hN : X.N.Nodup) (hw : ws i = true := by rfl) (hi : X.N[i]? = some x := by rfl) (hx : Loc X.env.scope x := by first | exact Or.inl rfl | exact Or.inr rfl) (hs : swapsWith e (some (.Name x pos')) pos.line X.env = pure false := by rfl) (hf : X.fn x = true ∨ X.env.scope.names.lookup x = some .local := by first | exact .inl rfl | exact .inr rfl) :
    Rs cl xf X W ws (.Assign [.Name x pos'] e pos) (dsAsg da (tgN i)) := by
  obtain ⟨te, q1, q2⟩ := h
  exact ⟨_, ps_set hN hi hx q1 hs hf, ss_asg q2 (sg_name hw)⟩
theorem s_asg {t : D → Sl → Option Sl} (h : Rd cl xf X W false e da) (hg : Rg cl X ws tg t) (hs : swapsWithSole [tg] e pos.line X.env = pure false := by rfl) (hw : swappedStores [tg] e X.env = pure none := by rfl) (h1 : (assignEach [tg] X.env).map (·.2) = [assign tg X.env] := by rfl) : Rs cl xf X W ws (.Assign [tg] e pos) (dsAsg da t) := by
  obtain ⟨te, q1, q2⟩ := h
  obtain ⟨g, q3, q4⟩ := hg
  exact ⟨_, ps_asg q1 q3 hs hw h1, ss_asg q2 q4⟩
theorem s_ret (h : Rd cl xf X W false e da) : Rs cl xf X W ws (.Return (some e) pos) (dsRet da) := by obtain ⟨te, q1, q2⟩ := h; exact ⟨_, ps_ret q1, ss_ret q2⟩
theorem s_retN : Rs cl xf X W ws (.Return none pos) dsRetN := ⟨_, ps_retN, ss_retN⟩
theorem s_expr (h : Rd cl xf X W false e da) (hs : swapsWith e none pos.line X.env = pure false := by rfl) : Rs cl xf X W ws (.Expr e pos) (dsDrop da) := by obtain ⟨te, q1, q2⟩ := h; exact ⟨_, ps_expr q1 hs, ss_drop q2⟩
theorem s_if {dt : DT} {d d' : DS} {st st' : List Stmt} (hc : Rt cl xf X W false c dt) (h : Rb cl xf X W ws st d) (h' : Rb cl xf X W ws st' d') : Rs cl xf X W ws (.If c st st' pos) (dsIf dt d d') := by
  obtain ⟨t, q1, q2⟩ := h
  obtain ⟨t', q3, q4⟩ := h'
  obtain ⟨tc, q5, q6⟩ := hc
  exact ⟨_, ps_if q5 q1 q3, ss_if q6 q2 q4⟩
theorem s_for {iter : Expr} {body : List Stmt} {di : DA} {t : D → Sl → Option Sl} {d : DS} (hi : Ri cl xf X W false tg iter di) (hg : Rg cl X ws tg t) (hb : Rb cl xf X W ws body d) (hp : PassesOwn (model X.prog X.w) X.A X.env X.xe) (hc : X.calm = true := by rfl) (hs : ∀ x, foldedSetIterable iter X.env x = pure x := by intro _; rfl) :
    Rs cl xf X W ws (.For tg iter body [] pos) (dsFor di t d) := by
  obtain ⟨wi, q1, q2⟩ := hi
  obtain ⟨g, q3, q4⟩ := hg
  obtain ⟨tb, q5, q6⟩ := hb
  exact ⟨_, ps_for hp hc q1 q3 q5 hs, ss_for q2 q4 q6⟩
theorem s_brk : Rs cl xf X W ws (.Break pos) dsBrk := ⟨_, ps_break, ss_brk⟩
theorem s_cnt : Rs cl xf X W ws (.Continue pos) dsCnt := ⟨_, ps_continue, ss_cnt⟩
theorem s_pass : Rs cl xf X W ws (.Pass pos) dsNext := ⟨_, ps_pass, ss_next⟩
theorem s_doc {x j} : Rs cl xf X W ws (.Expr (.Constant (.str x) j pos) pos') dsNext := ⟨_, ps_doc, ss_next⟩
/-- x[k] = e, x a name -/
theorem s_setL (i : Nat) {x : Str} {ix : Expr} (h : Rd cl xf X W false e da) (hx : Rd cl xf X W false ix db) (hN : X.N[i]? = some x := by rfl) (hv : Vis X.env.scope x := by first | exact Or.inl rfl | exact Or.inr (Or.inl rfl) | exact Or.inr (Or.inr rfl)) (hd : (x == ("__debug__" : Str)) = false := by decide) (hcd : (x == ("__classdict__" : Str)) = false := by decide)
    (hs : swapsWithSole [.Subscript (.Name x pos) ix pp] e pos'.line X.env = pure false := by rfl) (hw : swappedStores [.Subscript (.Name x pos) ix pp] e X.env = pure none := by rfl) (h1 : (assignEach [.Subscript (.Name x pos) ix pp] X.env).map (·.2) = [assign (.Subscript (.Name x pos) ix pp) X.env] := by rfl)
    (hq : ∀ ta, PE X ix ta → PG X (.Subscript (.Name x pos) ix pp) (gSub (tVar i) ta rSetL)) : Rs cl xf X W ws (.Assign [.Subscript (.Name x pos) ix pp] e pos') (dsSetL i db da) := by
  obtain ⟨te, q1, q2⟩ := h
  obtain ⟨ta, q3, q4⟩ := hx
  exact ⟨_, ps_asg q1 (hq _ q3) hs hw h1, ss_setL q2 q4⟩
theorem d_app (i : Nat) {x : Str} {apos : Pos} (h : Rd cl xf X W false e da) (hN : X.N[i]? = some x := by rfl) (hv : Vis X.env.scope x := by first | exact Or.inl rfl | exact Or.inr (Or.inl rfl) | exact Or.inr (Or.inr rfl)) (hd : (x == ("__debug__" : Str)) = false := by decide) (hcd : (x == ("__classdict__" : Str)) = false := by decide)
    (hq : ∀ ta, PE X e ta → PE X (.Call (.Attribute (.Name x pp) "append" apos) [e] [] pos) (tBM X.K "list" rAppend (tVar i) (tCons ta tNil))) : Rd cl xf X W false (.Call (.Attribute (.Name x pp) "append" apos) [e] [] pos) (dApp i da) := by
  obtain ⟨te, q1, q2⟩ := h
  exact ⟨_, hq _ q1, se_app q2⟩
/-! operators as the text says them -/
theorem o_add : B2 X (.BinOp a .Add b pos) a b (rAddA X.K) := fun _ _ ha hb => pe_op ((op_add.or op_add_str).or (op_cat.or op_catT)) ha hb
theorem o_sub : B2 X (.BinOp a .Sub b pos) a b (rI0 fun i j => .int (i - j)) := fun _ _ ha hb => pe_op op_sub ha hb
theorem o_mul : B2 X (.BinOp a .Mult b pos) a b (rI CMul fun i j => .int (i * j)) := fun _ _ ha hb => pe_op op_mul ha hb
theorem o_div : B2 X (.BinOp a .FloorDiv b pos) a b (rI CDiv fun i j => .int (i / j)) := fun _ _ ha hb => pe_op op_fdiv ha hb
theorem o_mod : B2 X (.BinOp a .Mod b pos) a b (rI (fun _ j => 0 < j) fun i j => .int (i % j)) := fun _ _ ha hb => pe_op op_mod ha hb
theorem o_pow : B2 X (.BinOp a .Pow b pos) a b (rI CPow fun i j => .int (i ^ j.toNat)) := fun _ _ ha hb => pe_op op_pow ha hb
theorem o_cmp {op : CmpOp} (h : OpR X (compareOp op) r) (hm : behindInMarks op b = false) : B2 X (.Compare a [op] [b] pos) a b r := fun _ _ ha hb => pe_cmpR h ha hb hm
theorem c_cmp {op : CmpOp} (h : OpR X (compareOp op) r) (hm : behindInMarks op b = false) : C2 X (.Compare a [op] [b] pos) a b r := fun _ _ ha hb => pt_cmpR h ha hb hm
theorem ix_dict (hu : X.A.units + 1 < cLine) : IxR X (fun x y H Q => ∃ a v, x = .ref a ∧ DGet H a y (some v) ∧ Q v H) := by
  intro value slice pins s σ H x y v u Q I rx ry ⟨a, w, ex, g, q⟩ hs
  subst ex
  obtain rfl : v = Value.ref a := rx
  have hT := dict_typeIs I g
  unfold subscriptTail
  refine wpAny_bind ?_
  rw [getitemInPython_of_ne hT.not_modules]
  refine wpAny_bind (wpAny_specialOf hT PySem.F.slot_dict_getitem.lookup ?_)
  have fin : wpAny (model X.prog X.w) X.A (subscripted slice false (.ref a) u) (fun r s₃ => wpAny (model X.prog X.w) X.A (letTemporaryGo value (.ref a) r >>= fun _ => pure r) (EP X pins σ Q) X.xe s₃) X.xe s := by
    rw [hs]
    exact wpAny_operating (d_getItem hu I g ry fun w' s3 I3 rw' => wpAny_bind (wpAny_letTemporaryGo (wpAny_pure ⟨w, H, I3, rw', q⟩)))
  first
    | exact wpAny_pure (wpAny_bind fin)
    | exact wpAny_bind (wpAny_pure (wpAny_bind fin))
    | exact wpAny_bind fin
theorem o_ix (hK : X.K = cl.K) (hu : X.A.units + 1 < cLine) (hs : PlainIx b) : B2 X (.Subscript a b pos) a b (rIxA cl.K) := by rw [← hK]; exact fun _ _ ha hb => pe_ix (ix_seq.or (ix_dict hu)) ha hb hs
theorem o_len (hK : X.K = cl.K) (hm : X.mg "len" = none) (hg : Gl X "len" := by rfl) (h1 : starEach [a] X.env = (false, eval a X.env) :: starEach [] X.env := by rfl) (h2 : (backTo pos (starEach [] X.env)).any (·.1) = false := by rfl) : B1 X (.Call (.Name "len" pp) [a] [] pos) a (rLenA cl.K) := by rw [← hK]; exact fun _ ha => pe_callB (call_len.or call_lenD) hg hm PySem.boot_len (pa_cons ha pa_nil h1) (by decide) (by decide) h1 h2
theorem o_isi {T : String} {tn : Str} {pt : Pos} (hm : X.mg "isinstance" = none) (ht : X.mg tn = none) (hv : bootBuiltins tn = some (.type T)) (hg : Gl X "isinstance" := by rfl) (hgt : Gl X tn := by rfl) (hn : tn ≠ "__name__" := by decide) (hd : (tn == ("__debug__" : Str)) = false := by decide)
    (h1 : starEach [a, .Name tn pt] X.env = (false, eval a X.env) :: starEach [.Name tn pt] X.env := by rfl) (h0 : starEach [.Name tn pt] X.env = (false, eval (.Name tn pt) X.env) :: starEach [] X.env := by rfl) (h2 : (backTo pos (starEach [.Name tn pt] X.env)).any (·.1) = false := by rfl) : B1 X (.Call (.Name "isinstance" pp) [a, .Name tn pt] [] pos) a (fun x H Q => rIsi X.K [x, .ty T] H Q) :=
  fun _ ha => pe_callB call_isi hg hm PyProof.Rows.boot_isinstance (pa_cons ha (pa_cons (pe_bltn (v := .ty T) hgt ht hv rfl hn hd) pa_nil h0) h1) (by decide) (by decide) h1 h2
theorem o_max (hm : X.mg "max" = none) (hc : X.calm = true := by rfl) (hg : Gl X "max" := by rfl) (h1 : starEach [a, b] X.env = (false, eval a X.env) :: starEach [b] X.env := by rfl) (h0 : starEach [b] X.env = (false, eval b X.env) :: starEach [] X.env := by rfl) (h2 : (backTo pos (starEach [b] X.env)).any (·.1) = false := by rfl) : B2 X (.Call (.Name "max" pp) [a, b] [] pos) a b (fun x y H Q => ∃ i j, [x, y] = [.int i, .int j] ∧ Q (.int (if j > i then j else i)) H) :=
  fun _ _ ha hb => pe_callB (call_max2 hc) hg hm PyProof.Rows.boot_max (pa_cons ha (pa_cons hb pa_nil h0) h1) (by decide) (by decide) h1 h2
theorem boot_min' : bootBuiltins "min" = some (.builtin "min") := by decide +kernel
theorem boot_all' : bootBuiltins "all" = some (.builtin "all") := by decide +kernel
theorem boot_int' : bootBuiltins "int" = some (.type "int") := by decide +kernel
theorem o_min (hm : X.mg "min" = none) (hc : X.calm = true := by rfl) (hg : Gl X "min" := by rfl) (h1 : starEach [a, b] X.env = (false, eval a X.env) :: starEach [b] X.env := by rfl) (h0 : starEach [b] X.env = (false, eval b X.env) :: starEach [] X.env := by rfl) (h2 : (backTo pos (starEach [b] X.env)).any (·.1) = false := by rfl) : B2 X (.Call (.Name "min" pp) [a, b] [] pos) a b (fun x y H Q => ∃ i j, [x, y] = [.int i, .int j] ∧ Q (.int (if j < i then j else i)) H) :=
  fun _ _ ha hb => pe_callB (call_min2 hc) hg hm boot_min' (pa_cons ha (pa_cons hb pa_nil h0) h1) (by decide) (by decide) h1 h2
theorem o_int (hm : X.mg "int" = none) (hg : Gl X "int" := by rfl) (h1 : starEach [a] X.env = (false, eval a X.env) :: starEach [] X.env := by rfl) (h2 : (backTo pos (starEach [] X.env)).any (·.1) = false := by rfl) : B1 X (.Call (.Name "int" pp) [a] [] pos) a rIntA := fun _ ha => pe_callTy (call_int1.or call_int_str) hg hm boot_int' (pa_cons ha pa_nil h1) (by decide) (by decide) h1 h2
theorem o_all (hm : X.mg "all" = none) (hc : X.calm = true := by rfl) (hg : Gl X "all" := by rfl) (h1 : starEach [a] X.env = (false, eval a X.env) :: starEach [] X.env := by rfl) (h2 : (backTo pos (starEach [] X.env)).any (·.1) = false := by rfl) : B1 X (.Call (.Name "all" pp) [a] [] pos) a (fun x H Q => rAll X.K [x] H Q) := fun _ ha => pe_callB (cr_all hc) hg hm boot_all' (pa_cons ha pa_nil h1) (by decide) (by decide) h1 h2
theorem o_join {s : Str} {j : Nat} {cp apos : Pos} (hs : starEach [a] X.env = [(false, eval a X.env)] := by rfl) (hbase : attributeBase (.Constant (.str s) j cp) "join" X.env (eval (.Constant (.str s) j cp) X.env) = eval (.Constant (.str s) j cp) X.env := by rfl) (hline : (apos.endLine == pos.line) = true := by rfl) :
    B1 X (.Call (.Attribute (.Constant (.str s) j cp) "join" apos) [a] [] pos) a (fun y H Q => ∃ a' p, ∃ ys : List Str, V.str s = .str a' ∧ [y] = [V.ref p] ∧ (SqL X.K H p (ys.map V.str) ∨ SqT X.K H p (ys.map V.str)) ∧ (ys.map (·.length)).sum + ys.length * a'.length ≤ 16777216 ∧ Q (.str (Txt.join a' ys)) H) := fun ta ha => by
  have h := pe_join (X := X) (o := .Constant (.str s) j cp) (to := tC (.str s)) pe_str ha hs hbase hline
  refine ⟨fun pins s' σ H Q I hw => h.run pins s' σ H Q I ?_⟩
  exact ⟨⟨s, rfl⟩, hw⟩
end
end Fs
/-! F13 -/
/-! One reading for all frames of a comprehension. -/
namespace Fs
open PySem PySem.Spec PyProof.Rows L2
section
variable {cl : Ec} {xf : Nat → List Str} {X : Cx} {W : WX} {ws : Nat → Bool} {p : Bool} {scope : Scope}
theorem uni_e {elt : Expr} {de : DE} (h : ∀ (s : Shared) (H : Hp) (C : Addr) (cl' : List (Str × Addr)) (fp : List Addr), Rd cl xf (X.blk s H scope (compEnvC scope cl' C X.env) fp) W0 p elt de) :
    ∃ te, (∀ (s : Shared) (H : Hp) (C : Addr) (cl' : List (Str × Addr)) (fp : List Addr), PE (X.blk s H scope (compEnvC scope cl' C X.env) fp) elt te) ∧ SE cl xf W0 p te de := by
  refine ⟨fun σ H Q => ∀ te, SE cl xf W0 p te de → te σ H Q, fun s H C cl' fp => ⟨fun pins s' σ H' Q I hw => ?_⟩, ⟨?_, fun A L B H δ σ Q j k te hte => hte.run A L B H δ σ Q j k⟩⟩
  · obtain ⟨te, h1, h2⟩ := h s H C cl' fp
    exact h1.run pins s' σ H' Q I (hw te h2)
  · obtain ⟨te, h1, h2⟩ := h X.s_0 X.H_0 0 [] []
    exact h2.pure
theorem uni_g {tg : Expr} {t : D → Sl → Option Sl} (h : ∀ (s : Shared) (H : Hp) (C : Addr) (cl' : List (Str × Addr)) (fp : List Addr), Rg cl (X.blk s H scope (compEnvC scope cl' C X.env) fp) ws tg t) :
    ∃ g, (∀ (s : Shared) (H : Hp) (C : Addr) (cl' : List (Str × Addr)) (fp : List Addr), PG (X.blk s H scope (compEnvC scope cl' C X.env) fp) tg g) ∧ SG cl ws g t := by
  refine ⟨fun v σ H Q => ∀ g, SG cl ws g t → g v σ H Q, fun s H C cl' fp => ⟨fun pins s' σ H' v u Q I rv hw => ?_⟩, fun p A L B H δ δ' σ d v Q j e k g hg => hg p A L B H δ δ' σ d v Q j e k⟩
  obtain ⟨g, h1, h2⟩ := h s H C cl' fp
  exact h1.run pins s' σ H' v u Q I rv (hw g h2)
theorem uni_t {c : Expr} {dt : DT} (h : ∀ (s : Shared) (H : Hp) (C : Addr) (cl' : List (Str × Addr)) (fp : List Addr), Rt cl xf (X.blk s H scope (compEnvC scope cl' C X.env) fp) W0 p c dt) :
    ∃ tt, (∀ (s : Shared) (H : Hp) (C : Addr) (cl' : List (Str × Addr)) (fp : List Addr), PTs (X.blk s H scope (compEnvC scope cl' C X.env) fp) [c] tt) ∧ SB cl xf W0 p tt dt := by
  refine ⟨fun σ H Q => ∀ tt, SB cl xf W0 p tt dt → tt σ H Q, fun s H C cl' fp => ⟨fun pins s' σ H' Q I hw => ?_⟩, ⟨?_, fun A L B H δ σ Q j k tt ht => ht.run A L B H δ σ Q j k⟩⟩
  · obtain ⟨tt, h1, h2⟩ := h s H C cl' fp
    exact (pts_one h1).run pins s' σ H' Q I (hw tt h2)
  · obtain ⟨tt, h1, h2⟩ := h X.s_0 X.H_0 0 [] []
    exact h2.pure
theorem uni_y : ∃ tt, (∀ (s : Shared) (H : Hp) (C : Addr) (cl' : List (Str × Addr)) (fp : List Addr), PTs (X.blk s H scope (compEnvC scope cl' C X.env) fp) [] tt) ∧ SB cl xf W0 p tt dtYes := ⟨tYes, fun _ _ _ _ _ => pts_nil, sb_yes⟩
end
end Fs
/-! F14 -/
/-! Names for the generator. -/
namespace Fs
open PySem PySem.Spec PyProof.Rows L2
section
variable {cl : Ec} {xf : Nat → List Str} {X : Cx} {W : WX} {ws : Nat → Bool} {p : Bool} {e a b : Expr} {pos pp apos : Pos} {da : DE}
theorem g_sub : GOp cl (rI0 fun i j => .int (i - j)) subD := (pop_I0 fun _ _ => rfl).gs f2I_kept
theorem g_mul : GOp cl (rI CMul fun i j => .int (i * j)) mulD := (pop_I cMul_ok fun _ _ => rfl).gs f2I_kept
theorem g_div : GOp cl (rI CDiv fun i j => .int (i / j)) divD := (pop_I cDiv_ok fun _ _ => rfl).gs f2I_kept
theorem g_mod : GOp cl (rI (fun _ j => 0 < j) fun i j => .int (i % j)) modD := (pop_I cMod_ok fun _ _ => rfl).gs f2I_kept
theorem g_pow : GOp cl (rI CPow fun i j => .int (i ^ j.toNat)) powD := (pop_I cPow_ok fun _ _ => rfl).gs f2I_kept
theorem p_lt : POp cl (rI0 fun i j => .bl (decide (i < j))) ltD := pop_I0 fun _ _ => rfl
theorem p_le : POp cl (rI0 fun i j => .bl (decide (i ≤ j))) leD := pop_I0 fun _ _ => rfl
theorem p_gt : POp cl (rI0 fun i j => .bl (decide (j < i))) gtD := pop_I0 fun _ _ => rfl
theorem p_ge : POp cl (rI0 fun i j => .bl (decide (j ≤ i))) geD := pop_I0 fun _ _ => rfl
theorem g_lt : GOp cl (rI0 fun i j => .bl (decide (i < j))) ltD := p_lt.gs f2I_kept
theorem g_le : GOp cl (rI0 fun i j => .bl (decide (i ≤ j))) leD := p_le.gs f2I_kept
theorem g_gt : GOp cl (rI0 fun i j => .bl (decide (j < i))) gtD := p_gt.gs f2I_kept
theorem g_ge : GOp cl (rI0 fun i j => .bl (decide (j ≤ i))) geD := p_ge.gs f2I_kept
theorem g_eq {K : PySem.W.Frag} : GOp cl (rEqD K) eqD := pop_eq.gs eqD_kept
theorem g_ne {K : PySem.W.Frag} : GOp cl (rNeD K) neD := pop_ne.gs neD_kept
def ixK (x y : D) : Option D := (ixD x y).filter D.kept
theorem g_ix : GOp cl (rIxA cl.K) ixK := pop_ix.g
theorem g_inS : GOp cl (fun x y H Q => ∃ (c : Nat) (z : Str), x = .str ⟨#[c]⟩ ∧ y = .str z ∧ Q (.bl (decide (c ∈ z.cps.toList))) H) inSD := pop_inS.gs inSD_kept
theorem g_notinS : GOp cl (fun x y H Q => ∃ (c : Nat) (z : Str), x = .str ⟨#[c]⟩ ∧ y = .str z ∧ Q (.bl (!decide (c ∈ z.cps.toList))) H) notinSD := pop_notinS.gs notinSD_kept
theorem g_max : GOp cl (fun x y H Q => ∃ i j, [x, y] = [.int i, .int j] ∧ Q (.int (if j > i then j else i)) H) maxD := (pop_2 (fun i j H Q q => ⟨i, j, rfl, q⟩) fun _ _ => rfl).gs f2I_kept
theorem g_min : GOp cl (fun x y H Q => ∃ i j, [x, y] = [.int i, .int j] ∧ Q (.int (if j < i then j else i)) H) minD := (pop_2 (fun i j H Q q => ⟨i, j, rfl, q⟩) fun _ _ => rfl).gs f2I_kept
theorem g_len : GUn cl (rLenA cl.K) lenD := pun_len.g lenD_kept
theorem g_isi {K : PySem.W.Frag} {c : String} (hc : c ∈ ["bool", "int", "str", "list", "tuple", "dict"] := by decide) : GUn cl (fun x H Q => rIsi K [x, .ty c] H Q) (isiD c) := (pun_isi hc).g isiD_kept
theorem g_int : GUn cl rIntA intD := pun_int.g intD_kept
theorem g_all {K : PySem.W.Frag} : GUn cl (fun x H Q => rAll K [x] H Q) allD := pun_all.g allD_kept
theorem g_join {K : PySem.W.Frag} {s : Str} : GUn cl (fun y H Q => ∃ a' p, ∃ ys : List Str, V.str s = .str a' ∧ [y] = [V.ref p] ∧ (SqL K H p (ys.map V.str) ∨ SqT K H p (ys.map V.str)) ∧ (ys.map (·.length)).sum + ys.length * a'.length ≤ 16777216 ∧ Q (.str (Txt.join a' ys)) H) (joinD s) := pun_join.g joinD_kept
theorem o_isN {j : Nat} {cp : Pos} : B1 X (.Compare a [.Is] [.Constant .none j cp] pos) a (fun x H Q => Q (.bl (decide (x = .non))) H) := fun ta ha => ⟨fun pins s σ H Q I hw => (pe_cmp (pc_isN ha) (by first | exact nobehind _ (by decide) (by decide) | rfl)).run pins s σ H Q I hw⟩
theorem o_notN {j : Nat} {cp : Pos} : B1 X (.Compare a [.IsNot] [.Constant .none j cp] pos) a (fun x H Q => Q (.bl (!decide (x = .non))) H) := fun ta ha => ⟨fun pins s σ H Q I hw => (pe_cmp (pc_notN ha) (by first | exact nobehind _ (by decide) (by decide) | rfl)).run pins s σ H Q I hw⟩
theorem g_isN : GUn cl (fun x H Q => Q (.bl (decide (x = .non))) H) isND := pun_isN.g isND_kept
theorem g_notN : GUn cl (fun x H Q => Q (.bl (!decide (x = .non))) H) notND := pun_notN.g notND_kept
theorem o_neg : B1 X (.UnaryOp .USub a pos) a (rU fun i => .int (-i)) := fun _ ha => pe_un un_neg ha
def negD : D → Option D | .v (.int i) => some (.int (-i)) | _ => none
theorem g_neg : GUn cl (rU fun i => .int (-i)) negD := by
  intro p A L B H ts ws δ σ x u f1 z Q j h1 e k
  unfold negD at e
  split at e
  · cases e
    obtain ⟨rfl, rfl, _⟩ := h1.leafv
    exact ⟨_, rfl, k _ A H (Nx.refl j.ba) (j.leaf rfl)⟩
  · cases e
theorem k_globE {x : Str} {v : V} {pa : Nat} (h : ∃ u, X.mg x = some u ∧ RelV v u) (hs : sc v = true := by rfl) (hg : Gl X x := by rfl) (hd : (x == ("__debug__" : Str)) = false := by decide) : Rk cl X (.Name x pos) (pC v) := by
  obtain ⟨u, h1, h2⟩ := h
  exact k_glob h1 h2 hs hg hd
theorem q_app {i : Nat} {x : Str} (hv : PE X (.Name x pp) (tVar i)) (h1 : starEach [e] X.env = (false, eval e X.env) :: starEach [] X.env := by rfl) : True := trivial
end
end Fs
/-! F15 -/
/-! Displays of dicts; the place of a sign in a text. -/
namespace Fs
open PySem PySem.Spec PyProof.Rows L2
section
variable {cl : Ec} {xf : Nat → List Str} {W : WX} {ws : Nat → Bool} {A A' L B : Addr → Prop} {H H' : Hp} {δ δ' : Sl} {σ σ' : L2.St} {p q b : Bool} {te ta tb tc : TE} {tA : TA} {tt tu : TT} {t u : TS} {ts : List D} {vs : List V} {X : Cx} {e a : Expr} {pos pp apos cp : Pos}
/-- a new thing in hand is filled with the other temporaries -/
theorem Jt.fill {k k' : Kd} {a : Addr} {ws : List V} {o' : HO} (j : Jt p cl A L B H (.n k .own [] :: ts) (.ref a :: ws) δ σ) (hs' : Shape cl k' ws o') : Nx A B H A (upd H a o') ∧ Jt p cl A L B (upd H a o') [.n k' .own ts] [.ref a] δ σ := by
  obtain ⟨f, g, h1, h2, h3, h4, h5⟩ := j.ex
  simp only [Rps, Rp] at h1
  obtain ⟨v0, vs', f1, f2, e, rfl, ⟨a', o, us, e', ho, hs, hA, fp', rfl, hr⟩, h6⟩ := h1
  cases e
  cases e'
  obtain ⟨_, rfl⟩ := hr
  have nd := List.nodup_append.mp h3
  have nd2 := List.nodup_append.mp nd.1
  have nB : ¬ B a := h4 a (by simp)
  have nf : ∀ c ∈ f2, c ≠ a := fun c hc e => by subst e; exact nd2.2.2 c (by simp) c hc rfl
  have ng : ∀ c ∈ g, c ≠ a := fun c hc e => by subst e; exact nd.2.2 c (by simp) c hc rfl
  have st : ∀ c u, H c = some u → ¬ A c → upd H a o' c = some u ∧ ¬ A c := fun c u h n => ⟨by rw [upd_ne (show c ≠ a from fun e => n (by rw [e]; exact hA))]; exact h, n⟩
  refine ⟨⟨fun c h => .inl h, fun c u h n => (st c u h n).1, fun c h => ⟨upd_ne (show c ≠ a from fun e => nB (by rw [← e]; exact h)), j.ba c h⟩, fun c h => ?_⟩, ⟨⟨a :: f2, g, ?_, h2.step st (fun c hc => ⟨upd_ne (ng c hc), (h2.inA c hc).1⟩) (fun c hc => ⟨upd_ne (show c ≠ a from fun e => nB (by rw [← e]; exact j.lb c hc)), hc⟩), ?_, ?_, h5⟩, j.lb, j.ba, fun c h => ?_⟩⟩
  · by_cases e : c = a
    · subst e; rw [upd_same] at h; cases h
    · rw [upd_ne e] at h; exact h
  · simp only [Rps, Rp]
    exact ⟨.ref a, [], a :: f2, [], rfl, by simp, ⟨a, o', ws, rfl, upd_same, hs', hA, f2, rfl, h6.step st (fun c hc => ⟨upd_ne (nf c hc), (h6.inA c hc).1⟩) (by simp)⟩, rfl, rfl⟩
  · simpa using h3
  · intro c hc
    exact h4 c (by simpa using hc)
  · by_cases e : c = a
    · subst e; rw [upd_same]; simp
    · rw [upd_ne e]; exact j.ad c h
def keyD : D → Option Key
  | .v (.int i) => some (.inl i)
  | .v (.str s) => some (.inr s)
  | _ => none
theorem keyD_ok {d : D} {v : V} {fp : List Addr} {k : Key} (h : Rp cl A L H b d v fp) (e : keyD d = some k) : v = kV k := by
  unfold keyD at e
  split at e
  · cases e; exact h.leafv.1
  · cases e; exact h.leafv.1
  · cases e
/-- the pairs of a display -/
def dPairs : List (PP × DE) → Sl → Out (List Key × List D)
  | [], δ => .ok ([], []) δ
  | (k, v) :: r, δ => match (k δ).bind keyD with
    | some kk => (v δ).bind fun x δ1 => (dPairs r δ1).bind fun s δ2 => .ok (kk :: s.1, x :: s.2) δ2
    | none => .bad
/-- what the readings of pairs do -/
structure SPr (cl : Ec) (xf : Nat → List Str) (W : WX) (p : Bool) (trs : List (TE × TE)) (ps : List (PP × DE)) : Prop where
  pure : p = true → ∀ δ, (dPairs ps δ).same δ
  run : ∀ A L B H δ σ Q, Jt p cl A L B H [] [] δ σ → Post cl xf W p (dPairs ps δ) (fun s => s.2) A L B H σ (fun s vs H' => s.1.length = vs.length → Q ((s.1.zip vs).map fun kv => (kV kv.1, kv.2)) H') → tPairs trs σ H Q
theorem spr_nil : SPr cl xf W p [] [] := ⟨fun _ δ => rfl, fun A L B H δ σ Q j k => k [] A H (Nx.refl j.ba) j rfl⟩
theorem spr_cons {k : PP} {v : DE} {trs : List (TE × TE)} {ps : List (PP × DE)} (hk : SP cl ta k) (hv : SE cl xf W p te v) (hr : SPr cl xf W p trs ps) : SPr cl xf W p ((ta, te) :: trs) ((k, v) :: ps) := by
  refine ⟨fun hp δ => ?_, fun A L B H δ σ Q j kk => ?_⟩
  · unfold dPairs
    split
    · exact Out.same_bind (hv.pure hp δ) fun x => Out.same_bind (hr.pure hp δ) fun s => rfl
    · trivial
  · unfold dPairs at kk
    split at kk
    · rename_i key ek
      obtain ⟨d, e1, e2⟩ := Option.bind_eq_some_iff.mp ek
      obtain ⟨g, hg, _, _⟩ := j.drop0
      refine hk A L H δ σ g d _ hg e1 fun w fp h1 _ => ?_
      have hw := keyD_ok h1 e2
      subst hw
      refine hv.run A L B H δ σ _ j (Post.bind (γ := D) kk fun x δ1 us A1 H1 e3 n1 j1 k1 y ey => ?_)
      subst ey
      obtain ⟨B', j2, hb, hj⟩ := j1.seq
      refine hr.run A1 L B' H1 δ1 σ _ j2 ?_
      have k2 := Post.step (A' := A1) (H' := H1) (Post.bind (γ := D) (den0 := fun s => x :: s.2) (Q0 := fun s us H2 => ∀ us', us = y :: us' → s.1.length = us'.length → Q ((kV key, y) :: ((s.1.zip us').map fun kv => (kV kv.1, kv.2))) H2) k1 fun s δ2 us A2 H2 e4 n2 j3 k3 us' eu hl => ?_) n1
      · exact Post.seq (ts := [x]) (ws := [y]) k2 (same_of hr.pure rfl) j1.lb hb hj (fun a => rfl) (fun a us H2 q hl => q us rfl hl)
      · subst eu
        exact k3 (y :: us') A2 H2 n2 j3 (by simp [hl])
    · exact kk.elim
theorem mergeK_nodup : ∀ (kvs : List (Key × V)) (acc : List (Key × V)), ((acc ++ kvs).map (·.1)).Nodup → mergeK acc kvs = acc ++ kvs
  | [], acc, _ => by simp [mergeK]
  | kv :: kvs, acc, h => by
    have hn : valV acc kv.1 = none := by
      cases hv : valV acc kv.1 with
      | none => rfl
      | some v =>
        exfalso
        have h2 : (acc.any fun x => decide (x.1 = kv.1)) = true := by rw [valV_any, hv]; rfl
        obtain ⟨x, hx, hx2⟩ := List.any_eq_true.mp h2
        have hx3 := of_decide_eq_true hx2
        rw [List.map_append, List.map_cons] at h
        have h3 := (List.nodup_append.mp h).2.2 x.1 (List.mem_map.mpr ⟨x, hx, rfl⟩) kv.1 (List.mem_cons_self)
        exact h3 hx3
    show mergeK (putK acc kv.1 kv.2) kvs = acc ++ kv :: kvs
    rw [putK_new _ hn]
    have h4 : ((acc ++ [(kv.1, kv.2)]) ++ kvs) = acc ++ kv :: kvs := by simp
    rw [mergeK_nodup kvs _ (by rw [h4]; exact h), h4]
def dDisp (ps : List (PP × DE)) : DE := fun δ => (dPairs ps δ).bind fun s δ1 => if s.1.Nodup ∧ s.1.length ≤ 15 then .ok (.n (.dct s.1) .own s.2) δ1 else .bad
theorem dPairs_len : ∀ {ps : List (PP × DE)} {δ : Sl} {s : List Key × List D} {δ1 : Sl}, dPairs ps δ = .ok s δ1 → s.1.length = s.2.length
  | [], δ, s, δ1, e => by cases e; rfl
  | (k, v) :: r, δ, s, δ1, e => by
    unfold dPairs at e
    split at e
    · cases e1 : v δ with
      | bad => rw [e1] at e; cases e
      | exc c xs s => rw [e1] at e; cases e
      | ok x s1 =>
        rw [e1, bind_ok] at e
        cases e2 : dPairs r s1 with
        | bad => rw [e2] at e; cases e
        | exc c xs s => rw [e2] at e; cases e
        | ok y s2 =>
          rw [e2, bind_ok] at e
          cases e
          simp [dPairs_len e2]
    · cases e
theorem se_disp {trs : List (TE × TE)} {ps : List (PP × DE)} (h : SPr cl xf W p trs ps) : SE cl xf W p (tDisp trs) (dDisp ps) := by
  refine ⟨fun hp δ => Out.same_bind (h.pure hp δ) fun s => ?_, fun A L B H δ σ Q j k p0 hp0 => ?_⟩
  · split <;> first | rfl | trivial
  · obtain ⟨n1, j1⟩ := j.alloc (k := .dct []) (o := .dK []) hp0 ⟨rfl, rfl⟩
    obtain ⟨B', j2, hb, hj⟩ := j1.seq
    refine h.run _ L B' _ δ σ _ j2 ?_
    have k2 := Post.step (Post.bind (γ := D) (den0 := fun (s : List Key × List D) => .n (.dct []) .own [] :: s.2) (Q0 := fun s us H2 => ∀ us', us = .ref p0 :: us' → s.1.length = us'.length → H2 p0 = some (.dK []) ∧ ∃ kvs : List (Key × V), ((s.1.zip us').map fun kv => (kV kv.1, kv.2)) = kvs.map (fun kv => (kV kv.1, kv.2)) ∧ kvs.length ≤ 15 ∧ Q (.ref p0) (upd H2 p0 (.dK (mergeK [] kvs)))) k fun s δ2 us A2 H2 e4 n2 j3 k3 us' eu hl => ?_) n1
    · exact Post.seq (ts := [.n (.dct []) .own []]) (ws := [.ref p0]) k2 (same_of h.pure rfl) j1.lb hb hj (fun a => rfl) (fun a us H2 q hl => q us rfl hl)
    · subst eu
      split at k3
      · rename_i hk
        have hH : H2 p0 = some (.dK []) := by
          obtain ⟨f, g, h1, _⟩ := j3.ex
          simp only [Rps, Rp] at h1
          obtain ⟨v0, vs', f1, f2, e, rfl, ⟨a', o, us, e', ho, hs, _⟩, _⟩ := h1
          cases e
          cases e'
          obtain ⟨_, hs⟩ := hs
          rw [ho, hs]
          simp
        refine ⟨hH, s.1.zip us', rfl, ?_, ?_⟩
        · rw [List.length_zip, ← hl, Nat.min_self]; exact hk.2
        · have hm : mergeK [] (s.1.zip us') = s.1.zip us' := by
            have := mergeK_nodup (s.1.zip us') [] (by
              rw [List.nil_append, List.map_fst_zip (by omega)]
              exact hk.1)
            simpa using this
          rw [hm]
          obtain ⟨n3, j4⟩ := j3.fill (k' := .dct s.1) (o' := .dK (s.1.zip us')) ⟨hl, rfl⟩
          exact k3 [.ref p0] A2 _ (n2.trans n3) j4 _ rfl
      · exact k3.elim
def dDict0 : DE := fun δ => .ok (.n (.dct []) .own []) δ
theorem d_dict0 : Rd cl xf X W p (.Dict [] [] pos) dDict0 := ⟨_, pe_dnewK, ⟨fun _ δ => rfl, fun A L B H δ σ Q j k p0 hp0 => by
  obtain ⟨n1, j1⟩ := j.alloc (k := .dct []) (o := .dK []) hp0 ⟨rfl, rfl⟩
  exact k [.ref p0] _ _ n1 j1 _ rfl⟩⟩
def Rpr (cl : Ec) (xf : Nat → List Str) (X : Cx) (W : WX) (p : Bool) (pos : Pos) (ks : List (Option Expr)) (vs : List Expr) (ps : List (PP × DE)) : Prop := ∃ trs, PPs X pos ks vs trs ∧ SPr cl xf W p trs ps
theorem pr_nil : Rpr cl xf X W p pos [] [] [] := ⟨_, pps_nil, spr_nil⟩
theorem pr_cons {k v : Expr} {ks : List (Option Expr)} {es : List Expr} {kp : PP} {dv : DE} {ps : List (PP × DE)} (hk : Rk cl X k kp) (hv : Rd cl xf X W p v dv) (hr : Rpr cl xf X W p pos ks es ps) : Rpr cl xf X W p pos (some k :: ks) (v :: es) ((kp, dv) :: ps) := by
  obtain ⟨ta, h1, h2⟩ := hk
  obtain ⟨tb, h3, h4⟩ := hv
  obtain ⟨trs, h5, h6⟩ := hr
  exact ⟨_, pps_cons h1 h3 h5, spr_cons h2 h4 h6⟩
theorem d_disp {ks : List (Option Expr)} {es : List Expr} {ps : List (PP × DE)} (h : Rpr cl xf X W p pos ks es ps) (hall : ks.all (·.isSome) = true := by rfl) (hl : ks.length = es.length := by rfl) (h0 : ks ≠ [] := by exact fun z => by cases z) (h15 : ks.length ≤ 15 := by decide) : Rd cl xf X W p (.Dict ks es pos) (dDisp ps) := by
  obtain ⟨trs, h1, h2⟩ := h
  exact ⟨_, pe_disp h1 hall hl h0 h15, se_disp h2⟩
/-! "..".index(x) -/
def indexSD (s : Str) : D → Option D
  | .v (.str b) => (match Builtin.Str.occurrences s b 0 s.length 1 with | i :: _ => some (.int (i : Nat)) | [] => none)
  | _ => none
theorem o_indexS {s : Str} {j : Nat} (hs : starEach [a] X.env = [(false, eval a X.env)] := by rfl) (hbase : attributeBase (.Constant (.str s) j cp) "index" X.env (eval (.Constant (.str s) j cp) X.env) = eval (.Constant (.str s) j cp) X.env := by rfl) (hline : (apos.endLine == pos.line) = true := by rfl) :
    B1 X (.Call (.Attribute (.Constant (.str s) j cp) "index" apos) [a] [] pos) a (fun y H Q => ∃ a' b' i rest, V.str s = .str a' ∧ [y] = [V.str b'] ∧ Builtin.Str.occurrences a' b' 0 a'.length 1 = i :: rest ∧ Q (.int (i : Nat)) H) := fun ta ha => by
  have h := pe_m1 (X := X) (o := .Constant (.str s) j cp) (to := tC (.str s)) F.slot_str_index F.type_str_index mt_sindex pe_str ha hs hbase hline
  exact ⟨fun pins s' σ H Q I hw => h.run pins s' σ H Q I ⟨⟨s, rfl⟩, hw⟩⟩
theorem g_indexS {s : Str} : GUn cl (fun y H Q => ∃ a' b' i rest, V.str s = .str a' ∧ [y] = [V.str b'] ∧ Builtin.Str.occurrences a' b' 0 a'.length 1 = i :: rest ∧ Q (.int (i : Nat)) H) (indexSD s) := by
  intro p A L B H ts ws δ σ x u f1 z Q j h1 e k
  unfold indexSD at e
  split at e
  · split at e
    · rename_i hb
      cases e
      obtain ⟨rfl, rfl, _⟩ := h1.leafv
      exact ⟨s, _, _, _, rfl, rfl, hb, k _ A H (Nx.refl j.ba) (j.leaf rfl)⟩
    · cases e
  · cases e
theorem t_isn {de : DE} (h : Rd cl xf X W p e de) (he : ∀ whole, isTrue e X.env whole = (do let v ← whole; standAt e.pos; holding [v] (truthy v)) := by intro _; rfl) : Rt cl xf X W p e (dtV de) := t_v h he
theorem ioOk {io : List Bool} {ws : Nat → Bool} (h : (List.range io.length).all (fun i => !(io.getD i false) || !ws i) = true) : ∀ (i : Nat), io[i]? = some true → ws i = false := fun i hi => by
  have hl : i < io.length := (List.getElem?_eq_some_iff.mp hi).1
  have h2 := List.all_eq_true.mp h i (List.mem_range.mpr hl)
  have h3 : io.getD i false = true := by rw [List.getD_eq_getElem?_getD, hi]; rfl
  rw [h3] at h2
  simpa using h2
end
end Fs
/-! F16 -/
namespace Fs
open PySem PySem.Spec PyProof.Rows L2
theorem walk_E2 {l : PySem.W.OpenLaw} {n k : Nat} {q : Program} {loose : List Str} {XP : (Str → Option Value) → Heap → Prop} {YP : World → Heap → Prop} {d : DefRec} {CX : World → CXT} {x : Str}
    (hn : l.most = some n) (hn2 : n ≤ sizeLine) (hdf : d.params.defaults = []) (hr : Room k callerA)
    (F : ∀ (w : World) (mg : Str → Option Value) (fa : Addr) (h : Heap), YP w h → h.Ns mainGlobals mg → mg d.name = some (.ref fa) →
      ∃ (K : PySem.W.Frag) (fd : FuncData) (sp : Sp), K.In h ∧ (∀ (s : Shared) (u : Value), BindsTo s fd ⟨[u], []⟩ [(x, u)]) ∧
        (∀ (H : Hp) (a : Addr) (ns : List Int), ns.length ≤ n → Only H → SqL K H a (ns.map V.int) → sp [.ref a] H (fun v _ => v = .bl true) fun _ _ _ => False) ∧
        ∀ base : Heap, K.In base → base.Ns mainGlobals mg → FnOk l.prog w K mg base (CX w) k fa fd [x] sp)
    (hCX : ∀ (w : World) (H : Hp) (s : Shared) (e : Value) (s' : Shared), CX w [] H s (fun _ _ _ => False) e s' → False) :
    PySem.W.WalkO q loose XP YP l.row.toRowW d [] (fun f vs => PySem.call f vs) := by
  refine Att.attach_call hn hdf fun w s₀ s₁ mg mb fa o pm cd doc a vs ns G Y ho hd hcd hmg hobj hints hlen hg => ?_
  obtain ⟨K, fd, sp, KX, hb, hsp, hF⟩ := F w mg fa _ Y G.T.g hmg
  exact law_call KX G.T.g G.T.b G.T.builtins G.T.nolimit hg hobj hints (Nat.le_trans hlen hn2) hr hF hb (fun H hO hS => hsp H a ns hlen hO hS) fun H e s' => hCX w H s₁ e s'
end Fs
/-! EV -/
/-! Evaluation by simp: each combinator at a state that is written as a list. -/
namespace Fs
open PySem PySem.Spec PyProof.Rows L2
section
variable {α β : Type} {x : Option D} {δ : Sl}
@[simp] theorem bind_ok' {a : α} {s : Sl} {f : α → Sl → Out β} : (Out.ok a s).bind f = f a s := rfl
@[simp] theorem bind_exc' {c : Nat} {xs : List D} {s : Sl} {f : α → Sl → Out β} : (Out.exc c xs s).bind f = .exc c xs s := rfl
@[simp] theorem bind_bad' {f : α → Sl → Out β} : (Out.bad : Out α).bind f = .bad := rfl
@[simp] theorem ofO_some {a : α} {s : Sl} : Out.ofO (some a) s = .ok a s := rfl
@[simp] theorem ofO_none {s : Sl} : Out.ofO (none : Option α) s = .bad := rfl
def seqK (b : DS) : Flow → Sl → Out Flow := fun f δ1 => match f with | .nx => b δ1 | f => .ok f δ1
@[simp] theorem dsSeq_c {a b : DS} : dsSeq a b (x :: δ) = (a (x :: δ)).bind (seqK b) := rfl
@[simp] theorem seqK_nx {b : DS} {s : Sl} : seqK b .nx s = b s := rfl
@[simp] theorem seqK_rt {b : DS} {d : D} {s : Sl} : seqK b (.rt d) s = .ok (.rt d) s := rfl
@[simp] theorem seqK_bk {b : DS} {s : Sl} : seqK b .bk s = .ok .bk s := rfl
@[simp] theorem seqK_ct {b : DS} {s : Sl} : seqK b .ct s = .ok .ct s := rfl
def ifK (a b : DS) : Bool → Sl → Out Flow := fun x δ1 => match x with | true => a δ1 | false => b δ1
@[simp] theorem dsIf_c {c : DT} {a b : DS} : dsIf c a b (x :: δ) = (c (x :: δ)).bind (ifK a b) := rfl
@[simp] theorem ifK_t {a b : DS} {s : Sl} : ifK a b true s = a s := rfl
@[simp] theorem ifK_f {a b : DS} {s : Sl} : ifK a b false s = b s := rfl
@[simp] theorem dsNext_c : dsNext (x :: δ) = .ok .nx (x :: δ) := rfl
@[simp] theorem dsRetN_c : dsRetN (x :: δ) = .ok (.rt .non) (x :: δ) := rfl
@[simp] theorem dsBrk_c : dsBrk (x :: δ) = .ok .bk (x :: δ) := rfl
@[simp] theorem dsCnt_c : dsCnt (x :: δ) = .ok .ct (x :: δ) := rfl
def asgK (tg : D → Sl → Option Sl) : D → Sl → Out Flow := fun d δ1 => match tg d δ1 with | some δ2 => .ok .nx δ2 | none => .bad
@[simp] theorem dsAsg_c {e : DE} {tg : D → Sl → Option Sl} : dsAsg e tg (x :: δ) = (e (x :: δ)).bind (asgK tg) := rfl
@[simp] theorem asgK_n {i : Nat} {d : D} {s : Sl} : asgK (tgN i) d s = .ok .nx (s.set i (some d)) := rfl
def retK : D → Sl → Out Flow := fun d δ1 => .ok (.rt d) δ1
@[simp] theorem dsRet_c {e : DE} : dsRet e (x :: δ) = (e (x :: δ)).bind retK := rfl
@[simp] theorem retK_c {d : D} {s : Sl} : retK d s = .ok (.rt d) s := rfl
def dropK : D → Sl → Out Flow := fun _ δ1 => .ok .nx δ1
@[simp] theorem dsDrop_c {e : DE} : dsDrop e (x :: δ) = (e (x :: δ)).bind dropK := rfl
@[simp] theorem dropK_c {d : D} {s : Sl} : dropK d s = .ok .nx s := rfl
def forK (tg : D → Sl → Option Sl) (body : DS) : List D → Sl → Out Flow := fun its δ1 => loop tg body its δ1
@[simp] theorem dsFor_c {di : DA} {tg : D → Sl → Option Sl} {b : DS} : dsFor di tg b (x :: δ) = (di (x :: δ)).bind (forK tg b) := rfl
@[simp] theorem forK_c {tg : D → Sl → Option Sl} {b : DS} {its : List D} {s : Sl} : forK tg b its s = loop tg b its s := rfl
def loopK (tg : D → Sl → Option Sl) (body : DS) (xs : List D) : Flow → Sl → Out Flow := fun f δ2 => match f with
  | .nx => loop tg body xs δ2
  | .ct => loop tg body xs δ2
  | .bk => .ok .nx δ2
  | .rt d => .ok (.rt d) δ2
theorem loop_nil {tg : D → Sl → Option Sl} {b : DS} {s : Sl} : loop tg b [] s = .ok .nx s := rfl
theorem loop_cons {tg : D → Sl → Option Sl} {b : DS} {d : D} {ds : List D} {s s1 : Sl} (h : tg d s = some s1) : loop tg b (d :: ds) s = (b s1).bind (loopK tg b ds) := by
  unfold loop; rw [h]; rfl
theorem loop_consN {i : Nat} {b : DS} {d : D} {ds : List D} {s : Sl} : loop (tgN i) b (d :: ds) s = (b (s.set i (some d))).bind (loopK (tgN i) b ds) := rfl
@[simp] theorem loopK_nx {tg : D → Sl → Option Sl} {b : DS} {ds : List D} {s : Sl} : loopK tg b ds .nx s = loop tg b ds s := rfl
@[simp] theorem loopK_ct {tg : D → Sl → Option Sl} {b : DS} {ds : List D} {s : Sl} : loopK tg b ds .ct s = loop tg b ds s := rfl
@[simp] theorem loopK_bk {tg : D → Sl → Option Sl} {b : DS} {ds : List D} {s : Sl} : loopK tg b ds .bk s = .ok .nx s := rfl
@[simp] theorem loopK_rt {tg : D → Sl → Option Sl} {b : DS} {ds : List D} {d : D} {s : Sl} : loopK tg b ds (.rt d) s = .ok (.rt d) s := rfl
/-! tests -/
def dtVK : D → Sl → Out Bool := fun x δ1 => match x with | .v (.bl c) => .ok c δ1 | _ => .bad
@[simp] theorem dtV_c {a : DE} : dtV a (x :: δ) = (a (x :: δ)).bind dtVK := rfl
@[simp] theorem dtVK_c {c : Bool} {s : Sl} : dtVK (.v (.bl c)) s = .ok c s := rfl
def dtAndK (b : DT) : Bool → Sl → Out Bool := fun x δ1 => match x with | true => b δ1 | false => .ok false δ1
def dtOrK (b : DT) : Bool → Sl → Out Bool := fun x δ1 => match x with | true => .ok true δ1 | false => b δ1
def dtNotK : Bool → Sl → Out Bool := fun x δ1 => .ok (!x) δ1
@[simp] theorem dtAnd_c {a b : DT} : dtAnd a b (x :: δ) = (a (x :: δ)).bind (dtAndK b) := rfl
@[simp] theorem dtOr_c {a b : DT} : dtOr a b (x :: δ) = (a (x :: δ)).bind (dtOrK b) := rfl
@[simp] theorem dtNot_c {a : DT} : dtNot a (x :: δ) = (a (x :: δ)).bind dtNotK := rfl
@[simp] theorem dtAndK_t {b : DT} {s : Sl} : dtAndK b true s = b s := rfl
@[simp] theorem dtAndK_f {b : DT} {s : Sl} : dtAndK b false s = .ok false s := rfl
@[simp] theorem dtOrK_t {b : DT} {s : Sl} : dtOrK b true s = .ok true s := rfl
@[simp] theorem dtOrK_f {b : DT} {s : Sl} : dtOrK b false s = b s := rfl
@[simp] theorem dtNotK_c {b : Bool} {s : Sl} : dtNotK b s = .ok (!b) s := rfl
@[simp] theorem dtYes_c : dtYes (x :: δ) = .ok true (x :: δ) := rfl
/-! peeks -/
@[simp] theorem pVar_z {d : D} : pVar 0 (some d :: δ) = some d := rfl
@[simp] theorem pVar_s {i : Nat} : pVar (i + 1) (x :: δ) = pVar i δ := rfl
@[simp] theorem pC_c {v : V} {s : Sl} : pC v s = some (.v v) := rfl
def pOp2 (f : D → D → Option D) : Option D → Option D → Option D
  | some a, some b => f a b
  | _, _ => none
@[simp] theorem pOp2_c {f : D → D → Option D} {a b : D} : pOp2 f (some a) (some b) = f a b := rfl
@[simp] theorem pOp_c {f : D → D → Option D} {a b : PP} : pOp f a b (x :: δ) = pOp2 f (a (x :: δ)) (b (x :: δ)) := by unfold pOp pOp2; cases a (x :: δ) <;> cases b (x :: δ) <;> rfl
/-! values -/
@[simp] theorem filt_v {v : V} : Option.filter D.kept (some (.v v)) = some (.v v) := rfl
@[simp] theorem filt_s {ns : List Int} : Option.filter D.kept (some (.s ns)) = some (.s ns) := rfl
@[simp] theorem filt_n {k : Kd} {ds : List D} : Option.filter D.kept (some (.n k .shr ds)) = some (.n k .shr ds) := rfl
@[simp] theorem dP_c {a : PP} : dP a (x :: δ) = Out.ofO (Option.filter D.kept (a (x :: δ))) (x :: δ) := rfl
@[simp] theorem dPP_c {f : D → D → Option D} {a b : PP} : dPP f a b (x :: δ) = Out.ofO (pOp2 f (a (x :: δ)) (b (x :: δ))) (x :: δ) := by unfold dPP pOp2; cases a (x :: δ) <;> cases b (x :: δ) <;> rfl
@[simp] theorem dP1_c {f : D → Option D} {a : PP} : dP1 f a (x :: δ) = Out.ofO ((a (x :: δ)).bind f) (x :: δ) := rfl
def k2 (f : D → D → Option D) (a : Option D) : D → Sl → Out D := fun y δ2 => Out.ofO (pOp2 f a (some y)) δ2
@[simp] theorem k2_c {f : D → D → Option D} {a : Option D} {y : D} {s : Sl} : k2 f a y s = Out.ofO (pOp2 f a (some y)) s := rfl
theorem dPD_c {f : D → D → Option D} {a : PP} {b : DE} {d : D} (h : a (x :: δ) = some d) : dPD f a b (x :: δ) = (b (x :: δ)).bind (k2 f (some d)) := by unfold dPD; rw [h]; rfl
@[simp] theorem dPD_v {f : D → D → Option D} {i : Nat} {b : DE} : dPD f (pVar i) b (x :: δ) = if ((x :: δ)[i]?).join.isSome then (b (x :: δ)).bind (k2 f ((x :: δ)[i]?).join) else .bad := by
  unfold dPD pVar
  cases ((x :: δ)[i]?).join <;> rfl
@[simp] theorem dPD_k {f : D → D → Option D} {v : V} {b : DE} : dPD f (pC v) b (x :: δ) = (b (x :: δ)).bind (k2 f (some (.v v))) := rfl
def k1 (f : D → D → Option D) (b : PP) : D → Sl → Out D := fun x δ1 => Out.ofO ((b δ1).bind fun y => f x y) δ1
@[simp] theorem dDP_c {f : D → D → Option D} {a : DE} {b : PP} : dDP f a b (x :: δ) = (a (x :: δ)).bind (k1 f b) := rfl
@[simp] theorem k1_c {f : D → D → Option D} {b : PP} {d : D} : k1 f b d (x :: δ) = Out.ofO (pOp2 f (some d) (b (x :: δ))) (x :: δ) := by unfold k1 pOp2; cases b (x :: δ) <;> rfl
def kd (f : D → D → Option D) (b : DE) : D → Sl → Out D := fun x δ1 => (b δ1).bind fun y δ2 => Out.ofO (f x y) δ2
theorem bind_assoc {γ : Type} {o : Out α} {f : α → Sl → Out β} {g : β → Sl → Out γ} : (o.bind f).bind g = o.bind fun a s => (f a s).bind g := by cases o <;> rfl
@[simp] theorem d2_c {f : D → D → Option D} {a b : DE} : d2 f a b (x :: δ) = (a (x :: δ)).bind (kd f b) := by
  unfold d2 both kd
  cases a (x :: δ) with
  | ok d s => simp only [bind_ok']; cases b s <;> rfl
  | exc c xs s => rfl
  | bad => rfl
@[simp] theorem kd_c {f : D → D → Option D} {b : DE} {d : D} : kd f b d (x :: δ) = (b (x :: δ)).bind (k2 f (some d)) := rfl
def kf (f : D → Option D) : D → Sl → Out D := fun x δ2 => Out.ofO (f x) δ2
@[simp] theorem d1_c {f : D → Option D} {a : DE} : d1 f a (x :: δ) = (a (x :: δ)).bind (kf f) := rfl
@[simp] theorem d1S_c {f : D → Option D} {a : DE} : d1S f a (x :: δ) = (a (x :: δ)).bind (kf f) := rfl
@[simp] theorem kf_c {f : D → Option D} {d : D} {s : Sl} : kf f d s = Out.ofO (f d) s := rfl
def andK (b : DE) : D → Sl → Out D := fun x δ1 => match x with | .v (.bl true) => b δ1 | .v (.bl false) => .ok (.bl false) δ1 | _ => .bad
def orK (b : DE) : D → Sl → Out D := fun x δ1 => match x with | .v (.bl true) => .ok (.bl true) δ1 | .v (.bl false) => b δ1 | _ => .bad
@[simp] theorem dAnd_c {a b : DE} : dAnd a b (x :: δ) = (a (x :: δ)).bind (andK b) := rfl
@[simp] theorem dOr_c {a b : DE} : dOr a b (x :: δ) = (a (x :: δ)).bind (orK b) := rfl
@[simp] theorem andK_b {b : DE} {c : Bool} {s : Sl} : andK b (.v (.bl c)) s = if c then b s else .ok (.bl false) s := by cases c <;> rfl
@[simp] theorem orK_b {b : DE} {c : Bool} {s : Sl} : orK b (.v (.bl c)) s = if c then .ok (.bl true) s else b s := by cases c <;> rfl
@[simp] theorem notD_b {c : Bool} : notD (.v (.bl c)) = some (.bl !c) := rfl
def ifeK (a b : DE) : Bool → Sl → Out D := fun x δ1 => match x with | true => a δ1 | false => b δ1
@[simp] theorem dIf_c {t : DT} {a b : DE} : dIf t a b (x :: δ) = (t (x :: δ)).bind (ifeK a b) := rfl
@[simp] theorem ifeK_t {a b : DE} {s : Sl} : ifeK a b true s = a s := rfl
@[simp] theorem ifeK_f {a b : DE} {s : Sl} : ifeK a b false s = b s := rfl
def chK2 (g : D → D → Option D) (y : D) : D → Sl → Out D := fun z δ2 => Out.ofO ((g y z).filter D.kept) δ2
def chK (f g : D → D → Option D) (c : DE) : D × D → Sl → Out D := fun xy δ1 => match f xy.1 xy.2 with
  | some (.v (.bl true)) => (c δ1).bind (chK2 g xy.2)
  | some (.v (.bl false)) => .ok (.bl false) δ1
  | _ => .bad
def pairK (b : DE) : D → Sl → Out (D × D) := fun x δ1 => (b δ1).bind fun y δ2 => .ok (x, y) δ2
def pairK2 (x : D) : D → Sl → Out (D × D) := fun y δ2 => .ok (x, y) δ2
@[simp] theorem dCh_c {f g : D → D → Option D} {a b c : DE} : dCh f g a b c (x :: δ) = ((a (x :: δ)).bind (pairK b)).bind (chK f g c) := rfl
@[simp] theorem pairK_c {b : DE} {d : D} : pairK b d (x :: δ) = (b (x :: δ)).bind (pairK2 d) := rfl
@[simp] theorem pairK2_c {a b : D} {s : Sl} : pairK2 a b s = .ok (a, b) s := rfl
theorem chK_c {f g : D → D → Option D} {c : DE} {a b : D} {k : Bool} (h : f a b = some (.v (.bl k))) : chK f g c (a, b) (x :: δ) = if k then (c (x :: δ)).bind (chK2 g b) else .ok (.bl false) (x :: δ) := by
  unfold chK
  simp only [h]
  cases k <;> rfl
@[simp] theorem chK_le {c : DE} {i j : Int} : chK leD leD c (.v (.int i), .v (.int j)) (x :: δ) = if decide (i ≤ j) then (c (x :: δ)).bind (chK2 leD (.v (.int j))) else .ok (.bl false) (x :: δ) := chK_c rfl
@[simp] theorem chK2_c {g : D → D → Option D} {y z : D} {s : Sl} : chK2 g y z s = Out.ofO ((g y z).filter D.kept) s := rfl
/-! lists of values -/
@[simp] theorem daNil_c {s : Sl} : daNil s = .ok [] s := rfl
def consK2 (d : D) : List D → Sl → Out (List D) := fun xs δ2 => .ok (d :: xs) δ2
def consK (r : DA) : D → Sl → Out (List D) := fun x δ1 => (r δ1).bind (consK2 x)
@[simp] theorem daCons_c {a : DE} {r : DA} : daCons a r (x :: δ) = (a (x :: δ)).bind (consK r) := rfl
@[simp] theorem consK_c {r : DA} {d : D} : consK r d (x :: δ) = (r (x :: δ)).bind (consK2 d) := rfl
@[simp] theorem consK2_c {d : D} {ds : List D} {s : Sl} : consK2 d ds s = .ok (d :: ds) s := rfl
@[simp] theorem daLend_v {i : Nat} {r : DA} : daLend (pVar i) r (x :: δ) = match ((x :: δ)[i]?).join with | some d => (r (x :: δ)).bind (consK2 (lend d)) | none => .bad := by
  unfold daLend pVar
  cases ((x :: δ)[i]?).join <;> rfl
@[simp] theorem daLend_k {v : V} {r : DA} : daLend (pC v) r (x :: δ) = (r (x :: δ)).bind (consK2 (.v v)) := by
  unfold daLend
  simp only [pC_c, lend]
  rfl
def fK (F : List D → Option D) : List D → Sl → Out D := fun xs δ1 => Out.ofO (F xs) δ1
@[simp] theorem dF_c {F : List D → Option D} {r : DA} : dF F r (x :: δ) = (r (x :: δ)).bind (fK F) := rfl
@[simp] theorem fK_c {F : List D → Option D} {ds : List D} {s : Sl} : fK F ds s = Out.ofO (F ds) s := rfl
def callK (F : List D → Out D) : List D → Sl → Out D := fun ds δ1 => match F ds with
  | .ok d _ => .ok d δ1
  | .exc c xs _ => .exc c xs δ1
  | .bad => .bad
@[simp] theorem dCall_c {F : List D → Out D} {r : DA} : dCall F r (x :: δ) = (r (x :: δ)).bind (callK F) := rfl
theorem callK_ok {F : List D → Out D} {ds : List D} {d : D} {s s' : Sl} (h : F ds = .ok d s') : callK F ds s = .ok d s := by unfold callK; rw [h]
def ioK (F : List D → Out D) (ks : List AK) : List D → Sl → Out D := fun ts δ1 => match tk ks ts δ1 with
  | none => .bad
  | some r => match res r.2 r.1 with
    | none => .bad
    | some ds => match F ds with
      | .ok d ios => (match putB ks ios r.2 with | some δ2 => .ok d δ2 | none => .bad)
      | .exc c xs ios => (match putB ks ios r.2 with | some δ2 => .exc c xs δ2 | none => .bad)
      | .bad => .bad
@[simp] theorem dCallIO_c {F : List D → Out D} {ks : List AK} : dCallIO F ks (x :: δ) = (dArgs ks (x :: δ)).bind (ioK F ks) := rfl
theorem ioK_ok {F : List D → Out D} {ks : List AK} {ts ds : List D} {s δr ios δ2 : Sl} {es : List (Option D × Nat)} {d : D} (h1 : tk ks ts s = some (es, δr)) (h2 : res δr es = some ds) (h3 : F ds = .ok d ios) (h4 : putB ks ios δr = some δ2) : ioK F ks ts s = .ok d δ2 := by
  unfold ioK
  simp only [h1, h2, h3, h4]
/-! defs -/
def finF (io : List Bool) : Out Flow → Out D
  | .ok .nx δ' => .ok .non (ioF io δ')
  | .ok (.rt d) δ' => .ok d (ioF io δ')
  | .ok .bk _ => .bad
  | .ok .ct _ => .bad
  | .exc c xs δ' => .exc c xs (ioF io δ')
  | .bad => .bad
theorem runF_c {N : Nat} {io : List Bool} {ds : DS} {args : List D} (h : args.length = io.length) : runF N io ds args = finF io (ds (args.map some ++ List.replicate (N - args.length) none)) := by
  unfold runF
  rw [if_pos h]
  unfold finF
  split <;> simp_all
@[simp] theorem finF_nx {io : List Bool} {s : Sl} : finF io (.ok .nx s) = .ok .non (ioF io s) := rfl
@[simp] theorem finF_rt {io : List Bool} {d : D} {s : Sl} : finF io (.ok (.rt d) s) = .ok d (ioF io s) := rfl
@[simp] theorem finF_exc {io : List Bool} {c : Nat} {xs : List D} {s : Sl} : finF io (.exc c xs s) = .exc c xs (ioF io s) := rfl
@[simp] theorem pOp2_mul {i j : Int} : mulD (.v (.int i)) (.v (.int j)) = if cMul i j then some (.v (.int (i * j))) else none := by simp only [mulD, f2I]; split <;> rfl
@[simp] theorem pOp2_mod {i j : Int} : modD (.v (.int i)) (.v (.int j)) = if cMod i j then some (.v (.int (i % j))) else none := by simp only [modD, f2I]; split <;> rfl
@[simp] theorem pOp2_div {i j : Int} : divD (.v (.int i)) (.v (.int j)) = if cDiv i j then some (.v (.int (i / j))) else none := by simp only [divD, f2I]; split <;> rfl
@[simp] theorem pOp2_gt {i j : Int} : gtD (.v (.int i)) (.v (.int j)) = some (.v (.bl (decide (j < i)))) := rfl
@[simp] theorem pOp2_lt {i j : Int} : ltD (.v (.int i)) (.v (.int j)) = some (.v (.bl (decide (i < j)))) := rfl
@[simp] theorem pOp2_sub {i j : Int} : subD (.v (.int i)) (.v (.int j)) = some (.v (.int (i - j))) := rfl
@[simp] theorem pOp2_add {i j : Int} : addD (.v (.int i)) (.v (.int j)) = some (.v (.int (i + j))) := rfl
@[simp] theorem ix3_0 {w : Fl} {a b c : D} : ixD (.n .lst w [a, b, c]) (.v (.int 0)) = some a := rfl
@[simp] theorem ix3_1 {w : Fl} {a b c : D} : ixD (.n .lst w [a, b, c]) (.v (.int 1)) = some b := rfl
@[simp] theorem ix3_2 {w : Fl} {a b c : D} : ixD (.n .lst w [a, b, c]) (.v (.int 2)) = some c := rfl
theorem cMul_r {i j : Int} (h : j.natAbs < 2 ^ 64) : cMul i j = true := by simp [cMul, h]
theorem cMul_l {i j : Int} (h : i.natAbs < 2 ^ 64) : cMul i j = true := by simp [cMul, h]
theorem cMod_p {i j : Int} (h : 0 < j) : cMod i j = true := by simp [cMod, h]
theorem cDiv_p {i j : Int} (h : 0 < j) (h2 : j < 1073741824) : cDiv i j = true := by simp [cDiv, h, h2]
def setK (i : Nat) (ix : DE) : D → Sl → Out Fs.Flow := fun y δ1 => if (δ1[i]?).join.isSome then (ix δ1).bind fun k δ2 => (match (δ2[i]?).join, k with
  | some (.n .lst .own xs), .v (.int n) => (match ixN xs.length n with | some m => .ok .nx (δ2.set i (some (.n .lst .own (xs.set m (frz y))))) | none => .bad)
  | _, _ => .bad) else .bad
@[simp] theorem dsSetL_c {x : Option D} {δ : Sl} {i : Nat} {ix e : DE} : dsSetL i ix e (x :: δ) = (e (x :: δ)).bind (setK i ix) := rfl
@[simp] theorem setK_0 {a b c : D} {d : D} {δ : Sl} : setK 0 (dP (pC (.int 0))) d (some (.n .lst .own [a, b, c]) :: δ) = .ok .nx (some (.n .lst .own [frz d, b, c]) :: δ) := rfl
@[simp] theorem setK_2 {a b c : D} {d : D} {δ : Sl} : setK 0 (dP (pC (.int 2))) d (some (.n .lst .own [a, b, c]) :: δ) = .ok .nx (some (.n .lst .own [a, b, frz d]) :: δ) := rfl
@[simp] theorem frz_v {v : V} : frz (.v v) = .v v := by simp [frz]
@[simp] theorem dMv_v {i : Nat} {δ : Sl} {v : V} (h : (δ[i]?).join = some (.v v)) : dMv i δ = .ok (.v v) (δ.set i none) := by unfold dMv; rw [h]; rfl
def Out.val : Out α → Option α | .ok a _ => some a | _ => none
@[simp] theorem val_ok {a : α} {s : Sl} : (Out.ok a s).val = some a := rfl
theorem callK_val {F : List D → Out D} {ds : List D} {d : D} {s : Sl} (h : (F ds).val = some d) : callK F ds s = .ok d s := by
  unfold callK
  cases e : F ds with
  | ok d' s' => rw [e] at h; cases h; rfl
  | exc c xs s' => rw [e] at h; cases h
  | bad => rw [e] at h; cases h
theorem val_ex {o : Out D} {d : D} (h : o.val = some d) : ∃ s, o = .ok d s := by
  cases o with
  | ok d' s => cases h; exact ⟨s, rfl⟩
  | exc c xs s => cases h
  | bad => cases h
@[simp] theorem pOp2_le {i j : Int} : leD (.v (.int i)) (.v (.int j)) = some (.v (.bl (decide (i ≤ j)))) := rfl
@[simp] theorem pOp2_ge {i j : Int} : geD (.v (.int i)) (.v (.int j)) = some (.v (.bl (decide (j ≤ i)))) := rfl
end
end Fs
/-! K01_D -/
namespace Lw
open PySem PySem.Spec PyProof.Rows L2 Fs
/-- law_box -/
def d__law_box : DS := (dsRet (dF mkLst (daCons (dPD maxD (pC (.int 0)) (dPD subD (pVar 0) (dPP powD (pC (.int 10)) (pC (.int 18))))) (daCons (dPP modD (pVar 0) (pC (.int 2147483647))) (daCons (dP (pC (.int 0))) daNil)))))
def F__law_box : List D → Out D := runF 1 [false] d__law_box
/-- law_whole -/
def d__law_whole : DS := (dsRet (dAnd (dP1 (isiD "int") (pVar 0)) (d1S notD (dP1 (isiD "bool") (pVar 0)))))
def F__law_whole : List D → Out D := runF 1 [false] d__law_whole
/-- law_cell -/
def d__law_cell : DS := (dsSeq (dsIf (dtV (dPD ltD (pVar 1) (dP1 lenD (pVar 0)))) (dsRet (dP (pOp ixD (pVar 0) (pVar 1)))) dsNext) (dsSeq (dsIf (dtV (dDP eqD (dP1 lenD (pVar 0)) (pC (.int 0)))) (dsRet (dDP addD (dPP mulD (pC (.int 48271)) (pVar 1)) (pC (.int 7)))) dsNext) (dsRet (d2 addD (d2 divD (dPD ixK (pVar 0) (dPD modD (pVar 1) (dP1 lenD (pVar 0)))) (dPP addD (pVar 1) (pC (.int 1)))) (dPP mulD (pC (.int 7919)) (pVar 1))))))
def F__law_cell : List D → Out D := runF 2 [false, false] d__law_cell
/-- law_take -/
def d__law_take : DS := (dsSeq (dsIf (dtV (dPP gtD (pOp ixD (pVar 0) (pC (.int 0))) (pC (.int 0)))) (dsSeq (dsAsg (dPP modD (pOp ixD (pVar 0) (pC (.int 0))) (pVar 1)) (tgN 2)) (dsSeq (dsSetL 0 (dP (pC (.int 0))) (dPP divD (pOp ixD (pVar 0) (pC (.int 0))) (pVar 1))) (dsRet (dMv 2)))) dsNext) (dsSeq (dsSetL 0 (dP (pC (.int 2))) (dPP addD (pOp ixD (pVar 0) (pC (.int 2))) (pC (.int 1)))) (dsSeq (dsAsg (dDP modD (dDP addD (d2 addD (dPP mulD (pOp ixD (pVar 0) (pC (.int 1))) (pC (.int 48271))) (dPP mulD (pC (.int 7919)) (pOp ixD (pVar 0) (pC (.int 2))))) (pC (.int 11))) (pC (.int 2147483629))) (tgN 3)) (dsSeq (dsAsg (dDP modD (dDP mulD (dDP modD (dPP mulD (pVar 3) (pVar 3)) (pC (.int 2147483587))) (pC (.int 69621))) (pC (.int 2147483647))) (tgN 3)) (dsRet (dDP modD (dDP divD (dDP modD (dPP mulD (pVar 3) (pVar 3)) (pC (.int 2147483629))) (pC (.int 8))) (pVar 1)))))))
def F__law_take : List D → Out D := runF 4 [true, false] d__law_take
/-- number_of -/
def d_number_of : DS := (dsSeq (dsIf (dtOr (dtNot (dtV (dP1 (isiD "str") (pVar 0)))) (dtNot (dtV (dCh leD leD (dP (pC (.int 1))) (dP1 lenD (pVar 0)) (dP (pC (.int 4))))))) (dsRet (dP (pC .non))) dsNext) (dsSeq (dsIf (dtOr (dtNot (dtV (d1 allD (dComp true [1] (diP itS (pVar 0)) (tgN 1) dtYes (dPP inSD (pVar 1) (pC (.str "0123456789"))))))) (dtAnd (dtV (dPP eqD (pOp ixD (pVar 0) (pC (.int 0))) (pC (.str "0")))) (dtV (dPP neD (pVar 0) (pC (.str "0")))))) (dsRet (dP (pC .non))) dsNext) (dsRet (dP1 intD (pVar 0)))))
def F_number_of : List D → Out D := runF 2 [false] d_number_of
/-- law_number -/
def d__law_number : DS := (dsSeq (dsIf (dtOr (dtNot (dtV (dP1 (isiD "str") (pVar 0)))) (dtOr (dtV (dDP ltD (dP1 lenD (pVar 0)) (pC (.int 1)))) (dtV (dDP gtD (dP1 lenD (pVar 0)) (pC (.int 4)))))) (dsRet (dP (pC .non))) dsNext) (dsSeq (dsAsg (dP (pC (.int 0))) (tgN 1)) (dsSeq (dsFor (diP itS (pVar 0)) (tgN 2) (dsSeq (dsIf (dtV (dPP notinSD (pVar 2) (pC (.str "0123456789")))) (dsRet (dP (pC .non))) dsNext) (dsAsg (d2 addD (dPP mulD (pC (.int 10)) (pVar 1)) (dP1 (indexSD "0123456789") (pVar 2))) (tgN 1)))) (dsSeq (dsIf (dtAnd (dtV (dDP gtD (dP1 lenD (pVar 0)) (pC (.int 1)))) (dtV (dPP eqD (pOp ixD (pVar 0) (pC (.int 0))) (pC (.str "0"))))) (dsRet (dP (pC .non))) dsNext) (dsRet (dMv 1))))))
def F__law_number : List D → Out D := runF 3 [false] d__law_number
/-- is_whole -/
def d_is_whole : DS := (dsRet (dAnd (dP1 (isiD "int") (pVar 0)) (d1S notD (dP1 (isiD "bool") (pVar 0)))))
def F_is_whole : List D → Out D := runF 1 [false] d_is_whole
/-- is_within -/
def d_is_within : DS := (dsRet (dAnd (dCall F_is_whole (daLend (pVar 0) daNil)) (dCh leD leD (dP (pVar 1)) (dP (pVar 0)) (dP (pVar 2)))))
def F_is_within : List D → Out D := runF 3 [false, false, false] d_is_within
/-- is_name -/
def d_is_name : DS := (dsSeq (dsIf (dtOr (dtNot (dtV (dP1 (isiD "str") (pVar 0)))) (dtOr (dtNot (dtV (dCh leD leD (dP (pC (.int 1))) (dP1 lenD (pVar 0)) (dP (pC (.int 8)))))) (dtV (dPP notinSD (pOp ixD (pVar 0) (pC (.int 0))) (pC (.str "abcdefghijklmnopqrstuvwxyz")))))) (dsRet (dP (pC (.bl false)))) dsNext) (dsRet (d1 allD (dComp true [1] (diP itS (pVar 0)) (tgN 1) dtYes (dPD inSD (pVar 1) (dPP addD (pC (.str "abcdefghijklmnopqrstuvwxyz")) (pC (.str "0123456789"))))))))
def F_is_name : List D → Out D := runF 2 [false] d_is_name
/-- law_is_name -/
def d__law_is_name : DS := (dsSeq (dsIf (dtOr (dtNot (dtV (dP1 (isiD "str") (pVar 0)))) (dtOr (dtV (dDP ltD (dP1 lenD (pVar 0)) (pC (.int 1)))) (dtV (dDP gtD (dP1 lenD (pVar 0)) (pC (.int 8)))))) (dsRet (dP (pC (.bl false)))) dsNext) (dsSeq (dsAsg (dP (pC (.str "abcdefghijklmnopqrstuvwxyz"))) (tgN 1)) (dsRet (dAnd (d2 eqD (dComp true [2] (diP itS (pVar 0)) (tgN 2) (dtV (dPD notinSD (pVar 2) (dPP addD (pVar 1) (pC (.str "0123456789"))))) (dP (pVar 2))) (dF mkLst daNil)) (dPP inSD (pOp ixD (pVar 0) (pC (.int 0))) (pVar 1))))))
def F__law_is_name : List D → Out D := runF 3 [false] d__law_is_name
/-- law_right -/
def d__law_right : DS := (dsSeq (dsAsg (dCall F__law_whole (daLend (pVar 0) daNil)) (tgN 3)) (dsSeq (dsAsg (dAnd (dP (pVar 3)) (dCh leD leD (dP (pVar 1)) (dP (pVar 0)) (dP (pVar 2)))) (tgN 4)) (dsSeq (dsAsg (dF mkLst (daCons (dCall F_is_whole (daLend (pVar 0) daNil)) (daCons (dCall F_is_within (daLend (pVar 0) (daLend (pVar 1) (daLend (pVar 2) daNil)))) (daCons (dCall F_is_name (daLend (pVar 0) daNil)) daNil)))) (tgN 5)) (dsSeq (dsIf (dtOr (dtV (dPD neD (pVar 5) (dF mkLst (daCons (dP (pVar 3)) (daCons (dP (pVar 4)) (daCons (dCall F__law_is_name (daLend (pVar 0) daNil)) daNil)))))) (dtV (d2 neD (dComp true [6] (diP (itL true) (pVar 5)) (tgN 6) (dtNot (dtV (dP1 (isiD "bool") (pVar 6)))) (dP (pVar 6))) (dF mkLst daNil)))) (dsRet (dP (pC (.bl false)))) dsNext) (dsSeq (dsAsg (dCall F_number_of (daLend (pVar 0) daNil)) (tgN 7)) (dsSeq (dsAsg (dCall F__law_number (daLend (pVar 0) daNil)) (tgN 8)) (dsRet (dAnd (dPP eqD (pVar 7) (pVar 8)) (dOr (dP1 isND (pVar 8)) (dCall F__law_whole (daLend (pVar 7) daNil)))))))))))
def F__law_right : List D → Out D := runF 9 [false, false, false] d__law_right
/-- law_thing -/
def d__law_thing : DS := (dsSeq (dsAsg (dF mkLst (daCons (dP (pC .non)) (daCons (dP (pC (.bl true))) (daCons (dP (pC (.bl false))) (daCons (dP (pC (.int 0))) (daCons (dP (pC (.int 1))) (daCons (dPP subD (pC (.int 0)) (pC (.int 1))) (daCons (dP (pC (.int 200))) (daCons (dP (pC (.int 201))) (daCons (dPP powD (pC (.int 10)) (pC (.int 29))) (daCons (dPD subD (pC (.int 0)) (dPP powD (pC (.int 10)) (pC (.int 29)))) (daCons (dP (pC (.str ""))) (daCons (dP (pC (.str "a"))) (daCons (dP (pC (.str "0"))) (daCons (dP (pC (.str "7"))) (daCons (dP (pC (.str "07"))) (daCons (dP (pC (.str "9999"))) (daCons (dP (pC (.str "10000"))) daNil)))))))))))))))))) (tgN 1)) (dsSeq (dsAsg (dPD addD (pVar 1) (dF mkLst (daCons (dP (pC (.str "a1"))) (daCons (dP (pC (.str "1a"))) (daCons (dP (pC (.str "A"))) (daCons (dP (pC (.str "abcdefgh"))) (daCons (dP (pC (.str "abcdefghi"))) (daCons (dP (pC (.str "a "))) (daCons (dP (pC (.str " 1"))) (daCons (dP (pC (.str "+1"))) (daCons (dP (pC (.str "-1"))) (daCons (dP (pC (.str "a-b"))) (daCons (dP (pC (.str "1.5"))) (daCons (dP (pC (.str "a\n"))) (daCons (dP (pC (.str "z9z9z9z9"))) daNil))))))))))))))) (tgN 1)) (dsSeq (dsAsg (dPD addD (pVar 1) (dF mkLst (daCons (dF mkLst daNil) (daCons (dF mkTup daNil) (daCons dDict0 (daCons (dF mkLst (daCons (dP (pC (.int 1))) daNil)) (daCons (dF mkTup (daCons (dP (pC (.int 1))) daNil)) (daCons (dF mkTup (daCons (dP (pC (.str "a"))) (daCons (dP (pC (.int 0))) (daCons (dP (pC (.int 5))) (daCons (dP (pC (.int 2))) daNil))))) (daCons (dDisp [((pC (.str "a")), (dP (pC (.int 1))))]) (daCons (dF mkLst (daCons (dF mkLst (daCons (dP (pC (.str "a"))) (daCons (dP (pC (.int 0))) (daCons (dP (pC (.int 5))) (daCons (dP (pC (.int 2))) daNil))))) daNil)) (daCons (dP (pC (.str "\n"))) (daCons (dP (pC (.str "mow 3 40 5"))) daNil)))))))))))) (tgN 1)) (dsRet (dVD ixK 1 (dCallIO F__law_take [.o 0, .v (dP (pC (.int 40)))]))))))
def F__law_thing : List D → Out D := runF 2 [true] d__law_thing
/-- law_text -/
def d__law_text : DS := (dsSeq (dsAsg (dP (pC (.str " !\"#$&'()*+,-./0123456789:;<=>?@ABCDEFGHIJKLMNOPQRSTUVWXYZ[\\]^_`"))) (tgN 1)) (dsSeq (dsAsg (dPP addD (pVar 1) (pC (.str "abcdefghijklmnopqrstuvwxyz{|}~\n"))) (tgN 1)) (dsSeq (dsAsg (dP (pC (.str "abcdefghijklmnopqrstuvwxyz0123456789"))) (tgN 2)) (dsSeq (dsAsg (d2 ixK (dF mkLst (daCons (dP (pC (.str "abcxyz019 5Az-+._:\n"))) (daCons (dP (pVar 2)) (daCons (dP (pVar 1)) daNil)))) (dCallIO F__law_take [.o 0, .v (dP (pC (.int 3)))])) (tgN 3)) (dsRet (d1 (joinD "") (dComp false [4] (diD itR (dCallIO F__law_take [.o 0, .v (dP (pC (.int 10)))])) (tgN 4) dtYes (dVD ixK 3 (dCallIO F__law_take [.o 0, .v (dP1 lenD (pVar 3))])))))))))
def F__law_text : List D → Out D := runF 5 [true] d__law_text
/-- law -/
def d_law : DS := (dsSeq (dsFor (diD itR (dPD maxD (pC (.int 12)) (dDP minD (dP1 lenD (pVar 0)) (pC (.int 60))))) (tgN 1) (dsSeq (dsAsg (dCall F__law_box (daCons (dCall F__law_cell (daLend (pVar 0) (daLend (pVar 1) daNil))) daNil)) (tgN 2)) (dsSeq (dsAsg (d2 ixK (dF mkLst (daCons (dCallIO F__law_thing [.o 2]) (daCons (dCallIO F__law_text [.o 2]) (daCons (d2 subD (dCallIO F__law_take [.o 2, .v (dPP powD (pC (.int 10)) (pC (.int 9)))]) (dCallIO F__law_take [.o 2, .v (dPP powD (pC (.int 10)) (pC (.int 9)))])) daNil)))) (dCallIO F__law_take [.o 2, .v (dP (pC (.int 3)))])) (tgN 3)) (dsSeq (dsAsg (d2 ixK (dF mkLst (daCons (dP (pC (.int 0))) (daCons (dP (pC (.int 1))) (daCons (dPP subD (pC (.int 0)) (pC (.int 5))) (daCons (dCallIO F__law_take [.o 2, .v (dPP powD (pC (.int 10)) (pC (.int 9)))]) daNil))))) (dCallIO F__law_take [.o 2, .v (dP (pC (.int 4)))])) (tgN 4)) (dsSeq (dsAsg (d2 ixK (dF mkLst (daCons (dP (pC (.int 0))) (daCons (dP (pC (.int 200))) (daCons (dP (pC (.int 199))) (daCons (dP (pVar 4)) (daCons (dPP subD (pVar 4) (pC (.int 1))) (daCons (dPP powD (pC (.int 10)) (pC (.int 29))) daNil))))))) (dCallIO F__law_take [.o 2, .v (dP (pC (.int 6)))])) (tgN 5)) (dsSeq (dsIf (dtNot (dtV (dCall F__law_right (daLend (pVar 3) (daLend (pVar 4) (daLend (pVar 5) daNil)))))) (dsRet (dP (pC (.bl false)))) dsNext) (dsIf (dtV (dCall F__law_whole (daLend (pVar 3) daNil))) (dsFor (diD (itL true) (dF mkLst (daCons (dF mkTup (daCons (dP (pVar 3)) (daCons (dP (pVar 5)) daNil))) (daCons (dF mkTup (daCons (dP (pVar 4)) (daCons (dP (pVar 3)) daNil))) (daCons (dF mkTup (daCons (dP (pVar 3)) (daCons (dP (pVar 3)) daNil))) (daCons (dF mkTup (daCons (dPP addD (pVar 3) (pC (.int 1))) (daCons (dP (pVar 5)) daNil))) (daCons (dF mkTup (daCons (dP (pVar 4)) (daCons (dPP subD (pVar 3) (pC (.int 1))) daNil))) daNil))))))) (tgT [tgN 6, tgN 7]) (dsIf (dtV (d2 neD (dCall F_is_within (daLend (pVar 3) (daLend (pVar 6) (daLend (pVar 7) daNil)))) (dCh leD leD (dP (pVar 6)) (dP (pVar 3)) (dP (pVar 7))))) (dsRet (dP (pC (.bl false)))) dsNext)) dsNext))))))) (dsRet (dP (pC (.bl true)))))
def F_law : List D → Out D := runF 8 [false] d_law
end Lw
/-! M1 -/
namespace Lw
open PySem PySem.Spec PyProof.Rows L2 Fs
abbrev boxD (a b c : Int) : D := .n .lst .own [.int a, .int b, .int c]
theorem emod_b (x m : Int) (h : 0 < m) : 0 ≤ x % m ∧ x % m < m := ⟨Int.emod_nonneg x (by omega), Int.emod_lt_of_pos x h⟩
theorem take_ok (a b c m : Int) (hb : 0 ≤ b) (hb2 : b < 2147483647) (hm : 0 < m) (hm2 : m < 1073741824) :
    ∃ r a' c', 0 ≤ r ∧ r < m ∧ F__law_take [boxD a b c, .int m] = .ok (.int r) [some (boxD a' b c'), none] := by
  by_cases ha : 0 < a
  · refine ⟨a % m, a / m, c, (emod_b a m hm).1, (emod_b a m hm).2, ?_⟩
    unfold F__law_take
    rw [runF_c rfl]
    simp [d__law_take, ha, cMod_p hm, cDiv_p hm hm2, ioF]
  · have h1 := emod_b (b * 48271 + 7919 * (c + 1) + 11) 2147483629 (by omega)
    generalize hx : (b * 48271 + 7919 * (c + 1) + 11) % 2147483629 = n1 at h1
    have h2 := emod_b (n1 * n1 % 2147483587 * 69621) 2147483647 (by omega)
    generalize hy : n1 * n1 % 2147483587 * 69621 % 2147483647 = n2 at h2
    refine ⟨n2 * n2 % 2147483629 / 8 % m, a, c + 1, (emod_b _ m hm).1, (emod_b _ m hm).2, ?_⟩
    unfold F__law_take
    rw [runF_c rfl]
    have e1 : cMul n1 n1 = true := cMul_l (by omega)
    have e2 : cMul n2 n2 = true := cMul_l (by omega)
    have e3 : ∀ i, cMul i 48271 = true := fun i => cMul_r (by decide)
    have e4 : ∀ i, cMul 7919 i = true := fun i => cMul_l (by decide)
    have e5 : ∀ i, cMul i 69621 = true := fun i => cMul_r (by decide)
    have e6 : ∀ i j : Int, 0 < j → cMod i j = true := fun i j h => cMod_p h
    have e7 : ∀ i, cDiv i 8 = true := fun i => cDiv_p (by decide) (by decide)
    simp [d__law_take, ha, e1, e2, e3, e4, e5, e6, e7, hm, hx, hy, ioF]
end Lw
/-! M2 -/
namespace Lw
open PySem PySem.Spec PyProof.Rows L2 Fs
/-! comprehensions whose parts change nothing -/
theorem comp_map {i : Nat} {elt : DE} {g : D → D} {δ : Sl} (hw : δ.set i none = δ) : ∀ (its acc : List D), (∀ d ∈ its, elt (δ.set i (some d)) = .ok (g d) (δ.set i (some d)) ∧ frz (g d) = g d) → acc.length + its.length ≤ 100000 → comp [i] (tgN i) dtYes elt its acc δ = .ok (acc ++ its.map g) δ
  | [], acc, _, _ => by simp [comp]
  | d :: its, acc, h, hl => by
    have h1 := h d List.mem_cons_self
    unfold comp
    have e0 : (tgN i) d δ = some (δ.set i (some d)) := rfl
    simp only [e0, dtYes, noX_ok, bind_ok', h1.1, h1.2]
    rw [if_pos (by simp at hl; omega)]
    have e1 : wipeD (δ.set i (some d)) [i] = δ := by simp only [wipeD, List.set_set]; exact hw
    rw [e1, comp_map hw its (acc ++ [g d]) (fun x hx => h x (List.mem_cons_of_mem _ hx)) (by simp at hl ⊢; omega)]
    simp
theorem comp_filt {i : Nat} {tst : DT} {elt : DE} {g : D → D} {t : D → Bool} {δ : Sl} (hw : δ.set i none = δ) : ∀ (its acc : List D), (∀ d ∈ its, tst (δ.set i (some d)) = .ok (t d) (δ.set i (some d)) ∧ elt (δ.set i (some d)) = .ok (g d) (δ.set i (some d)) ∧ frz (g d) = g d) → acc.length + its.length ≤ 100000 → comp [i] (tgN i) tst elt its acc δ = .ok (acc ++ (its.filter t).map g) δ
  | [], acc, _, _ => by simp [comp]
  | d :: its, acc, h, hl => by
    have h1 := h d List.mem_cons_self
    unfold comp
    have e0 : (tgN i) d δ = some (δ.set i (some d)) := rfl
    have e1 : wipeD (δ.set i (some d)) [i] = δ := by simp only [wipeD, List.set_set]; exact hw
    simp only [e0, h1.1, noX_ok, bind_ok']
    cases ht : t d with
    | true =>
      simp only [h1.2.1, h1.2.2, noX_ok, bind_ok']
      rw [if_pos (by simp at hl; omega), e1, comp_filt hw its (acc ++ [g d]) (fun x hx => h x (List.mem_cons_of_mem _ hx)) (by simp at hl ⊢; omega)]
      simp [ht]
    | false =>
      simp only
      rw [e1, comp_filt hw its acc (fun x hx => h x (List.mem_cons_of_mem _ hx)) (by simp at hl ⊢; omega)]
      simp [ht]
theorem dComp_c {keep : Bool} {ns : List Nat} {di : DA} {tg : D → Sl → Option Sl} {tst : DT} {elt : DE} {δ δ1 δ2 : Sl} {its acc : List D} (h1 : di δ = .ok its δ1) (h2 : comp ns tg tst elt its [] (wipeD δ1 ns) = .ok acc δ2) : dComp keep ns di tg tst elt δ = .ok (.n .lst .own acc) (if keep then δ1 else δ2) := by
  unfold dComp
  rw [h1, bind_ok', h2, bind_ok']
/-! texts -/
abbrev sg (c : Nat) : D := D.str ⟨#[c]⟩
def LF : List Nat := (("abcdefghijklmnopqrstuvwxyz" : Str) ++ ("0123456789" : Str)).cps.toList
def LT : List Nat := ("abcdefghijklmnopqrstuvwxyz" : Str).cps.toList
def FG : List Nat := ("0123456789" : Str).cps.toList
theorem add_lf : addD (.v (.str "abcdefghijklmnopqrstuvwxyz")) (.v (.str "0123456789")) = some (.str (("abcdefghijklmnopqrstuvwxyz" : Str) ++ ("0123456789" : Str))) := by
  simp only [addD]
  rw [if_pos (by decide +kernel)]
theorem inS_c {c : Nat} {z : Str} : inSD (sg c) (.v (.str z)) = some (.bl (decide (c ∈ z.cps.toList))) := rfl
theorem notinS_c {c : Nat} {z : Str} : notinSD (sg c) (.v (.str z)) = some (.bl (!decide (c ∈ z.cps.toList))) := rfl
theorem ix0_str {s : Str} {c : Nat} {cs : List Nat} (h : s.cps.toList = c :: cs) (hl : s.length ≤ 100000) : ixD (.v (.str s)) (.v (.int 0)) = some (sg c) := by
  simp only [ixD, hl, if_true, h]
  simp [atI, ixN]
theorem len_str {s : Str} (hl : s.length ≤ 100000) : lenD (.v (.str s)) = some (.int s.length) := by simp [lenD, hl]
theorem isi_str {s : Str} : isiD "str" (.v (.str s)) = some (.bl true) := by simp [isiD, tyD, isTy]
theorem len_cps (s : Str) : s.length = s.cps.toList.length := by simp [Str.length]
def nameB (cs : List Nat) : Bool := match cs with
  | [] => false
  | c :: _ => decide (cs.length ≤ 8) && (decide (c ∈ LT) && cs.all fun c => decide (c ∈ LF))
theorem allB_map (f : Nat → Bool) : ∀ cs : List Nat, Fs.allB (cs.map fun c => D.bl (f c)) = some (cs.all f)
  | [] => rfl
  | c :: cs => by simp [Fs.allB, allB_map f cs]
theorem is_name_str (s : Str) (hl : s.length ≤ 10) : (F_is_name [.str s]).val = some (.bl (nameB s.cps.toList)) := by
  have hl2 : s.length ≤ 100000 := by omega
  have hlen := len_cps s
  unfold F_is_name
  rw [runF_c rfl]
  unfold d_is_name
  cases hc : s.cps.toList with
  | nil =>
    rw [hc] at hlen
    simp [isi_str, len_str hl2, hlen, nameB]
  | cons c cs =>
    rw [hc] at hlen
    simp only [List.length_cons] at hlen
    by_cases h8 : s.length ≤ 8
    · by_cases hL : c ∈ LT
      · have hcomp : dComp true [1] (diP itS (pVar 0)) (tgN 1) dtYes (dPD inSD (pVar 1) (dPP addD (pC (V.str "abcdefghijklmnopqrstuvwxyz")) (pC (V.str "0123456789")))) [some (D.str s), none] = .ok (.n .lst .own ((c :: cs).map fun c => D.bl (decide (c ∈ LF)))) [some (D.str s), none] := by
          have h1 : diP itS (pVar 0) [some (D.str s), none] = .ok ((c :: cs).map sg) [some (D.str s), none] := by
            simp only [diP, pVar, itS, List.getElem?_cons_zero, Option.join_some, Option.bind_some, hc]
            rfl
          have h2 := comp_map (i := 1) (elt := dPD inSD (pVar 1) (dPP addD (pC (V.str "abcdefghijklmnopqrstuvwxyz")) (pC (V.str "0123456789")))) (g := fun d => match d with | .v (.str ⟨⟨[c]⟩⟩) => D.bl (decide (c ∈ LF)) | _ => .non) (δ := [some (D.str s), none]) rfl ((c :: cs).map sg) [] (fun d hd => by
            obtain ⟨c', _, rfl⟩ := List.mem_map.mp hd
            refine ⟨?_, by simp⟩
            simp [add_lf, inS_c, LF]) (by simp; omega)
          have h3 := dComp_c (keep := true) (ns := [1]) (tg := tgN 1) (tst := dtYes) h1 h2
          rw [h3]
          simp only [List.nil_append, List.map_map, if_true]
          rfl
        have hL' : c ∈ ("abcdefghijklmnopqrstuvwxyz" : Str).cps.toList := hL
        have e8 : cs.length + 1 ≤ 8 := by omega
        have e1 : (1 : Int) ≤ (s.length : Int) := by omega
        have e2 : (s.length : Int) ≤ 8 := by omega
        simp [isi_str, len_str hl2, e1, e2, ix0_str hc hl2, notinS_c, hcomp, allD, nameB, hL, hL', e8, LF, LT, Fs.allB, allB_map]
      · have hL' : c ∉ ("abcdefghijklmnopqrstuvwxyz" : Str).cps.toList := hL
        have e1 : (1 : Int) ≤ (s.length : Int) := by omega
        have e2 : (s.length : Int) ≤ 8 := by omega
        simp [isi_str, len_str hl2, e1, e2, ix0_str hc hl2, notinS_c, nameB, hL, hL', LT]
    · have e1 : (1 : Int) ≤ (s.length : Int) := by omega
      have e2 : ¬ (s.length : Int) ≤ 8 := by omega
      have e8 : ¬ cs.length + 1 ≤ 8 := by omega
      simp [isi_str, len_str hl2, e1, e2, nameB, e8]
theorem lend_kept {d : D} (h : d.kept = true) : lend d = d := by
  match d, h with
  | .v x, _ => simp [lend]
  | .s x, _ => simp [lend]
  | .n k .shr ds, _ => simp [lend]
theorem eq_nil (xs : List Nat) (hx : ∀ c ∈ xs, c < 1114112) : eqD (.n .lst .own (xs.map sg)) (.n .lst .own []) = some (.bl xs.isEmpty) := by
  have hp : ∀ xs : List Nat, (∀ c ∈ xs, c < 1114112) → ∃ ys, pds (xs.map sg) = some ys ∧ PyData.canLayAll0 ys = true ∧ PyData.depthAll ys = 0 ∧ (ys = [] ↔ xs = []) := by
    intro xs
    induction xs with
    | nil => intro _; exact ⟨[], rfl, rfl, rfl, by simp⟩
    | cons c cs ih =>
      intro h
      obtain ⟨ys, h1, h2, h3, _⟩ := ih (fun c hc => h c (List.mem_cons_of_mem _ hc))
      refine ⟨.str ⟨#[c]⟩ :: ys, ?_, ?_, ?_, by simp⟩
      · simp [pds, pd, h1]
      · have := h c List.mem_cons_self
        simp [PyData.canLayAll0, PyData.canLay0, PyData.strOk, h2, this]
      · simp [PyData.depthAll, PyData.depth, h3]
  obtain ⟨ys, h1, h2, h3, h4⟩ := hp xs hx
  have e1 : pd (.n .lst .own (xs.map sg)) = some (.list ys) := by simp [pd, h1]
  have e2 : pd (.n .lst .own []) = some (.list []) := by simp [pd, pds]
  unfold eqD
  rw [e1, e2]
  simp only [Option.bind_some]
  rw [if_pos ⟨by simp [SeqAt.shaped, PyData.canLay0, PyData.depth, h2, h3], by decide⟩]
  cases ys with
  | nil =>
    have : xs = [] := h4.mp rfl
    subst this
    simp [PyData.eqv, PyData.eqvAll]
  | cons y ys =>
    have : xs ≠ [] := fun z => by have := h4.mpr z; cases this
    cases xs with
    | nil => exact absurd rfl this
    | cons c cs => simp [PyData.eqv, PyData.eqvAll]
theorem filt_all (f : Nat → Bool) : ∀ cs : List Nat, (cs.filter fun c => !f c).isEmpty = cs.all f
  | [] => rfl
  | c :: cs => by
    cases h : f c with
    | true => simp [h]; simpa using filt_all f cs
    | false => simp [h]
theorem lname_str (s : Str) (hl : s.length ≤ 10) (hx : ∀ c ∈ s.cps.toList, c < 128) : (F__law_is_name [.str s]).val = some (.bl (nameB s.cps.toList)) := by
  have hl2 : s.length ≤ 100000 := by omega
  have hlen := len_cps s
  unfold F__law_is_name
  rw [runF_c rfl]
  unfold d__law_is_name
  cases hc : s.cps.toList with
  | nil =>
    rw [hc] at hlen
    simp [isi_str, len_str hl2, hlen, nameB]
  | cons c cs =>
    rw [hc] at hlen hx
    simp only [List.length_cons] at hlen
    by_cases h8 : s.length ≤ 8
    · have hcomp : dComp true [2] (diP itS (pVar 0)) (tgN 2) (dtV (dPD notinSD (pVar 2) (dPP addD (pVar 1) (pC (V.str "0123456789"))))) (dP (pVar 2)) [some (D.str s), some (D.str "abcdefghijklmnopqrstuvwxyz"), none] = .ok (.n .lst .own (((c :: cs).filter fun c => !decide (c ∈ LF)).map sg)) [some (D.str s), some (D.str "abcdefghijklmnopqrstuvwxyz"), none] := by
        have h1 : diP itS (pVar 0) [some (D.str s), some (D.str "abcdefghijklmnopqrstuvwxyz"), none] = .ok ((c :: cs).map sg) [some (D.str s), some (D.str "abcdefghijklmnopqrstuvwxyz"), none] := by
          simp only [diP, pVar, itS, List.getElem?_cons_zero, Option.join_some, Option.bind_some, hc]
          rfl
        have h2 := comp_filt (i := 2) (tst := dtV (dPD notinSD (pVar 2) (dPP addD (pVar 1) (pC (V.str "0123456789"))))) (elt := dP (pVar 2)) (g := id) (t := fun d => match d with | .v (.str ⟨⟨[c]⟩⟩) => !decide (c ∈ LF) | _ => false) (δ := [some (D.str s), some (D.str "abcdefghijklmnopqrstuvwxyz"), none]) rfl ((c :: cs).map sg) [] (fun d hd => by
          obtain ⟨c', _, rfl⟩ := List.mem_map.mp hd
          refine ⟨?_, ?_, by simp⟩
          · simp [add_lf, notinS_c, LF]
          · simp) (by simp; omega)
        have h3 := dComp_c (keep := true) (ns := [2]) (tg := tgN 2) h1 h2
        rw [h3]
        simp only [List.nil_append, List.map_id, if_true, List.filter_map]
        rfl
      have e1 : ¬ (s.length : Int) < 1 := by omega
      have e2 : ¬ (8 : Int) < (s.length : Int) := by omega
      have e8 : cs.length + 1 ≤ 8 := by omega
      have he := eq_nil ((c :: cs).filter fun c => !decide (c ∈ LF)) (fun x hx' => Nat.lt_of_lt_of_le (hx x (List.mem_filter.mp hx').1) (by decide))
      rw [filt_all] at he
      generalize hb : ((c :: cs).all fun c => decide (c ∈ LF)) = b at he
      have hn : nameB (c :: cs) = (decide (c ∈ LT) && b) := by
        simp only [nameB, hb]
        simp [e8]
      rw [hn]
      simp only [LT]
      cases b <;> simp [isi_str, len_str hl2, e1, e2, ix0_str hc hl2, inS_c, hcomp, mkLst, frzs, he]
    · have e1 : ¬ (s.length : Int) < 1 := by omega
      have e2 : (8 : Int) < (s.length : Int) := by omega
      have e8 : ¬ cs.length + 1 ≤ 8 := by omega
      simp [isi_str, len_str hl2, e1, e2, nameB, e8]
end Lw
/-! M3 -/
namespace Lw
open PySem PySem.Spec PyProof.Rows L2 Fs
def digB (cs : List Nat) : Bool := cs.all fun c => decide (c ∈ FG)
def numB (cs : List Nat) : Bool := match cs with
  | [] => false
  | c :: r => decide (cs.length ≤ 4) && (digB cs && !(decide (c = 48) && !r.isEmpty))
def numV (cs : List Nat) : D := if numB cs then .int ((NumText.digitsVal cs : Nat) : Int) else .non
theorem fg_mem {c : Nat} : c ∈ FG ↔ 48 ≤ c ∧ c ≤ 57 := by
  have : FG = [48, 49, 50, 51, 52, 53, 54, 55, 56, 57] := by decide +kernel
  rw [this]
  simp
  omega
theorem fg_index {c : Nat} (h : c ∈ FG) : indexSD "0123456789" (sg c) = some (.int ((c - 48 : Nat) : Int)) := by
  have h1 : ∀ c ∈ FG, (match Builtin.Str.occurrences ("0123456789" : Str) ⟨#[c]⟩ 0 ("0123456789" : Str).length 1 with | i :: _ => i | [] => 99) = c - 48 := by decide +kernel
  have h2 := h1 c h
  have h3 : c - 48 < 99 := by have := fg_mem.mp h; omega
  simp only [indexSD]
  split at h2
  · rename_i i r e; simp only [e, h2]
  · omega
theorem eq_sg {c : Nat} (hc : c < 1114112) : eqD (sg c) (.v (.str "0")) = some (.bl (decide (c = 48))) := by
  unfold eqD
  simp only [pd, Option.bind_some]
  rw [if_pos ⟨by simp [SeqAt.shaped, PyData.canLay0, PyData.strOk, PyData.depth, hc], by decide +kernel⟩]
  have : ("0" : Str) = ⟨#[48]⟩ := by decide +kernel
  rw [this]
  simp only [PyData.eqv, Option.some.injEq, D.v.injEq, V.bl.injEq]
  rw [Bool.eq_iff_iff]
  simp
theorem ne_zero {s : Str} (hc : ∀ c ∈ s.cps.toList, c < 1114112) : neD (.v (.str s)) (.v (.str "0")) = some (.bl (!decide (s.cps.toList = [48]))) := by
  unfold neD
  simp only [pd, Option.bind_some]
  rw [if_pos ⟨by simp [SeqAt.shaped, PyData.canLay0, PyData.strOk, PyData.depth]; intro i hi; exact hc _ (by simp), by decide +kernel⟩]
  have : ("0" : Str) = ⟨#[48]⟩ := by decide +kernel
  rw [this]
  simp only [PyData.eqv, Option.some.injEq, D.v.injEq, V.bl.injEq]
  congr 1
  rw [Bool.eq_iff_iff]
  simp
  constructor
  · intro h; rw [h]
  · intro h; cases s; simp only [Str.mk.injEq]; exact Array.toList_inj.mp h
theorem digB_all {cs : List Nat} (h : digB cs = true) : NumText.AllDigits cs := fun c hc => fg_mem.mp (by simpa using List.all_eq_true.mp h c hc)
theorem number_str (s : Str) (hl : s.length ≤ 10) (hx : ∀ c ∈ s.cps.toList, c < 128) : (F_number_of [.str s]).val = some (numV s.cps.toList) := by
  have hl2 : s.length ≤ 100000 := by omega
  have hlen := len_cps s
  unfold F_number_of
  rw [runF_c rfl]
  unfold d_number_of
  have hx2 : ∀ c ∈ s.cps.toList, c < 1114112 := fun c hc => Nat.lt_of_lt_of_le (hx c hc) (by decide)
  have hne := ne_zero hx2
  cases hc : s.cps.toList with
  | nil =>
    rw [hc] at hlen
    simp [isi_str, len_str hl2, hlen, numV, numB]
  | cons c cs =>
    rw [hc] at hlen hx hx2 hne
    simp only [List.length_cons] at hlen
    have e1 : (1 : Int) ≤ (s.length : Int) := by omega
    by_cases h8 : s.length ≤ 4
    · have e2 : (s.length : Int) ≤ 4 := by omega
      have hcomp : dComp true [1] (diP itS (pVar 0)) (tgN 1) dtYes (dPP inSD (pVar 1) (pC (V.str "0123456789"))) [some (D.str s), none] = .ok (.n .lst .own ((c :: cs).map fun c => D.bl (decide (c ∈ FG)))) [some (D.str s), none] := by
        have h1 : diP itS (pVar 0) [some (D.str s), none] = .ok ((c :: cs).map sg) [some (D.str s), none] := by
          simp only [diP, pVar, itS, List.getElem?_cons_zero, Option.join_some, Option.bind_some, hc]
          rfl
        have h2 := comp_map (i := 1) (elt := dPP inSD (pVar 1) (pC (V.str "0123456789"))) (g := fun d => match d with | .v (.str ⟨⟨[c]⟩⟩) => D.bl (decide (c ∈ FG)) | _ => .non) (δ := [some (D.str s), none]) rfl ((c :: cs).map sg) [] (fun d hd => by
          obtain ⟨c', _, rfl⟩ := List.mem_map.mp hd
          refine ⟨?_, by simp⟩
          simp [inS_c, FG]) (by simp; omega)
        have h3 := dComp_c (keep := true) (ns := [1]) (tg := tgN 1) (tst := dtYes) h1 h2
        rw [h3]
        simp only [List.nil_append, List.map_map, if_true]
        rfl
      have hall : allD (.n .lst .own ((c :: cs).map fun c => D.bl (decide (c ∈ FG)))) = some (.bl (digB (c :: cs))) := by simp only [allD, allB_map]; rfl
      generalize ((c :: cs).map fun c => D.bl (decide (c ∈ FG))) = X at hcomp hall
      have e0 : eqD (sg c) (.v (.str "0")) = some (.bl (decide (c = 48))) := eq_sg (hx2 c List.mem_cons_self)
      have hn : numV (c :: cs) = if digB (c :: cs) then (if c = 48 ∧ cs ≠ [] then .non else .int ((NumText.digitsVal (c :: cs) : Nat) : Int)) else .non := by
        unfold numV numB
        have : (c :: cs).length ≤ 4 := by simp; omega
        simp only [this, decide_true, Bool.true_and]
        cases digB (c :: cs)
        · rfl
        · simp only [Bool.true_and]
          by_cases h4 : c = 48 <;> cases cs <;> simp [h4]
      rw [hn]
      cases hd : digB (c :: cs) with
      | false =>
        rw [hd] at hall
        simp [isi_str, len_str hl2, e1, e2, hcomp, hall]
      | true =>
        rw [hd] at hall
        have hi : Fs.intD (.v (.str s)) = some (.int ((NumText.digitsVal (c :: cs) : Nat) : Int)) := by
          simp only [Fs.intD]
          rw [if_pos (by omega), intText_digits (by rw [hc]; exact digB_all hd) (by rw [hc]; simp) (by omega), hc]
          rfl
        by_cases h4 : c = 48
        · subst h4
          cases cs with
          | nil => simp [isi_str, len_str hl2, e1, e2, hcomp, hall, ix0_str hc hl2, e0, hne, hi]
          | cons d ds => simp [isi_str, len_str hl2, e1, e2, hcomp, hall, ix0_str hc hl2, e0, hne, hi]
        · simp [isi_str, len_str hl2, e1, e2, hcomp, hall, ix0_str hc hl2, e0, h4, hne, hi]
    · have e2 : ¬ (s.length : Int) ≤ 4 := by omega
      have e8 : ¬ cs.length + 1 ≤ 4 := by omega
      simp [isi_str, len_str hl2, e1, e2, numV, numB, e8]
abbrev lnBody : DS := (dsSeq (dsIf (dtV (dPP notinSD (pVar 2) (pC (.str "0123456789")))) (dsRet (dP (pC .non))) dsNext) (dsAsg (d2 addD (dPP mulD (pC (.int 10)) (pVar 1)) (dP1 (indexSD "0123456789") (pVar 2))) (tgN 1)))
theorem lnum_loop (s : Str) : ∀ (cs : List Nat) (n : Nat) (x : Option D), (digB cs = true ∧ ∃ y, loop (tgN 2) lnBody (cs.map sg) [some (.str s), some (.int (n : Int)), x] = .ok .nx [some (.str s), some (.int ((cs.foldl (fun a c => a * 10 + (c - 48)) n : Nat) : Int)), y]) ∨ (digB cs = false ∧ ∃ st, loop (tgN 2) lnBody (cs.map sg) [some (.str s), some (.int (n : Int)), x] = .ok (.rt .non) st)
  | [], n, x => .inl ⟨rfl, x, rfl⟩
  | c :: cs, n, x => by
    by_cases hc : c ∈ FG
    · have hc' : c ∈ ("0123456789" : Str).cps.toList := hc
      have hi := fg_index hc
      have e4 : ∀ i, cMul 10 i = true := fun i => cMul_l (by decide)
      have e5 : (10 * (n : Int) + ((c - 48 : Nat) : Int)) = ((n * 10 + (c - 48) : Nat) : Int) := by rw [Int.natCast_add, Int.natCast_mul]; omega
      have st : loop (tgN 2) lnBody ((c :: cs).map sg) [some (.str s), some (.int (n : Int)), x] = loop (tgN 2) lnBody (cs.map sg) [some (.str s), some (.int ((n * 10 + (c - 48) : Nat) : Int)), some (sg c)] := by
        rw [List.map_cons, loop_consN]
        simp only [lnBody, List.set_cons_succ, List.set_cons_zero]
        simp only [dsSeq_c, dsIf_c, dtV_c, dPP_c, pVar_s, pVar_z, pC_c, pOp2_c, notinS_c, hc', decide_true, Bool.not_true, ofO_some, bind_ok', dtVK_c]
        simp [hi, e4, e5, -Int.natCast_add, -Int.natCast_mul]
      rw [st]
      rcases lnum_loop s cs (n * 10 + (c - 48)) (some (sg c)) with ⟨h1, y, h2⟩ | ⟨h1, y, h2⟩
      · exact .inl ⟨by simp only [digB, List.all_cons, hc, decide_true, Bool.true_and]; exact h1, y, h2⟩
      · exact .inr ⟨by simp only [digB, List.all_cons, hc, decide_true, Bool.true_and]; exact h1, y, h2⟩
    · have hc' : ¬ c ∈ ("0123456789" : Str).cps.toList := hc
      refine .inr ⟨by simp [digB, hc], [some (.str s), some (.int (n : Int)), some (sg c)], ?_⟩
      rw [List.map_cons, loop_consN]
      simp only [lnBody, List.set_cons_succ, List.set_cons_zero]
      simp only [dsSeq_c, dsIf_c, dtV_c, dPP_c, pVar_s, pVar_z, pC_c, pOp2_c, notinS_c, hc', decide_false, Bool.not_false, ofO_some, bind_ok', dtVK_c]
      simp
theorem lnumber_str (s : Str) (hl : s.length ≤ 10) (hx : ∀ c ∈ s.cps.toList, c < 128) : (F__law_number [.str s]).val = some (numV s.cps.toList) := by
  have hl2 : s.length ≤ 100000 := by omega
  have hlen := len_cps s
  unfold F__law_number
  rw [runF_c rfl]
  unfold d__law_number
  have hx2 : ∀ c ∈ s.cps.toList, c < 1114112 := fun c hc => Nat.lt_of_lt_of_le (hx c hc) (by decide)
  cases hc : s.cps.toList with
  | nil =>
    rw [hc] at hlen
    simp [isi_str, len_str hl2, hlen, numV, numB]
  | cons c cs =>
    rw [hc] at hlen hx hx2
    simp only [List.length_cons] at hlen
    have e1 : ¬ (s.length : Int) < 1 := by omega
    by_cases h8 : s.length ≤ 4
    · have e2 : ¬ (4 : Int) < (s.length : Int) := by omega
      have e0 : eqD (sg c) (.v (.str "0")) = some (.bl (decide (c = 48))) := eq_sg (hx2 c List.mem_cons_self)
      have hit : diP itS (pVar 0) [some (D.str s), some (.int ((0 : Nat) : Int)), none] = .ok ((c :: cs).map sg) [some (D.str s), some (.int ((0 : Nat) : Int)), none] := by
        simp only [diP, pVar, itS, List.getElem?_cons_zero, Option.join_some, Option.bind_some, hc]
        rfl
      have hn : numV (c :: cs) = if digB (c :: cs) then (if c = 48 ∧ cs ≠ [] then .non else .int ((NumText.digitsVal (c :: cs) : Nat) : Int)) else .non := by
        unfold numV numB
        have : (c :: cs).length ≤ 4 := by simp; omega
        simp only [this, decide_true, Bool.true_and]
        cases digB (c :: cs)
        · rfl
        · simp only [Bool.true_and]
          by_cases h4 : c = 48 <;> cases cs <;> simp [h4]
      rw [hn]
      have hfor : ∀ b, dsFor (diP itS (pVar 0)) (tgN 2) b [some (D.str s), some (.int 0), none] = loop (tgN 2) b ((c :: cs).map sg) [some (D.str s), some (.int ((0 : Nat) : Int)), none] := fun b => by
        unfold dsFor
        rw [show (D.int 0) = .int ((0 : Nat) : Int) from rfl, hit]
        rfl
      rcases lnum_loop s (c :: cs) 0 none with ⟨h1, y, h2⟩ | ⟨h1, y, h2⟩
      · have h3 := (hfor lnBody).trans h2
        have e3 : (cs ≠ []) ↔ (1 : Int) < s.length := by
          cases cs with
          | nil => simp at hlen; simp [hlen]
          | cons d ds => simp at hlen; simp; omega
        rw [h1]
        by_cases h4 : c = 48
        · by_cases h5 : (1 : Int) < s.length
          · subst h4
            simp [isi_str, len_str hl2, e1, e2, h3, h5, e3.mpr h5, ix0_str hc hl2, e0]
          · have h6 : ¬ cs ≠ [] := fun z => h5 (e3.mp z)
            simp [isi_str, len_str hl2, e1, e2, h3, h5, h6, NumText.digitsVal]
        · by_cases h5 : (1 : Int) < s.length
          · simp [isi_str, len_str hl2, e1, e2, h3, h5, ix0_str hc hl2, e0, h4, NumText.digitsVal]
          · simp [isi_str, len_str hl2, e1, e2, h3, h5, h4, NumText.digitsVal]
      · have h3 := (hfor lnBody).trans h2
        simp [isi_str, len_str hl2, e1, e2, h3, h1]
    · have e2 : (4 : Int) < (s.length : Int) := by omega
      have e8 : ¬ cs.length + 1 ≤ 4 := by omega
      simp [isi_str, len_str hl2, e1, e2, numV, numB, e8]
end Lw
/-! M4 -/
namespace Lw
open PySem PySem.Spec PyProof.Rows L2 Fs
@[simp] theorem lend_v {v : V} : lend (.v v) = .v v := by simp [lend]
structure Th (t : D) (w n : Bool) (v : D) : Prop where
  l : lend t = t
  iw : (F_is_whole [t]).val = some (.bl w)
  lw : (F__law_whole [t]).val = some (.bl w)
  nm : (F_is_name [t]).val = some (.bl n)
  ln : (F__law_is_name [t]).val = some (.bl n)
  no : (F_number_of [t]).val = some v
  lno : (F__law_number [t]).val = some v
  vv : v = .non ∨ ∃ i, v = .int i
  wi : w = true → ∃ i, t = .int i
theorem whole_int (i : Int) : (F_is_whole [.int i]).val = some (.bl true) ∧ (F__law_whole [.int i]).val = some (.bl true) := by
  constructor
  · unfold F_is_whole; rw [runF_c rfl]; simp [d_is_whole, isiD, tyD, isTy]
  · unfold F__law_whole; rw [runF_c rfl]; simp [d__law_whole, isiD, tyD, isTy]
theorem Th.int (i : Int) : Th (.int i) true false .non := by
  have h1 : isiD "str" (.v (.int i)) = some (.bl false) := by simp [isiD, tyD, isTy]
  refine ⟨by simp [lend], (whole_int i).1, (whole_int i).2, ?_, ?_, ?_, ?_, .inl rfl, fun _ => ⟨i, rfl⟩⟩
  · unfold F_is_name; rw [runF_c rfl]; simp [d_is_name, h1]
  · unfold F__law_is_name; rw [runF_c rfl]; simp [d__law_is_name, h1]
  · unfold F_number_of; rw [runF_c rfl]; simp [d_number_of, h1]
  · unfold F__law_number; rw [runF_c rfl]; simp [d__law_number, h1]
theorem Th.other (t : D) (hl : lend t = t) {s : String} (ht : tyD t = some s) (h1 : isTy s "str" = false) (h2 : (isTy s "int" && !isTy s "bool") = false) : Th t false false .non := by
  have e1 : isiD "str" t = some (.bl false) := by simp [isiD, ht, h1]
  have e2 : isiD "int" t = some (.bl (isTy s "int")) := by simp [isiD, ht]
  have e3 : isiD "bool" t = some (.bl (isTy s "bool")) := by simp [isiD, ht]
  refine ⟨hl, ?_, ?_, ?_, ?_, ?_, ?_, .inl rfl, fun z => by cases z⟩
  · unfold F_is_whole; rw [runF_c rfl]
    cases ha : isTy s "int" <;> cases hb : isTy s "bool" <;> rw [ha] at e2 h2 <;> rw [hb] at e3 h2 <;> first | exact absurd h2 (by decide) | simp [d_is_whole, e2, e3]
  · unfold F__law_whole; rw [runF_c rfl]
    cases ha : isTy s "int" <;> cases hb : isTy s "bool" <;> rw [ha] at e2 h2 <;> rw [hb] at e3 h2 <;> first | exact absurd h2 (by decide) | simp [d__law_whole, e2, e3]
  · unfold F_is_name; rw [runF_c rfl]; simp [d_is_name, e1]
  · unfold F__law_is_name; rw [runF_c rfl]; simp [d__law_is_name, e1]
  · unfold F_number_of; rw [runF_c rfl]; simp [d_number_of, e1]
  · unfold F__law_number; rw [runF_c rfl]; simp [d__law_number, e1]
theorem Th.str (s : Str) (hl : s.length ≤ 10) (hx : ∀ c ∈ s.cps.toList, c < 128) : Th (.str s) false (nameB s.cps.toList) (numV s.cps.toList) := by
  have h1 : isiD "int" (.v (.str s)) = some (.bl false) := by simp [isiD, tyD, isTy]
  refine ⟨by simp [lend], ?_, ?_, is_name_str s hl, lname_str s hl hx, number_str s hl hx, lnumber_str s hl hx, ?_, fun z => by cases z⟩
  · unfold F_is_whole; rw [runF_c rfl]; simp [d_is_whole, h1]
  · unfold F__law_whole; rw [runF_c rfl]; simp [d__law_whole, h1]
  · unfold numV; split
    · exact .inr ⟨_, rfl⟩
    · exact .inl rfl
def inB (t : D) (lo hi : Int) : Bool := match t with | .v (.int i) => decide (lo ≤ i) && decide (i ≤ hi) | _ => false
theorem within_ok {t : D} {w n : Bool} {v : D} (h : Th t w n v) (lo hi : Int) : (F_is_within [t, .int lo, .int hi]).val = some (.bl (w && inB t lo hi)) := by
  unfold F_is_within
  rw [runF_c rfl]
  have h1 := @callK_val _ _ _ [some t, some (.int lo), some (.int hi)] h.iw
  cases w with
  | false => simp [d_is_within, h.l, h1]
  | true =>
    obtain ⟨i, rfl⟩ := h.wi rfl
    by_cases h2 : lo ≤ i
    · simp [d_is_within, h.l, h1, inB, h2]
    · simp [d_is_within, h.l, h1, inB, h2]
theorem ne3 (a b c : Bool) : neD (.n .lst .own [.bl a, .bl b, .bl c]) (.n .lst .own [.bl a, .bl b, .bl c]) = some (.bl false) := by
  cases a <;> cases b <;> cases c <;> rfl
theorem ne0 : neD (.n .lst .own []) (.n .lst .own []) = some (.bl false) := by rfl
theorem eqV {v : D} (h : v = .non ∨ ∃ i, v = .int i) : eqD v v = some (.bl true) := by
  rcases h with rfl | ⟨i, rfl⟩
  · rfl
  · simp [eqD, pd, PyData.eqv, SeqAt.shaped, PyData.canLay0, PyData.depth]
theorem isN_v {v : D} (h : v = .non ∨ ∃ i, v = .int i) : isND v = some (.bl (match v with | .v .non => true | _ => false)) := by
  rcases h with rfl | ⟨i, rfl⟩ <;> rfl
theorem right_ok {t : D} {w n : Bool} {v : D} (h : Th t w n v) (lo hi : Int) : (F__law_right [t, .int lo, .int hi]).val = some (.bl true) := by
  unfold F__law_right
  rw [runF_c rfl]
  unfold d__law_right
  have k1 := fun s => @callK_val _ _ _ s h.iw
  have k2 := fun s => @callK_val _ _ _ s h.lw
  have k3 := fun s => @callK_val _ _ _ s h.nm
  have k4 := fun s => @callK_val _ _ _ s h.ln
  have k5 := fun s => @callK_val _ _ _ s h.no
  have k6 := fun s => @callK_val _ _ _ s h.lno
  have k7 := fun s => @callK_val _ _ _ s (within_ok h lo hi)
  have hlen : (List.map some [t, D.int lo, D.int hi]) ++ List.replicate (9 - 3) none = [some t, some (D.int lo), some (D.int hi), none, none, none, none, none, none] := rfl
  have hcomp : ∀ a b c x y, dComp true [6] (diP (itL true) (pVar 5)) (tgN 6) (dtNot (dtV (dP1 (isiD "bool") (pVar 6)))) (dP (pVar 6)) [some t, some (.int lo), some (.int hi), some x, some y, some (.n .lst .own [.bl a, .bl b, .bl c]), none, none, none] = .ok (.n .lst .own []) [some t, some (.int lo), some (.int hi), some x, some y, some (.n .lst .own [.bl a, .bl b, .bl c]), none, none, none] := by
    intro a b c x y
    rfl
  have hcall : ∀ i, v = .int i → ∀ s, callK F__law_whole [v] s = .ok (.bl true) s := fun i e s => callK_val (by rw [e]; exact (whole_int i).2)
  have hvl : lend v = v := by rcases h.vv with e | ⟨i, e⟩ <;> rw [e] <;> simp [lend]
  have hkv : Option.filter D.kept (some v) = some v := by rcases h.vv with e | ⟨i, e⟩ <;> rw [e] <;> rfl
  rw [show [t, D.int lo, D.int hi].length = 3 from rfl, hlen]
  cases hw : w with
  | false =>
    subst hw
    rcases h.vv with e | ⟨i, e⟩
    · subst e
      simp [h.l, k1, k2, k3, k4, k5, k6, k7, mkLst, frzs, ne3, hcomp, ne0, eqV, isND]
    · subst e
      simp [h.l, k1, k2, k3, k4, k5, k6, k7, mkLst, frzs, ne3, hcomp, ne0, eqV, isND, hcall i rfl]
  | true =>
    subst hw
    obtain ⟨j, rfl⟩ := h.wi rfl
    have hin : (dCh leD leD (dP (pVar 1)) (dP (pVar 0)) (dP (pVar 2)) [some (.int j), some (.int lo), some (.int hi), some (.bl true), none, none, none, none, none]) = .ok (.bl (true && inB (.int j) lo hi)) [some (.int j), some (.int lo), some (.int hi), some (.bl true), none, none, none, none, none] := by
      by_cases h2 : lo ≤ j
      · simp [inB, h2]
      · simp [inB, h2]
    rcases h.vv with e | ⟨i, e⟩
    · subst e
      simp [h.l, k1, k2, k3, k4, k5, k6, k7, mkLst, frzs, ne3, hcomp, ne0, eqV, isND, hin]
    · subst e
      simp [h.l, k1, k2, k3, k4, k5, k6, k7, mkLst, frzs, ne3, hcomp, ne0, eqV, isND, hcall i rfl, hin]
end Lw
/-! M5 -/
namespace Lw
open PySem PySem.Spec PyProof.Rows L2 Fs
theorem join_sg (cs : List Nat) : (Txt.join ("" : Str) (cs.map fun c => (⟨#[c]⟩ : Str))).cps.toList = cs := by
  have h0 : (("" : Str)).cps = #[] := rfl
  have h : ∀ (cs : List Nat) (a : Array Nat), ((cs.map fun c => (⟨#[c]⟩ : Str)).foldl (fun acc p => acc ++ ("" : Str).cps ++ p.cps) a).toList = a.toList ++ cs := by
    intro cs
    induction cs with
    | nil => intro a; simp
    | cons c cs ih => intro a; rw [List.map_cons, List.foldl_cons, ih]; simp [h0]
  unfold Txt.join Builtin.Str.glued
  cases cs with
  | nil => rfl
  | cons c cs => simp only [List.map_cons, List.drop_succ_cons, List.drop_zero, List.headD_cons]; rw [h]; simp
theorem txts_sg : ∀ cs : List Nat, txts (cs.map sg) = some (cs.map fun c => (⟨#[c]⟩ : Str))
  | [] => rfl
  | c :: cs => by simp [txts, txts_sg cs]
theorem joinD_sg (cs : List Nat) (hl : cs.length ≤ 1000) : ∃ s, joinD "" (.n .lst .own (cs.map sg)) = some (.str s) ∧ s.cps.toList = cs := by
  refine ⟨_, ?_, join_sg cs⟩
  unfold joinD
  simp only [txts_sg, Option.bind_some]
  rw [if_pos]
  have h1 : ∀ cs : List Nat, ((cs.map fun c => (⟨#[c]⟩ : Str)).map (·.length)).sum = cs.length := by
    intro cs
    induction cs with
    | nil => rfl
    | cons c cs ih => simp only [List.map_cons, List.sum_cons, ih, List.length_cons]; show 1 + cs.length = _; omega
  have h2 : ("" : Str).length = 0 := rfl
  rw [h1, h2]
  omega
theorem atI_mem {α : Type} {xs : List α} {r : Int} (h0 : 0 ≤ r) (h1 : r < xs.length) : ∃ x ∈ xs, atI xs r = some x := by
  have h2 : r.toNat < xs.length := by omega
  refine ⟨xs[r.toNat], List.getElem_mem h2, ?_⟩
  unfold atI ixN
  rw [if_pos h0, if_pos h1]
  simp [h2]
theorem ixK_mem {w : Fl} {xs : List D} {r : Int} (h0 : 0 ≤ r) (h1 : r < xs.length) (hk : ∀ x ∈ xs, x.kept = true) : ∃ x ∈ xs, ixK (.n .lst w xs) (.v (.int r)) = some x := by
  obtain ⟨x, hx, e⟩ := atI_mem h0 h1
  refine ⟨x, hx, ?_⟩
  simp only [ixK, ixD, e]
  simp [hk x hx]
theorem ixK_str {s : Str} {r : Int} (hl : s.length ≤ 100000) (h0 : 0 ≤ r) (h1 : r < s.length) : ∃ c ∈ s.cps.toList, ixK (.v (.str s)) (.v (.int r)) = some (sg c) := by
  obtain ⟨x, hx, e⟩ := atI_mem (xs := s.cps.toList) h0 (by rw [← len_cps]; exact h1)
  refine ⟨x, hx, ?_⟩
  simp only [ixK, ixD, e, hl, if_true]
  rfl
/-- a draw from the box in slot 0 -/
theorem take_io0 {a b c m : Int} {δ : Sl} {e : DE} (hb : 0 ≤ b) (hb2 : b < 2147483647) (hm : 0 < m) (hm2 : m < 1073741824) (he : e (some (boxD a b c) :: δ) = .ok (.int m) (some (boxD a b c) :: δ)) : ∃ r a' c', 0 ≤ r ∧ r < m ∧ dCallIO F__law_take [.o 0, .v e] (some (boxD a b c) :: δ) = .ok (.int r) (some (boxD a' b c') :: δ) := by
  obtain ⟨r, a', c', h1, h2, h3⟩ := take_ok a b c m hb hb2 hm hm2
  refine ⟨r, a', c', h1, h2, ?_⟩
  unfold dCallIO
  simp only [dArgs, List.getElem?_cons_zero, Option.join_some, Option.isSome_some, if_true, he, bind_ok']
  simp only [tk, List.getElem?_cons_zero, Option.join_some, Option.bind_some, Fs.D.free, if_true, Option.map_some, List.set_cons_zero, res, h3, putB]
theorem take_io2 {a b c m : Int} {x0 x1 : Option D} {δ : Sl} {e : DE} (hb : 0 ≤ b) (hb2 : b < 2147483647) (hm : 0 < m) (hm2 : m < 1073741824) (he : e (x0 :: x1 :: some (boxD a b c) :: δ) = .ok (.int m) (x0 :: x1 :: some (boxD a b c) :: δ)) : ∃ r a' c', 0 ≤ r ∧ r < m ∧ dCallIO F__law_take [.o 2, .v e] (x0 :: x1 :: some (boxD a b c) :: δ) = .ok (.int r) (x0 :: x1 :: some (boxD a' b c') :: δ) := by
  obtain ⟨r, a', c', h1, h2, h3⟩ := take_ok a b c m hb hb2 hm hm2
  refine ⟨r, a', c', h1, h2, ?_⟩
  unfold dCallIO
  simp only [dArgs, List.getElem?_cons_succ, List.getElem?_cons_zero, Option.join_some, Option.isSome_some, if_true, he, bind_ok']
  simp only [tk, List.getElem?_cons_succ, List.getElem?_cons_zero, Option.join_some, Option.bind_some, Fs.D.free, if_true, Option.map_some, List.set_cons_succ, List.set_cons_zero, res, h3, putB]
theorem io2 {F : List D → Out D} {b x0 x1 : Option D} {δ : Sl} {d d' r : D} (hf : d.free = true) (hf' : d'.free = true) (h : F [d] = .ok r [some d']) : dCallIO F [.o 2] (x0 :: x1 :: some d :: δ) = .ok r (x0 :: x1 :: some d' :: δ) := by
  unfold dCallIO
  simp only [dArgs, List.getElem?_cons_succ, List.getElem?_cons_zero, Option.join_some, Option.isSome_some, if_true, bind_ok']
  simp only [tk, List.getElem?_cons_succ, List.getElem?_cons_zero, Option.join_some, Option.bind_some, hf, if_true, Option.map_some, List.set_cons_succ, List.set_cons_zero, res, h, putB, hf']
def things : List D := [.non, .bl true, .bl false, .int 0, .int 1, .int (-1), .int 200, .int 201, .int (10 ^ 29), .int (-10 ^ 29), .str "", .str "a", .str "0", .str "7", .str "07", .str "9999", .str "10000",
  .str "a1", .str "1a", .str "A", .str "abcdefgh", .str "abcdefghi", .str "a ", .str " 1", .str "+1", .str "-1", .str "a-b", .str "1.5", .str "a\n", .str "z9z9z9z9",
  .n .lst .shr [], .n .tup .shr [], .n (.dct []) .shr [], .n .lst .shr [.int 1], .n .tup .shr [.int 1], .n .tup .shr [.str "a", .int 0, .int 5, .int 2], .n (.dct [.inr "a"]) .shr [.int 1], .n .lst .shr [.n .lst .shr [.str "a", .int 0, .int 5, .int 2]], .str "\n", .str "mow 3 40 5"]
theorem strOf {s : Str} (h : (decide (s.length ≤ 10) && s.cps.toList.all fun c => decide (c < 128)) = true) : ∃ w n v, Th (.str s) w n v := by
  simp only [Bool.and_eq_true, decide_eq_true_eq, List.all_eq_true] at h
  exact ⟨_, _, _, Th.str s h.1 h.2⟩
theorem things_th : ∀ t ∈ things, t.kept = true ∧ ∃ w n v, Th t w n v := by
  intro t ht
  simp only [things, List.mem_cons, List.not_mem_nil, or_false] at ht
  rcases ht with h | h | h | h | h | h | h | h | h | h | h | h | h | h | h | h | h | h | h | h | h | h | h | h | h | h | h | h | h | h | h | h | h | h | h | h | h | h | h | h <;> subst h <;> refine ⟨rfl, ?_⟩ <;> first
    | exact ⟨_, _, _, Th.int _⟩
    | exact strOf (by decide +kernel)
    | exact ⟨_, _, _, Th.other _ (by simp [lend]) (s := "NoneType") rfl (by decide) (by decide)⟩
    | exact ⟨_, _, _, Th.other _ (by simp [lend]) (s := "bool") rfl (by decide) (by decide)⟩
    | exact ⟨_, _, _, Th.other _ (by simp [lend]) (s := "list") rfl (by decide) (by decide)⟩
    | exact ⟨_, _, _, Th.other _ (by simp [lend]) (s := "tuple") rfl (by decide) (by decide)⟩
    | exact ⟨_, _, _, Th.other _ (by simp [lend]) (s := "dict") rfl (by decide) (by decide)⟩
theorem thing_ok (a b c : Int) (hb : 0 ≤ b) (hb2 : b < 2147483647) : ∃ t a' c', t ∈ things ∧ F__law_thing [boxD a b c] = .ok t [some (boxD a' b c')] := by
  obtain ⟨r, a', c', h1, h2, h3⟩ := take_io0 (a := a) (b := b) (c := c) (m := 40) (δ := [some (.n .lst .own things)]) (e := dP (pC (.int 40))) hb hb2 (by decide) (by decide) (by simp)
  obtain ⟨t, ht, e⟩ := ixK_mem (w := .own) (xs := things) h1 h2 (fun x hx => (things_th x hx).1)
  refine ⟨t, a', c', ht, ?_⟩
  unfold F__law_thing
  rw [runF_c rfl]
  have hs : d__law_thing [some (boxD a b c), none] = dsRet (dVD ixK 1 (dCallIO F__law_take [.o 0, .v (dP (pC (.int 40)))])) [some (boxD a b c), some (.n .lst .own things)] := rfl
  show finF [true] (d__law_thing [some (boxD a b c), none]) = _
  rw [hs, dsRet_c]
  unfold dVD
  simp only [List.getElem?_cons_succ, List.getElem?_cons_zero, Option.join_some, Option.isSome_some, if_true, h3, bind_ok', Option.bind_some, e, ofO_some, retK_c, finF_rt]
  rfl
abbrev txElt : DE := dVD ixK 3 (dCallIO F__law_take [.o 0, .v (dP1 lenD (pVar 3))])
theorem comp_text {b : Int} (hb : 0 ≤ b) (hb2 : b < 2147483647) {z : Str} (hz0 : 0 < z.length) (hz : z.length ≤ 1000) {x1 x2 : D} : ∀ (n : Nat) (f : Nat → Nat) (acc : List D) (a c : Int), acc.length + n ≤ 1000 → ∃ (cs : List Nat) (a' c' : Int), cs.length = n ∧ (∀ k ∈ cs, k ∈ z.cps.toList) ∧ comp [4] (tgN 4) dtYes txElt ((List.range n).map fun k => D.int ((f k : Nat) : Int)) acc [some (boxD a b c), some x1, some x2, some (.str z), none] = .ok (acc ++ cs.map sg) [some (boxD a' b c'), some x1, some x2, some (.str z), none]
  | 0, f, acc, a, c, _ => ⟨[], a, c, rfl, by simp, by simp [comp]⟩
  | n + 1, f, acc, a, c, hl => by
    obtain ⟨r, a1, c1, h1, h2, h3⟩ := take_io0 (a := a) (b := b) (c := c) (m := z.length) (δ := [some x1, some x2, some (.str z), some (.int ((f 0 : Nat) : Int))]) (e := dP1 lenD (pVar 3)) hb hb2 (by omega) (by omega) (by simp [len_str (show z.length ≤ 100000 by omega)])
    obtain ⟨k, hk, e⟩ := ixK_str (s := z) (by omega) h1 h2
    obtain ⟨cs, a2, c2, g1, g2, g3⟩ := comp_text hb hb2 hz0 hz (x1 := x1) (x2 := x2) n (fun k => f (k + 1)) (acc ++ [sg k]) a1 c1 (by simp; omega)
    refine ⟨k :: cs, a2, c2, by simp [g1], by simp; exact ⟨by simpa using hk, by simpa using g2⟩, ?_⟩
    rw [List.range_succ_eq_map, List.map_cons, List.map_map]
    unfold comp
    have e0 : (tgN 4) (D.int ((f 0 : Nat) : Int)) [some (boxD a b c), some x1, some x2, some (.str z), none] = some [some (boxD a b c), some x1, some x2, some (.str z), some (D.int ((f 0 : Nat) : Int))] := rfl
    have he : txElt [some (boxD a b c), some x1, some x2, some (.str z), some (D.int ((f 0 : Nat) : Int))] = .ok (sg k) [some (boxD a1 b c1), some x1, some x2, some (.str z), some (D.int ((f 0 : Nat) : Int))] := by
      unfold txElt dVD
      simp only [List.getElem?_cons_succ, List.getElem?_cons_zero, Option.join_some, Option.isSome_some, if_true, h3, bind_ok', Option.bind_some, e, ofO_some]
    simp only [e0, dtYes, noX_ok, bind_ok', he, frz_v]
    rw [if_pos (by omega)]
    have e1 : wipeD [some (boxD a1 b c1), some x1, some x2, some (.str z), some (D.int ((f 0 : Nat) : Int))] [4] = [some (boxD a1 b c1), some x1, some x2, some (.str z), none] := rfl
    rw [e1]
    have e2 : ((fun (k : Nat) => D.int ((f k : Nat) : Int)) ∘ Nat.succ) = fun (k : Nat) => D.int ((f (k + 1) : Nat) : Int) := rfl
    rw [e2, g3]
    simp
def tx1 : Str := (" !\"#$&'()*+,-./0123456789:;<=>?@ABCDEFGHIJKLMNOPQRSTUVWXYZ[\\]^_`" : Str) ++ ("abcdefghijklmnopqrstuvwxyz{|}~\n" : Str)
def tx2 : Str := "abcdefghijklmnopqrstuvwxyz0123456789"
def tx3 : Str := "abcxyz019 5Az-+._:\n"
theorem tx_ok : ∀ s ∈ [tx3, tx2, tx1], (0 < s.length ∧ s.length ≤ 1000) ∧ ∀ c ∈ s.cps.toList, c < 128 := by decide +kernel
theorem text_ok (a b c : Int) (hb : 0 ≤ b) (hb2 : b < 2147483647) : ∃ (s : Str) (a' c' : Int), s.length ≤ 10 ∧ (∀ k ∈ s.cps.toList, k < 128) ∧ F__law_text [boxD a b c] = .ok (.str s) [some (boxD a' b c')] := by
  obtain ⟨r, a1, c1, h1, h2, h3⟩ := take_io0 (a := a) (b := b) (c := c) (m := 3) (δ := [some (.str tx1), some (.str tx2), none, none]) (e := dP (pC (.int 3))) hb hb2 (by decide) (by decide) (by simp)
  obtain ⟨zz, hzz, e⟩ := ixK_mem (w := .own) (xs := [tx3, tx2, tx1].map D.str) h1 h2 (fun x hx => by obtain ⟨s, _, rfl⟩ := List.mem_map.mp hx; rfl)
  obtain ⟨z, hz, rfl⟩ := List.mem_map.mp hzz
  obtain ⟨⟨z1, z2⟩, z3⟩ := tx_ok z hz
  obtain ⟨n, a2, c2, g1, g2, g3⟩ := take_io0 (a := a1) (b := b) (c := c1) (m := 10) (δ := [some (.str tx1), some (.str tx2), some (.str z), none]) (e := dP (pC (.int 10))) hb hb2 (by decide) (by decide) (by simp)
  obtain ⟨cs, a3, c3, k1, k2, k3⟩ := comp_text hb hb2 z1 z2 (x1 := .str tx1) (x2 := .str tx2) n.toNat id [] a2 c2 (by simp; omega)
  obtain ⟨s, s1, s2⟩ := joinD_sg cs (by omega)
  refine ⟨s, a3, c3, by rw [len_cps, s2]; omega, by rw [s2]; exact fun k hk => z3 k (k2 k hk), ?_⟩
  unfold F__law_text
  rw [runF_c rfl]
  have hs : d__law_text [some (boxD a b c), none, none, none, none] = (dsSeq (dsAsg (d2 ixK (dF mkLst (daCons (dP (pC (.str tx3))) (daCons (dP (pVar 2)) (daCons (dP (pVar 1)) daNil)))) (dCallIO F__law_take [.o 0, .v (dP (pC (.int 3)))])) (tgN 3)) (dsRet (d1 (joinD "") (dComp false [4] (diD itR (dCallIO F__law_take [.o 0, .v (dP (pC (.int 10)))])) (tgN 4) dtYes txElt)))) [some (boxD a b c), some (.str tx1), some (.str tx2), none, none] := rfl
  show finF [true] (d__law_text [some (boxD a b c), none, none, none, none]) = _
  rw [hs]
  have hm : dF mkLst (daCons (dP (pC (.str tx3))) (daCons (dP (pVar 2)) (daCons (dP (pVar 1)) daNil))) [some (boxD a b c), some (.str tx1), some (.str tx2), none, none] = .ok (.n .lst .own ([tx3, tx2, tx1].map D.str)) [some (boxD a b c), some (.str tx1), some (.str tx2), none, none] := rfl
  have hd : diD itR (dCallIO F__law_take [.o 0, .v (dP (pC (.int 10)))]) [some (boxD a1 b c1), some (.str tx1), some (.str tx2), some (.str z), none] = .ok ((List.range n.toNat).map fun k => D.int ((id k : Nat) : Int)) [some (boxD a2 b c2), some (.str tx1), some (.str tx2), some (.str z), none] := by
    unfold diD
    rw [g3]
    simp only [bind_ok', itR]
    rw [if_pos (by omega)]
    rfl
  have hc := dComp_c (keep := false) (ns := [4]) (tg := tgN 4) (tst := dtYes) (elt := txElt) hd k3
  rw [dsSeq_c, dsAsg_c, d2_c, hm, bind_ok', kd_c, h3, bind_ok', k2_c, pOp2_c, e, ofO_some, bind_ok', asgK_n, bind_ok', seqK_nx]
  show finF [true] ((dsRet (d1 (joinD "") (dComp false [4] (diD itR (dCallIO F__law_take [.o 0, .v (dP (pC (.int 10)))])) (tgN 4) dtYes txElt))) [some (boxD a1 b c1), some (.str tx1), some (.str tx2), some (.str z), none]) = _
  rw [dsRet_c, d1_c, hc, bind_ok', kf_c]
  simp only [List.nil_append, s1, ofO_some, bind_ok', retK_c, finF_rt]
  rfl
end Lw
/-! M6 -/
namespace Lw
open PySem PySem.Spec PyProof.Rows L2 Fs
theorem seq_nx {a b : DS} {s s1 : Sl} (h : a s = .ok .nx s1) : dsSeq a b s = b s1 := by unfold dsSeq; rw [h]; rfl
theorem frz_kept {d : D} (h : d.kept = true) : frz d = d := by
  match d, h with
  | .v x, _ => simp [frz]
  | .s x, _ => simp [frz]
  | .n k .shr ds, _ => simp [frz]
theorem len_scr {ns : List Int} : lenD (.s ns) = some (.int (ns.length : Int)) := rfl
theorem cell_ok (ns : List Int) (k : Nat) (hk : k ≤ 100) : ∃ i, (F__law_cell [.s ns, .int (k : Int)]).val = some (.int i) := by
  unfold F__law_cell
  rw [runF_c rfl]
  unfold d__law_cell
  by_cases h : (k : Int) < ns.length
  · obtain ⟨x, hx, e⟩ := atI_mem (xs := ns) (by omega) h
    refine ⟨x, ?_⟩
    have e2 : ixD (.s ns) (.v (.int (k : Int))) = some (.int x) := by simp only [ixD, e, Option.map_some]
    simp [len_scr, h, e2]
  · have e4 : ∀ i, cMul 48271 i = true := fun i => cMul_l (by decide)
    have e5 : ∀ i, cMul 7919 i = true := fun i => cMul_l (by decide)
    cases ns with
    | nil =>
      refine ⟨48271 * k + 7, ?_⟩
      have h0 : lenD (.s []) = some (.int 0) := rfl
      have h' : ¬ ((k : Int) < 0) := by omega
      have this : eqD (.v (.int 0)) (.v (.int 0)) = some (.bl true) := rfl
      simp [h0, h', e4, this]
    | cons y ys =>
      have hp : (0 : Int) < ((y :: ys).length : Int) := by simp only [List.length_cons]; omega
      have hz : ¬ ((y :: ys).length : Int) = 0 := by omega
      generalize hns : y :: ys = ns at *
      have hm := emod_b k ns.length hp
      obtain ⟨x, hx, e⟩ := atI_mem (xs := ns) hm.1 hm.2
      have e2 : ixK (.s ns) (.v (.int ((k : Int) % ns.length))) = some (.int x) := by simp only [ixK, ixD, e, Option.map_some]; rfl
      have e3 : eqD (.v (.int (ns.length : Int))) (.v (.int 0)) = some (.bl false) := by
        simp [eqD, pd, PyData.eqv, SeqAt.shaped, PyData.canLay0, PyData.depth, hz]
        intro hh; subst hh; exact hz rfl
      have e6 : cDiv x ((k : Int) + 1) = true := cDiv_p (by omega) (by omega)
      refine ⟨x / (k + 1) + 7919 * k, ?_⟩
      simp [len_scr, h, e3, cMod_p hp, e2, e5, e6]
theorem box_ok (i : Int) : ∃ a b, 0 ≤ b ∧ b < 2147483647 ∧ (F__law_box [.int i]).val = some (boxD a b 0) := by
  have hm := emod_b i 2147483647 (by decide)
  have e1 : powD (.v (.int 10)) (.v (.int 18)) = some (.int 1000000000000000000) := rfl
  have e2 : ∀ j, ∃ a, maxD (.v (.int 0)) (.v (.int j)) = some (.int a) := fun j => ⟨_, rfl⟩
  obtain ⟨a, e3⟩ := e2 (i - 1000000000000000000)
  refine ⟨a, i % 2147483647, hm.1, hm.2, ?_⟩
  unfold F__law_box
  rw [runF_c rfl]
  simp [d__law_box, e1, e3, cMod_p (show (0 : Int) < 2147483647 by decide), mkLst, frzs]
abbrev p9 : DE := dPP powD (pC (.int 10)) (pC (.int 9))
theorem p9_ok (s : Sl) : p9 s = .ok (.int 1000000000) s := rfl
theorem draw9 {a b c : Int} {x0 x1 : Option D} {δ : Sl} (hb : 0 ≤ b) (hb2 : b < 2147483647) : ∃ r a' c', dCallIO F__law_take [.o 2, .v p9] (x0 :: x1 :: some (boxD a b c) :: δ) = .ok (.int r) (x0 :: x1 :: some (boxD a' b c') :: δ) := by
  obtain ⟨r, a', c', _, _, h⟩ := take_io2 (a := a) (c := c) (x0 := x0) (x1 := x1) (δ := δ) (e := p9) hb hb2 (m := 1000000000) (by decide) (by decide) (p9_ok _)
  exact ⟨r, a', c', h⟩
theorem drawC {a b c : Int} {x0 x1 : Option D} {δ : Sl} (m : Int) (hb : 0 ≤ b) (hb2 : b < 2147483647) (hm : 0 < m) (hm2 : m < 1073741824) : ∃ r a' c', 0 ≤ r ∧ r < m ∧ dCallIO F__law_take [.o 2, .v (dP (pC (.int m)))] (x0 :: x1 :: some (boxD a b c) :: δ) = .ok (.int r) (x0 :: x1 :: some (boxD a' b c') :: δ) :=
  take_io2 (e := dP (pC (.int m))) hb hb2 hm hm2 rfl
abbrev stT : DS := dsAsg (d2 ixK (dF mkLst (daCons (dCallIO F__law_thing [.o 2]) (daCons (dCallIO F__law_text [.o 2]) (daCons (d2 subD (dCallIO F__law_take [.o 2, .v p9]) (dCallIO F__law_take [.o 2, .v p9])) daNil)))) (dCallIO F__law_take [.o 2, .v (dP (pC (.int 3)))])) (tgN 3)
theorem stT_ok {a b c : Int} {x0 x1 y3 : Option D} {δ : Sl} (hb : 0 ≤ b) (hb2 : b < 2147483647) : ∃ t a' c', t.kept = true ∧ (∃ w n v, Th t w n v) ∧ stT (x0 :: x1 :: some (boxD a b c) :: y3 :: δ) = .ok .nx (x0 :: x1 :: some (boxD a' b c') :: some t :: δ) := by
  obtain ⟨t, a1, c1, ht, h1⟩ := thing_ok a b c hb hb2
  obtain ⟨s, a2, c2, hs1, hs2, h2⟩ := text_ok a1 b c1 hb hb2
  obtain ⟨r1, a3, c3, h3⟩ := draw9 (a := a2) (c := c2) (x0 := x0) (x1 := x1) (δ := y3 :: δ) hb hb2
  obtain ⟨r2, a4, c4, h4⟩ := draw9 (a := a3) (c := c3) (x0 := x0) (x1 := x1) (δ := y3 :: δ) hb hb2
  obtain ⟨r, a5, c5, hr, hr2, h5⟩ := drawC (a := a4) (c := c4) (x0 := x0) (x1 := x1) (δ := y3 :: δ) 3 hb hb2 (by decide) (by decide)
  have g1 := io2 (b := none) (x0 := x0) (x1 := x1) (δ := y3 :: δ) rfl rfl h1
  have g2 := io2 (b := none) (x0 := x0) (x1 := x1) (δ := y3 :: δ) rfl rfl h2
  obtain ⟨tk, tth⟩ := things_th t ht
  obtain ⟨u, hu, e⟩ := ixK_mem (w := .own) (xs := [t, .str s, .int (r1 - r2)]) hr hr2 (fun x hx => by
    simp only [List.mem_cons, List.not_mem_nil, or_false] at hx
    rcases hx with rfl | rfl | rfl
    · exact tk
    · rfl
    · rfl)
  refine ⟨u, a5, c5, ?_, ?_, ?_⟩
  · simp only [List.mem_cons, List.not_mem_nil, or_false] at hu
    rcases hu with rfl | rfl | rfl
    · exact tk
    · rfl
    · rfl
  · simp only [List.mem_cons, List.not_mem_nil, or_false] at hu
    rcases hu with rfl | rfl | rfl
    · exact tth
    · exact ⟨_, _, _, Th.str s hs1 hs2⟩
    · exact ⟨_, _, _, Th.int _⟩
  · have hm : mkLst [t, .str s, .int (r1 - r2)] = some (.n .lst .own [t, .str s, .int (r1 - r2)]) := by simp [mkLst, frzs, frz_kept tk]
    simp [g1, g2, h3, h4, hm, h5, e]
abbrev stL : DS := dsAsg (d2 ixK (dF mkLst (daCons (dP (pC (.int 0))) (daCons (dP (pC (.int 1))) (daCons (dPP subD (pC (.int 0)) (pC (.int 5))) (daCons (dCallIO F__law_take [.o 2, .v p9]) daNil))))) (dCallIO F__law_take [.o 2, .v (dP (pC (.int 4)))])) (tgN 4)
theorem int_mem {xs : List Int} {x : D} (h : x ∈ xs.map D.int) : ∃ i, x = .int i := by obtain ⟨i, _, rfl⟩ := List.mem_map.mp h; exact ⟨i, rfl⟩
theorem ixK_ints {w : Fl} {xs : List Int} {r : Int} (h0 : 0 ≤ r) (h1 : r < xs.length) : ∃ i, ixK (.n .lst w (xs.map D.int)) (.v (.int r)) = some (.int i) := by
  obtain ⟨x, hx, e⟩ := ixK_mem (w := w) (xs := xs.map D.int) h0 (by simpa using h1) (fun x hx => by obtain ⟨i, rfl⟩ := int_mem hx; rfl)
  obtain ⟨i, rfl⟩ := int_mem hx
  exact ⟨i, e⟩
theorem stL_ok {a b c : Int} {x0 x1 y3 y4 : Option D} {δ : Sl} (hb : 0 ≤ b) (hb2 : b < 2147483647) : ∃ i a' c', stL (x0 :: x1 :: some (boxD a b c) :: y3 :: y4 :: δ) = .ok .nx (x0 :: x1 :: some (boxD a' b c') :: y3 :: some (.int i) :: δ) := by
  obtain ⟨r1, a3, c3, h3⟩ := draw9 (a := a) (c := c) (x0 := x0) (x1 := x1) (δ := y3 :: y4 :: δ) hb hb2
  obtain ⟨r, a5, c5, hr, hr2, h5⟩ := drawC (a := a3) (c := c3) (x0 := x0) (x1 := x1) (δ := y3 :: y4 :: δ) 4 hb hb2 (by decide) (by decide)
  obtain ⟨i, e⟩ := ixK_ints (w := .own) (xs := [0, 1, 0 - 5, r1]) hr hr2
  refine ⟨i, a5, c5, ?_⟩
  have hm : mkLst [.int 0, .int 1, .int (0 - 5), .int r1] = some (.n .lst .own ([0, 1, 0 - 5, r1].map D.int)) := by simp [mkLst, frzs]
  unfold stL
  simp only [dsAsg_c, d2_c, dF_c, daCons_c, dP_c, pC_c, filt_v, ofO_some, bind_ok', consK_c, dPP_c, pOp2_c, pOp2_sub, h3, daNil_c, consK2_c, fK_c, hm, kd_c, h5, k2_c, e, asgK_n]
  rfl
abbrev stH : DS := dsAsg (d2 ixK (dF mkLst (daCons (dP (pC (.int 0))) (daCons (dP (pC (.int 200))) (daCons (dP (pC (.int 199))) (daCons (dP (pVar 4)) (daCons (dPP subD (pVar 4) (pC (.int 1))) (daCons (dPP powD (pC (.int 10)) (pC (.int 29))) daNil))))))) (dCallIO F__law_take [.o 2, .v (dP (pC (.int 6)))])) (tgN 5)
theorem stH_ok {a b c lo : Int} {x0 x1 y3 y5 : Option D} {δ : Sl} (hb : 0 ≤ b) (hb2 : b < 2147483647) : ∃ i a' c', stH (x0 :: x1 :: some (boxD a b c) :: y3 :: some (.int lo) :: y5 :: δ) = .ok .nx (x0 :: x1 :: some (boxD a' b c') :: y3 :: some (.int lo) :: some (.int i) :: δ) := by
  obtain ⟨r, a5, c5, hr, hr2, h5⟩ := drawC (a := a) (c := c) (x0 := x0) (x1 := x1) (δ := y3 :: some (.int lo) :: y5 :: δ) 6 hb hb2 (by decide) (by decide)
  obtain ⟨i, e⟩ := ixK_ints (w := .own) (xs := [0, 200, 199, lo, lo - 1, 10 ^ 29]) hr hr2
  refine ⟨i, a5, c5, ?_⟩
  have hp : powD (.v (.int 10)) (.v (.int 29)) = some (.v (.int (10 ^ 29))) := rfl
  have hm : mkLst [.v (.int 0), .v (.int 200), .v (.int 199), .v (.int lo), .v (.int (lo - 1)), .v (.int (10 ^ 29))] = some (.n .lst .own ([0, 200, 199, lo, lo - 1, 10 ^ 29].map D.int)) := by
    unfold mkLst
    rw [if_pos (by simp)]
    simp only [frzs, frz_v]
    rfl
  unfold stH
  simp only [dsAsg_c, d2_c, dF_c, daCons_c, dP_c, pC_c, pVar_s, pVar_z, filt_v, ofO_some, bind_ok', consK_c, dPP_c, pOp2_c, pOp2_sub, hp, daNil_c, consK2_c, fK_c, hm, kd_c, h5, k2_c, e, asgK_n]
  rfl
abbrev inBody : DS := dsIf (dtV (d2 neD (dCall F_is_within (daLend (pVar 3) (daLend (pVar 6) (daLend (pVar 7) daNil)))) (dCh leD leD (dP (pVar 6)) (dP (pVar 3)) (dP (pVar 7))))) (dsRet (dP (pC (.bl false)))) dsNext
theorem ne1 (b : Bool) : neD (.v (.bl b)) (.v (.bl b)) = some (.bl false) := by cases b <;> rfl
theorem in_loop {x0 x1 x2 x4 x5 : Option D} {i : Int} : ∀ (ps : List (Int × Int)) (x6 x7 : Option D), ∃ y6 y7, loop (tgT [tgN 6, tgN 7]) inBody (ps.map fun p => D.n .tup .shr [.int p.1, .int p.2]) [x0, x1, x2, some (.int i), x4, x5, x6, x7] = .ok .nx [x0, x1, x2, some (.int i), x4, x5, y6, y7]
  | [], x6, x7 => ⟨x6, x7, rfl⟩
  | p :: ps, x6, x7 => by
    obtain ⟨y6, y7, h⟩ := in_loop (x0 := x0) (x1 := x1) (x2 := x2) (x4 := x4) (x5 := x5) (i := i) ps (some (.int p.1)) (some (.int p.2))
    refine ⟨y6, y7, ?_⟩
    rw [List.map_cons, loop_cons (s1 := [x0, x1, x2, some (.int i), x4, x5, some (.int p.1), some (.int p.2)]) rfl]
    have k1 := @callK_val _ _ _ [x0, x1, x2, some (.int i), x4, x5, some (.int p.1), some (.int p.2)] (within_ok (Th.int i) p.1 p.2)
    have hc : dCh leD leD (dP (pVar 6)) (dP (pVar 3)) (dP (pVar 7)) [x0, x1, x2, some (.int i), x4, x5, some (.int p.1), some (.int p.2)] = .ok (.bl (true && inB (.int i) p.1 p.2)) [x0, x1, x2, some (.int i), x4, x5, some (.int p.1), some (.int p.2)] := by
      by_cases h2 : p.1 ≤ i
      · simp [inB, h2]
      · simp [inB, h2]
    have hb : inBody [x0, x1, x2, some (.int i), x4, x5, some (.int p.1), some (.int p.2)] = .ok .nx [x0, x1, x2, some (.int i), x4, x5, some (.int p.1), some (.int p.2)] := by
      simp [k1, hc, ne1]
    rw [hb, bind_ok', loopK_nx, h]
abbrev stB : DS := dsAsg (dCall F__law_box (daCons (dCall F__law_cell (daLend (pVar 0) (daLend (pVar 1) daNil))) daNil)) (tgN 2)
abbrev stR : DS := dsIf (dtNot (dtV (dCall F__law_right (daLend (pVar 3) (daLend (pVar 4) (daLend (pVar 5) daNil)))))) (dsRet (dP (pC (.bl false)))) dsNext
abbrev stI : DS := dsIf (dtV (dCall F__law_whole (daLend (pVar 3) daNil))) (dsFor (diD (itL true) (dF mkLst (daCons (dF mkTup (daCons (dP (pVar 3)) (daCons (dP (pVar 5)) daNil))) (daCons (dF mkTup (daCons (dP (pVar 4)) (daCons (dP (pVar 3)) daNil))) (daCons (dF mkTup (daCons (dP (pVar 3)) (daCons (dP (pVar 3)) daNil))) (daCons (dF mkTup (daCons (dPP addD (pVar 3) (pC (.int 1))) (daCons (dP (pVar 5)) daNil))) (daCons (dF mkTup (daCons (dP (pVar 4)) (daCons (dPP subD (pVar 3) (pC (.int 1))) daNil))) daNil))))))) (tgT [tgN 6, tgN 7]) inBody) dsNext
abbrev lawBody : DS := dsSeq stB (dsSeq stT (dsSeq stL (dsSeq stH (dsSeq stR stI))))
theorem body_ok (ns : List Int) (k : Nat) (hk : k ≤ 100) (y2 y3 y4 y5 y6 y7 : Option D) : ∃ z2 z3 z4 z5 z6 z7, lawBody [some (.s ns), some (.int (k : Int)), y2, y3, y4, y5, y6, y7] = .ok .nx [some (.s ns), some (.int (k : Int)), z2, z3, z4, z5, z6, z7] := by
  obtain ⟨i, hi⟩ := cell_ok ns k hk
  obtain ⟨a, b, hb, hb2, hx⟩ := box_ok i
  have s1 : stB [some (.s ns), some (.int (k : Int)), y2, y3, y4, y5, y6, y7] = .ok .nx [some (.s ns), some (.int (k : Int)), some (boxD a b 0), y3, y4, y5, y6, y7] := by
    have k1 := fun s => @callK_val _ _ _ s hi
    have k2 := fun s => @callK_val _ _ _ s hx
    have hl : lend (.s ns) = .s ns := by simp [lend]
    simp [hl, k1, k2]
  obtain ⟨t, a1, c1, tk, ⟨w, n, v, th⟩, s2⟩ := stT_ok (a := a) (c := 0) (x0 := some (.s ns)) (x1 := some (.int (k : Int))) (y3 := y3) (δ := [y4, y5, y6, y7]) hb hb2
  obtain ⟨lo, a2, c2, s3⟩ := stL_ok (a := a1) (c := c1) (x0 := some (.s ns)) (x1 := some (.int (k : Int))) (y3 := some t) (y4 := y4) (δ := [y5, y6, y7]) hb hb2
  obtain ⟨hi', a3, c3, s4⟩ := stH_ok (a := a2) (c := c2) (lo := lo) (x0 := some (.s ns)) (x1 := some (.int (k : Int))) (y3 := some t) (y5 := y5) (δ := [y6, y7]) hb hb2
  have s5 : stR [some (.s ns), some (.int (k : Int)), some (boxD a3 b c3), some t, some (.int lo), some (.int hi'), y6, y7] = .ok .nx [some (.s ns), some (.int (k : Int)), some (boxD a3 b c3), some t, some (.int lo), some (.int hi'), y6, y7] := by
    have k1 := fun s => @callK_val _ _ _ s (right_ok th lo hi')
    simp [th.l, k1]
  unfold lawBody
  rw [seq_nx s1, seq_nx s2, seq_nx s3, seq_nx s4, seq_nx s5]
  have k2 := fun s => @callK_val _ _ _ s th.lw
  cases w with
  | false => exact ⟨some (boxD a3 b c3), some t, some (.int lo), some (.int hi'), y6, y7, by simp [th.l, k2]⟩
  | true =>
    obtain ⟨j, rfl⟩ := th.wi rfl
    obtain ⟨z6, z7, hl⟩ := in_loop (x0 := some (.s ns)) (x1 := some (.int (k : Int))) (x2 := some (boxD a3 b c3)) (x4 := some (.int lo)) (x5 := some (.int hi')) (i := j) [(j, hi'), (lo, j), (j, j), (j + 1, hi'), (lo, j - 1)] y6 y7
    refine ⟨some (boxD a3 b c3), some (.int j), some (.int lo), some (.int hi'), z6, z7, ?_⟩
    simp only [List.map_cons, List.map_nil] at hl
    unfold stI
    have hd : diD (itL true) (dF mkLst (daCons (dF mkTup (daCons (dP (pVar 3)) (daCons (dP (pVar 5)) daNil))) (daCons (dF mkTup (daCons (dP (pVar 4)) (daCons (dP (pVar 3)) daNil))) (daCons (dF mkTup (daCons (dP (pVar 3)) (daCons (dP (pVar 3)) daNil))) (daCons (dF mkTup (daCons (dPP addD (pVar 3) (pC (.int 1))) (daCons (dP (pVar 5)) daNil))) (daCons (dF mkTup (daCons (dP (pVar 4)) (daCons (dPP subD (pVar 3) (pC (.int 1))) daNil))) daNil)))))) [some (.s ns), some (.int (k : Int)), some (boxD a3 b c3), some (.int j), some (.int lo), some (.int hi'), y6, y7] = .ok [.n .tup .shr [.int j, .int hi'], .n .tup .shr [.int lo, .int j], .n .tup .shr [.int j, .int j], .n .tup .shr [.int (j + 1), .int hi'], .n .tup .shr [.int lo, .int (j - 1)]] [some (.s ns), some (.int (k : Int)), some (boxD a3 b c3), some (.int j), some (.int lo), some (.int hi'), y6, y7] := rfl
    rw [dsIf_c, dtV_c, dCall_c, daLend_v]
    simp only [List.getElem?_cons_succ, List.getElem?_cons_zero, Option.join_some, daNil_c, bind_ok', consK2_c, lend_v, k2, dtVK_c, ifK_t]
    rw [dsFor_c, hd, bind_ok', forK_c, hl]
theorem law_loop (ns : List Int) : ∀ (n : Nat) (f : Nat → Nat) (hf : ∀ k, k < n → f k ≤ 100) (y1 y2 y3 y4 y5 y6 y7 : Option D), ∃ z1 z2 z3 z4 z5 z6 z7, loop (tgN 1) lawBody ((List.range n).map fun k => D.int ((f k : Nat) : Int)) [some (.s ns), y1, y2, y3, y4, y5, y6, y7] = .ok .nx [some (.s ns), z1, z2, z3, z4, z5, z6, z7]
  | 0, f, hf, y1, y2, y3, y4, y5, y6, y7 => ⟨y1, y2, y3, y4, y5, y6, y7, rfl⟩
  | n + 1, f, hf, y1, y2, y3, y4, y5, y6, y7 => by
    obtain ⟨z2, z3, z4, z5, z6, z7, h1⟩ := body_ok ns (f 0) (hf 0 (by omega)) y2 y3 y4 y5 y6 y7
    obtain ⟨w1, w2, w3, w4, w5, w6, w7, h2⟩ := law_loop ns n (fun k => f (k + 1)) (fun k hk => hf (k + 1) (by omega)) (some (.int ((f 0 : Nat) : Int))) z2 z3 z4 z5 z6 z7
    refine ⟨w1, w2, w3, w4, w5, w6, w7, ?_⟩
    rw [List.range_succ_eq_map, List.map_cons, List.map_map, loop_consN]
    simp only [List.set_cons_succ, List.set_cons_zero]
    rw [h1, bind_ok', loopK_nx]
    exact h2
theorem law_true (ns : List Int) (h : ns.length ≤ 63) : ∃ s, F_law [.s ns] = .ok (.bl true) s := by
  have h1 : ∃ m : Int, 0 ≤ m ∧ m ≤ 60 ∧ diD itR (dPD maxD (pC (.int 12)) (dDP minD (dP1 lenD (pVar 0)) (pC (.int 60)))) [some (.s ns), none, none, none, none, none, none, none] = .ok ((List.range m.toNat).map fun k => D.int ((id k : Nat) : Int)) [some (.s ns), none, none, none, none, none, none, none] := by
    have e1 : minD (.v (.int ns.length)) (.v (.int 60)) = some (.int (if (60 : Int) < ns.length then 60 else ns.length)) := rfl
    have e2 : ∀ j, maxD (.v (.int 12)) (.v (.int j)) = some (.int (if j > (12 : Int) then j else 12)) := fun _ => rfl
    generalize hj : (if (60 : Int) < ns.length then (60 : Int) else ns.length) = j at e1
    have hj2 : j ≤ 60 := by rw [← hj]; split <;> omega
    generalize hm : (if j > (12 : Int) then j else 12) = m at e2
    have hm2 : 0 ≤ m ∧ m ≤ 60 := by rw [← hm]; split <;> omega
    refine ⟨m, hm2.1, hm2.2, ?_⟩
    have e3 : itR (.v (.int m)) = some ((List.range m.toNat).map fun k => D.int ((id k : Nat) : Int)) := by
      simp only [itR]
      rw [if_pos (by omega)]
      rfl
    unfold diD
    have e4 : maxD (.v (.int 12)) (.v (.int j)) = some (.int m) := by rw [← hm]; rfl
    simp only [dPD_k, dDP_c, dP1_c, pVar_z, Option.bind_some, len_scr, ofO_some, bind_ok', k1_c, pC_c, pOp2_c, e1, k2_c, e4, e3]
  obtain ⟨m, hm, hm2, h1⟩ := h1
  obtain ⟨z1, z2, z3, z4, z5, z6, z7, h2⟩ := law_loop ns m.toNat id (fun k hk => by simp only [id]; omega) none none none none none none none
  refine ⟨ioF [false] [some (.s ns), z1, z2, z3, z4, z5, z6, z7], ?_⟩
  unfold F_law
  rw [runF_c rfl]
  show finF [false] (d_law [some (.s ns), none, none, none, none, none, none, none]) = _
  unfold d_law
  have h3 : dsFor (diD itR (dPD maxD (pC (.int 12)) (dDP minD (dP1 lenD (pVar 0)) (pC (.int 60))))) (tgN 1) lawBody [some (.s ns), none, none, none, none, none, none, none] = .ok .nx [some (.s ns), z1, z2, z3, z4, z5, z6, z7] := by
    rw [dsFor_c, h1, bind_ok', forK_c, h2]
  rw [seq_nx h3]
  rfl
end Lw
/-! K01_W -/
set_option maxHeartbeats 4000000
namespace Lw
open PySem PySem.Spec PyProof.Rows L2 Fs
def top (i : Nat) : Stmt := PySem.Challenge.pw_failslack_k01_numbers_and_names.main.body.getD i (.Pass ⟨0, 0, 0, 0⟩)
abbrev s__law_box : Stmt := top 11
def N__law_box : List Str := ["_law_cell_here"]
abbrev s__law_whole : Stmt := top 15
def N__law_whole : List Str := ["_law_thing_here"]
abbrev s__law_cell : Stmt := top 10
def N__law_cell : List Str := ["_law_script", "_law_k"]
abbrev s__law_take : Stmt := top 12
def N__law_take : List Str := ["_law_box_here", "_law_many", "_law_digit", "_law_number_here"]
abbrev s_number_of : Stmt := top 8
def N_number_of : List Str := ["thing", "sign"]
abbrev s__law_number : Stmt := top 17
def N__law_number : List Str := ["_law_thing_here", "_law_number_here", "_law_sign"]
abbrev s_is_whole : Stmt := top 5
def N_is_whole : List Str := ["thing"]
abbrev s_is_within : Stmt := top 6
def N_is_within : List Str := ["thing", "low", "high"]
abbrev s_is_name : Stmt := top 7
def N_is_name : List Str := ["thing", "sign"]
abbrev s__law_is_name : Stmt := top 16
def N__law_is_name : List Str := ["_law_thing_here", "_law_letters", "_law_sign"]
abbrev s__law_right : Stmt := top 18
def N__law_right : List Str := ["_law_thing_here", "_law_low", "_law_high", "_law_whole_here", "_law_inside", "_law_told", "_law_one", "_law_found", "_law_due"]
abbrev s__law_thing : Stmt := top 13
def N__law_thing : List Str := ["_law_box_here", "_law_some"]
abbrev s__law_text : Stmt := top 14
def N__law_text : List Str := ["_law_box_here", "_law_signs", "_law_known", "_law_some", "_law_k"]
abbrev s_law : Stmt := top 19
def N_law : List Str := ["_law_script", "_law_k", "_law_box_here", "_law_thing_here", "_law_low", "_law_high", "_law_one", "_law_other"]
structure Tx (mg : Str → Option Value) : Prop where
  f_all : mg "all" = none
  f_bool : mg "bool" = none
  f_int : mg "int" = none
  f_isinstance : mg "isinstance" = none
  f_len : mg "len" = none
  f_max : mg "max" = none
  f_min : mg "min" = none
  f_range : mg "range" = none
  f_str : mg "str" = none
  c_FIGURES : ∃ u, mg "FIGURES" = some u ∧ RelV (.str "0123456789") u
  c_LETTERS : ∃ u, mg "LETTERS" = some u ∧ RelV (.str "abcdefghijklmnopqrstuvwxyz") u
  c_LONGEST_NAME : ∃ u, mg "LONGEST_NAME" = some u ∧ RelV (.int 8) u
  c_MOST_FIGURES : ∃ u, mg "MOST_FIGURES" = some u ∧ RelV (.int 4) u
section
variable {P : Program} {w : World} {K : PySem.W.Frag} {mg : Str → Option Value} {base : Heap} {f : Addr} {fd : FuncData} {cl : Ec} {xf : Nat → List Str}
theorem sc__law_box : FnScope N__law_box ["_law_cell_here"] (defScope s__law_box) := ⟨rfl, rfl, rfl, by decide +kernel, rfl, by decide +kernel, by decide +kernel⟩
theorem ok__law_box (hK : cl.K = K) (T : Tx mg) (Fd : FunD K "_law_box" "_law_box" (defArgs s__law_box) (defBody s__law_box) (defScope s__law_box) [] [] f fd)  : FnOk P w K mg base (L2.CX P w) 1 f fd ["_law_cell_here"] (spF cl xf 1 F__law_box) := by
  subst hK
  refine fn_ok (N := N__law_box) (ws := fun _ => false) (ds := d__law_box) (io := [false]) Fd sc__law_box rfl (by decide) (fun _ _ => rfl) fun cdv A outer s H E hr => ?_
  have tk := takes_of (X := cxOf (L2.CX P w) P w cl.K mg base N__law_box "_law_box" (defScope s__law_box) f cdv A outer s H E) (E := E) rfl rfl rfl rfl
  have hu := hu_of hr
  have nd := sc__law_box.nd
  exact (b_one (s_ret (d_lst (a_cons (d_pd (o_max T.f_max) g_max k_int (d_pd o_sub g_sub (k_var 0) (d_pp o_pow g_pow k_int k_int))) (a_cons (d_pp o_mod g_mod (k_var 0) k_int) (a_cons (d_p k_int) a_nil))))))
theorem sc__law_whole : FnScope N__law_whole ["_law_thing_here"] (defScope s__law_whole) := ⟨rfl, rfl, rfl, by decide +kernel, rfl, by decide +kernel, by decide +kernel⟩
theorem ok__law_whole (hK : cl.K = K) (T : Tx mg) (Fd : FunD K "_law_whole" "_law_whole" (defArgs s__law_whole) (defBody s__law_whole) (defScope s__law_whole) [] [] f fd)  : FnOk P w K mg base (L2.CX P w) 1 f fd ["_law_thing_here"] (spF cl xf 1 F__law_whole) := by
  subst hK
  refine fn_ok (N := N__law_whole) (ws := fun _ => false) (ds := d__law_whole) (io := [false]) Fd sc__law_whole rfl (by decide) (fun _ _ => rfl) fun cdv A outer s H E hr => ?_
  have tk := takes_of (X := cxOf (L2.CX P w) P w cl.K mg base N__law_whole "_law_whole" (defScope s__law_whole) f cdv A outer s H E) (E := E) rfl rfl rfl rfl
  have hu := hu_of hr
  have nd := sc__law_whole.nd
  exact (b_one (s_ret (d_and (d_1p (o_isi (T := "int") T.f_isinstance T.f_int (by decide +kernel)) g_isi (k_var 0)) (d_one (d_not (d_1p (o_isi (T := "bool") T.f_isinstance T.f_bool (by decide +kernel)) g_isi (k_var 0)))))))
theorem sc__law_cell : FnScope N__law_cell ["_law_script", "_law_k"] (defScope s__law_cell) := ⟨rfl, rfl, rfl, by decide +kernel, rfl, by decide +kernel, by decide +kernel⟩
theorem ok__law_cell (hK : cl.K = K) (T : Tx mg) (Fd : FunD K "_law_cell" "_law_cell" (defArgs s__law_cell) (defBody s__law_cell) (defScope s__law_cell) [] [] f fd)  : FnOk P w K mg base (L2.CX P w) 1 f fd ["_law_script", "_law_k"] (spF cl xf 2 F__law_cell) := by
  subst hK
  refine fn_ok (N := N__law_cell) (ws := fun _ => false) (ds := d__law_cell) (io := [false, false]) Fd sc__law_cell rfl (by decide) (fun _ _ => rfl) fun cdv A outer s H E hr => ?_
  have tk := takes_of (X := cxOf (L2.CX P w) P w cl.K mg base N__law_cell "_law_cell" (defScope s__law_cell) f cdv A outer s H E) (E := E) rfl rfl rfl rfl
  have hu := hu_of hr
  have nd := sc__law_cell.nd
  exact (b_cons (s_if (t_pd (c_cmp op_lt (nomark _)) g_lt (k_var 1) (d_1p (o_len (cl := cl) rfl T.f_len) g_len (k_var 0))) (b_one (s_ret (d_p (k_op (o_ix (cl := cl) rfl hu (fun _ _ => rfl)) pop_ix (k_var 0) (k_var 1))))) b_nil) (b_cons (s_if (t_dp (c_cmp (op_eqD hr.units) (nomark _)) g_eq (d_1p (o_len (cl := cl) rfl T.f_len) g_len (k_var 0)) k_int) (b_one (s_ret (d_dp o_add gop_add (d_pp o_mul g_mul k_int (k_var 1)) k_int))) b_nil) (b_one (s_ret (d_dd o_add gop_add (d_dd o_div g_div (d_pd (o_ix (cl := cl) rfl hu (fun _ _ => rfl)) g_ix (k_var 0) (d_pd o_mod g_mod (k_var 1) (d_1p (o_len (cl := cl) rfl T.f_len) g_len (k_var 0)))) (d_pp o_add gop_add (k_var 1) k_int)) (d_pp o_mul g_mul k_int (k_var 1)))))))
theorem sc__law_take : FnScope N__law_take ["_law_box_here", "_law_many"] (defScope s__law_take) := ⟨rfl, rfl, rfl, by decide +kernel, rfl, by decide +kernel, by decide +kernel⟩
theorem ok__law_take (hK : cl.K = K) (T : Tx mg) (Fd : FunD K "_law_take" "_law_take" (defArgs s__law_take) (defBody s__law_take) (defScope s__law_take) [] [] f fd)  : FnOk P w K mg base (L2.CX P w) 1 f fd ["_law_box_here", "_law_many"] (spF cl xf 2 F__law_take) := by
  subst hK
  refine fn_ok (N := N__law_take) (ws := fun i => [2, 3].contains i) (ds := d__law_take) (io := [true, false]) Fd sc__law_take rfl (by decide) (ioOk (by decide)) fun cdv A outer s H E hr => ?_
  have tk := takes_of (X := cxOf (L2.CX P w) P w cl.K mg base N__law_take "_law_take" (defScope s__law_take) f cdv A outer s H E) (E := E) rfl rfl rfl rfl
  have hu := hu_of hr
  have nd := sc__law_take.nd
  exact (b_cons (s_if (t_pp (c_cmp op_gt (nomark _)) g_gt (k_op (o_ix (cl := cl) rfl hu (fun _ _ => rfl)) pop_ix (k_var 0) k_int) k_int) (b_cons (s_set 2 (d_pp o_mod g_mod (k_op (o_ix (cl := cl) rfl hu (fun _ _ => rfl)) pop_ix (k_var 0) k_int) (k_var 1)) nd) (b_cons (s_setL 0 (d_pp o_div g_div (k_op (o_ix (cl := cl) rfl hu (fun _ _ => rfl)) pop_ix (k_var 0) k_int) (k_var 1)) (d_p k_int) (hq := fun _ h => pg_sub (pv 0) h set_list)) (b_one (s_ret (d_mv 2))))) b_nil) (b_cons (s_setL 0 (d_pp o_add gop_add (k_op (o_ix (cl := cl) rfl hu (fun _ _ => rfl)) pop_ix (k_var 0) k_int) k_int) (d_p k_int) (hq := fun _ h => pg_sub (pv 0) h set_list)) (b_cons (s_set 3 (d_dp o_mod g_mod (d_dp o_add gop_add (d_dd o_add gop_add (d_pp o_mul g_mul (k_op (o_ix (cl := cl) rfl hu (fun _ _ => rfl)) pop_ix (k_var 0) k_int) k_int) (d_pp o_mul g_mul k_int (k_op (o_ix (cl := cl) rfl hu (fun _ _ => rfl)) pop_ix (k_var 0) k_int))) k_int) k_int) nd) (b_cons (s_set 3 (d_dp o_mod g_mod (d_dp o_mul g_mul (d_dp o_mod g_mod (d_pp o_mul g_mul (k_var 3) (k_var 3)) k_int) k_int) k_int) nd) (b_one (s_ret (d_dp o_mod g_mod (d_dp o_div g_div (d_dp o_mod g_mod (d_pp o_mul g_mul (k_var 3) (k_var 3)) k_int) k_int) (k_var 1))))))))
theorem sc_number_of : FnScope N_number_of ["thing"] (defScope s_number_of) := ⟨rfl, rfl, rfl, by decide +kernel, rfl, by decide +kernel, by decide +kernel⟩
theorem ok_number_of (hK : cl.K = K) (T : Tx mg) (Fd : FunD K "number_of" "number_of" (defArgs s_number_of) (defBody s_number_of) (defScope s_number_of) [] [] f fd)  : FnOk P w K mg base (L2.CX P w) 1 f fd ["thing"] (spF cl xf 1 F_number_of) := by
  subst hK
  refine fn_ok (N := N_number_of) (ws := fun _ => false) (ds := d_number_of) (io := [false]) Fd sc_number_of rfl (by decide) (fun _ _ => rfl) fun cdv A outer s H E hr => ?_
  have tk := takes_of (X := cxOf (L2.CX P w) P w cl.K mg base N_number_of "number_of" (defScope s_number_of) f cdv A outer s H E) (E := E) rfl rfl rfl rfl
  have hu := hu_of hr
  have nd := sc_number_of.nd
  exact (b_cons (s_if (t_w (w_or (t_not (t_v (d_1p (o_isi (T := "str") T.f_isinstance T.f_str (by decide +kernel)) g_isi (k_var 0)))) (w_or1 (t_not (t_ch op_le op_le p_le p_le (d_p k_int) (d_1p (o_len (cl := cl) rfl T.f_len) g_len (k_var 0)) (d_p (k_globE (pa := 0) T.c_MOST_FIGURES))))))) (b_one (s_ret (d_p k_non))) b_nil) (b_cons (s_if (t_w (w_or (t_not (t_v (d_1d (o_all T.f_all) g_all (d_lcP (own := [("sign", 1)]) (i_strP (k_var 0)) (blkOk_by (own := [("sign", 1)]) (N := N_number_of) (sc := defScope s_number_of) (by decide +kernel)) (tgIn_name (by simp)) (uni_g fun _ _ _ _ _ => g_name 1 nd (by rfl)) uni_y (uni_e fun _ _ _ _ _ => (d_pp (o_cmp op_in_sign rfl) g_inS (k_var 1) (k_globE (pa := 0) T.c_FIGURES))) nd)))) (w_or1 (t_w (w_and (t_pp (c_cmp (op_eqD hr.units) (nomark _)) g_eq (k_op (o_ix (cl := cl) rfl hu (fun _ _ => rfl)) pop_ix (k_var 0) k_int) k_str) (w_and1 (t_pp (c_cmp (op_neD hr.units) (nomark _)) g_ne (k_var 0) k_str))))))) (b_one (s_ret (d_p k_non))) b_nil) (b_one (s_ret (d_1p (o_int T.f_int) g_int (k_var 0))))))
theorem sc__law_number : FnScope N__law_number ["_law_thing_here"] (defScope s__law_number) := ⟨rfl, rfl, rfl, by decide +kernel, rfl, by decide +kernel, by decide +kernel⟩
theorem ok__law_number (hK : cl.K = K) (T : Tx mg) (Fd : FunD K "_law_number" "_law_number" (defArgs s__law_number) (defBody s__law_number) (defScope s__law_number) [] [] f fd)  : FnOk P w K mg base (L2.CX P w) 1 f fd ["_law_thing_here"] (spF cl xf 1 F__law_number) := by
  subst hK
  refine fn_ok (N := N__law_number) (ws := fun i => [1, 2].contains i) (ds := d__law_number) (io := [false]) Fd sc__law_number rfl (by decide) (ioOk (by decide)) fun cdv A outer s H E hr => ?_
  have tk := takes_of (X := cxOf (L2.CX P w) P w cl.K mg base N__law_number "_law_number" (defScope s__law_number) f cdv A outer s H E) (E := E) rfl rfl rfl rfl
  have hu := hu_of hr
  have nd := sc__law_number.nd
  exact (b_cons (s_if (t_w (w_or (t_not (t_v (d_1p (o_isi (T := "str") T.f_isinstance T.f_str (by decide +kernel)) g_isi (k_var 0)))) (w_or (t_dp (c_cmp op_lt (nomark _)) g_lt (d_1p (o_len (cl := cl) rfl T.f_len) g_len (k_var 0)) k_int) (w_or1 (t_dp (c_cmp op_gt (nomark _)) g_gt (d_1p (o_len (cl := cl) rfl T.f_len) g_len (k_var 0)) k_int))))) (b_one (s_ret (d_p k_non))) b_nil) (b_cons (s_set 1 (d_p k_int) nd) (b_cons (s_for (i_strP (k_var 0)) (g_name 2 nd) (b_cons (s_if (t_pp (c_cmp op_notIn_sign rfl) g_notinS (k_var 2) k_str) (b_one (s_ret (d_p k_non))) b_nil) (b_one (s_set 1 (d_dd o_add gop_add (d_pp o_mul g_mul k_int (k_var 1)) (d_1p o_indexS g_indexS (k_var 2))) nd))) (passes_of rfl)) (b_cons (s_if (t_w (w_and (t_dp (c_cmp op_gt (nomark _)) g_gt (d_1p (o_len (cl := cl) rfl T.f_len) g_len (k_var 0)) k_int) (w_and1 (t_pp (c_cmp (op_eqD hr.units) (nomark _)) g_eq (k_op (o_ix (cl := cl) rfl hu (fun _ _ => rfl)) pop_ix (k_var 0) k_int) k_str)))) (b_one (s_ret (d_p k_non))) b_nil) (b_one (s_ret (d_mv 1)))))))
theorem sc_is_whole : FnScope N_is_whole ["thing"] (defScope s_is_whole) := ⟨rfl, rfl, rfl, by decide +kernel, rfl, by decide +kernel, by decide +kernel⟩
theorem ok_is_whole (hK : cl.K = K) (T : Tx mg) (Fd : FunD K "is_whole" "is_whole" (defArgs s_is_whole) (defBody s_is_whole) (defScope s_is_whole) [] [] f fd)  : FnOk P w K mg base (L2.CX P w) 1 f fd ["thing"] (spF cl xf 1 F_is_whole) := by
  subst hK
  refine fn_ok (N := N_is_whole) (ws := fun _ => false) (ds := d_is_whole) (io := [false]) Fd sc_is_whole rfl (by decide) (fun _ _ => rfl) fun cdv A outer s H E hr => ?_
  have tk := takes_of (X := cxOf (L2.CX P w) P w cl.K mg base N_is_whole "is_whole" (defScope s_is_whole) f cdv A outer s H E) (E := E) rfl rfl rfl rfl
  have hu := hu_of hr
  have nd := sc_is_whole.nd
  exact (b_one (s_ret (d_and (d_1p (o_isi (T := "int") T.f_isinstance T.f_int (by decide +kernel)) g_isi (k_var 0)) (d_one (d_not (d_1p (o_isi (T := "bool") T.f_isinstance T.f_bool (by decide +kernel)) g_isi (k_var 0)))))))
theorem sc_is_within : FnScope N_is_within ["thing", "low", "high"] (defScope s_is_within) := ⟨rfl, rfl, rfl, by decide +kernel, rfl, by decide +kernel, by decide +kernel⟩
theorem ok_is_within (hK : cl.K = K) (T : Tx mg) (Fd : FunD K "is_within" "is_within" (defArgs s_is_within) (defBody s_is_within) (defScope s_is_within) [] [] f fd) (H_is_whole : Fn cl xf P w K mg base "is_whole" 1 1 F_is_whole) : FnOk P w K mg base (L2.CX P w) 2 f fd ["thing", "low", "high"] (spF cl xf 3 F_is_within) := by
  subst hK
  refine fn_ok (N := N_is_within) (ws := fun _ => false) (ds := d_is_within) (io := [false, false, false]) Fd sc_is_within rfl (by decide) (fun _ _ => rfl) fun cdv A outer s H E hr => ?_
  have tk := takes_of (X := cxOf (L2.CX P w) P w cl.K mg base N_is_within "is_within" (defScope s_is_within) f cdv A outer s H E) (E := E) rfl rfl rfl rfl
  have hu := hu_of hr
  have nd := sc_is_within.nd
  exact (b_one (s_ret (d_and (d_call H_is_whole hr (by decide) tk (c_lend (k_var 0) c_nil) (dl_lend dl_nil)) (d_one (d_ch op_le op_le p_le p_le (d_p (k_var 1)) (d_p (k_var 0)) (d_p (k_var 2)))))))
theorem sc_is_name : FnScope N_is_name ["thing"] (defScope s_is_name) := ⟨rfl, rfl, rfl, by decide +kernel, rfl, by decide +kernel, by decide +kernel⟩
theorem ok_is_name (hK : cl.K = K) (T : Tx mg) (Fd : FunD K "is_name" "is_name" (defArgs s_is_name) (defBody s_is_name) (defScope s_is_name) [] [] f fd)  : FnOk P w K mg base (L2.CX P w) 1 f fd ["thing"] (spF cl xf 1 F_is_name) := by
  subst hK
  refine fn_ok (N := N_is_name) (ws := fun _ => false) (ds := d_is_name) (io := [false]) Fd sc_is_name rfl (by decide) (fun _ _ => rfl) fun cdv A outer s H E hr => ?_
  have tk := takes_of (X := cxOf (L2.CX P w) P w cl.K mg base N_is_name "is_name" (defScope s_is_name) f cdv A outer s H E) (E := E) rfl rfl rfl rfl
  have hu := hu_of hr
  have nd := sc_is_name.nd
  exact (b_cons (s_if (t_w (w_or (t_not (t_v (d_1p (o_isi (T := "str") T.f_isinstance T.f_str (by decide +kernel)) g_isi (k_var 0)))) (w_or (t_not (t_ch op_le op_le p_le p_le (d_p k_int) (d_1p (o_len (cl := cl) rfl T.f_len) g_len (k_var 0)) (d_p (k_globE (pa := 0) T.c_LONGEST_NAME)))) (w_or1 (t_pp (c_cmp op_notIn_sign rfl) g_notinS (k_op (o_ix (cl := cl) rfl hu (fun _ _ => rfl)) pop_ix (k_var 0) k_int) (k_globE (pa := 0) T.c_LETTERS)))))) (b_one (s_ret (d_p k_bl))) b_nil) (b_one (s_ret (d_1d (o_all T.f_all) g_all (d_lcP (own := [("sign", 1)]) (i_strP (k_var 0)) (blkOk_by (own := [("sign", 1)]) (N := N_is_name) (sc := defScope s_is_name) (by decide +kernel)) (tgIn_name (by simp)) (uni_g fun _ _ _ _ _ => g_name 1 nd (by rfl)) uni_y (uni_e fun _ _ _ _ _ => (d_pd (o_cmp op_in_sign rfl) g_inS (k_var 1) (d_pp o_add gop_add (k_globE (pa := 0) T.c_LETTERS) (k_globE (pa := 0) T.c_FIGURES)))) nd)))))
theorem sc__law_is_name : FnScope N__law_is_name ["_law_thing_here"] (defScope s__law_is_name) := ⟨rfl, rfl, rfl, by decide +kernel, rfl, by decide +kernel, by decide +kernel⟩
theorem ok__law_is_name (hK : cl.K = K) (T : Tx mg) (Fd : FunD K "_law_is_name" "_law_is_name" (defArgs s__law_is_name) (defBody s__law_is_name) (defScope s__law_is_name) [] [] f fd)  : FnOk P w K mg base (L2.CX P w) 1 f fd ["_law_thing_here"] (spF cl xf 1 F__law_is_name) := by
  subst hK
  refine fn_ok (N := N__law_is_name) (ws := fun i => [1].contains i) (ds := d__law_is_name) (io := [false]) Fd sc__law_is_name rfl (by decide) (ioOk (by decide)) fun cdv A outer s H E hr => ?_
  have tk := takes_of (X := cxOf (L2.CX P w) P w cl.K mg base N__law_is_name "_law_is_name" (defScope s__law_is_name) f cdv A outer s H E) (E := E) rfl rfl rfl rfl
  have hu := hu_of hr
  have nd := sc__law_is_name.nd
  exact (b_cons (s_if (t_w (w_or (t_not (t_v (d_1p (o_isi (T := "str") T.f_isinstance T.f_str (by decide +kernel)) g_isi (k_var 0)))) (w_or (t_dp (c_cmp op_lt (nomark _)) g_lt (d_1p (o_len (cl := cl) rfl T.f_len) g_len (k_var 0)) k_int) (w_or1 (t_dp (c_cmp op_gt (nomark _)) g_gt (d_1p (o_len (cl := cl) rfl T.f_len) g_len (k_var 0)) k_int))))) (b_one (s_ret (d_p k_bl))) b_nil) (b_cons (s_set 1 (d_p k_str) nd) (b_one (s_ret (d_and (d_dd (o_cmp (op_eqD hr.units) (nomark _)) g_eq (d_lcP (own := [("_law_sign", 2)]) (i_strP (k_var 0)) (blkOk_by (own := [("_law_sign", 2)]) (N := N__law_is_name) (sc := defScope s__law_is_name) (by decide +kernel)) (tgIn_name (by simp)) (uni_g fun _ _ _ _ _ => g_name 2 nd (by rfl)) (uni_t fun _ _ _ _ _ => (t_pd (c_cmp op_notIn_sign rfl) g_notinS (k_var 2) (d_pp o_add gop_add (k_var 1) k_str))) (uni_e fun _ _ _ _ _ => (d_p (k_var 2))) nd) (d_lst a_nil)) (d_one (d_pp (o_cmp op_in_sign rfl) g_inS (k_op (o_ix (cl := cl) rfl hu (fun _ _ => rfl)) pop_ix (k_var 0) k_int) (k_var 1))))))))
theorem sc__law_right : FnScope N__law_right ["_law_thing_here", "_law_low", "_law_high"] (defScope s__law_right) := ⟨rfl, rfl, rfl, by decide +kernel, rfl, by decide +kernel, by decide +kernel⟩
theorem ok__law_right (hK : cl.K = K) (T : Tx mg) (Fd : FunD K "_law_right" "_law_right" (defArgs s__law_right) (defBody s__law_right) (defScope s__law_right) [] [] f fd) (H__law_whole : Fn cl xf P w K mg base "_law_whole" 1 1 F__law_whole) (H_is_whole : Fn cl xf P w K mg base "is_whole" 1 1 F_is_whole) (H_is_within : Fn cl xf P w K mg base "is_within" 2 3 F_is_within) (H_is_name : Fn cl xf P w K mg base "is_name" 1 1 F_is_name) (H__law_is_name : Fn cl xf P w K mg base "_law_is_name" 1 1 F__law_is_name) (H_number_of : Fn cl xf P w K mg base "number_of" 1 1 F_number_of) (H__law_number : Fn cl xf P w K mg base "_law_number" 1 1 F__law_number) : FnOk P w K mg base (L2.CX P w) 3 f fd ["_law_thing_here", "_law_low", "_law_high"] (spF cl xf 3 F__law_right) := by
  subst hK
  refine fn_ok (N := N__law_right) (ws := fun i => [3, 4, 5, 7, 8].contains i) (ds := d__law_right) (io := [false, false, false]) Fd sc__law_right rfl (by decide) (ioOk (by decide)) fun cdv A outer s H E hr => ?_
  have tk := takes_of (X := cxOf (L2.CX P w) P w cl.K mg base N__law_right "_law_right" (defScope s__law_right) f cdv A outer s H E) (E := E) rfl rfl rfl rfl
  have hu := hu_of hr
  have nd := sc__law_right.nd
  exact (b_cons (s_set 3 (d_call H__law_whole hr (by decide) tk (c_lend (k_var 0) c_nil) (dl_lend dl_nil)) nd) (b_cons (s_set 4 (d_and (d_p (k_var 3)) (d_one (d_ch op_le op_le p_le p_le (d_p (k_var 1)) (d_p (k_var 0)) (d_p (k_var 2))))) nd) (b_cons (s_set 5 (d_lst (a_cons (d_call H_is_whole hr (by decide) tk (c_lend (k_var 0) c_nil) (dl_lend dl_nil)) (a_cons (d_call H_is_within hr (by decide) tk (c_lend (k_var 0) (c_lend (k_var 1) (c_lend (k_var 2) c_nil))) (dl_lend (dl_lend (dl_lend dl_nil)))) (a_cons (d_call H_is_name hr (by decide) tk (c_lend (k_var 0) c_nil) (dl_lend dl_nil)) a_nil)))) nd) (b_cons (s_if (t_w (w_or (t_pd (c_cmp (op_neD hr.units) (nomark _)) g_ne (k_var 5) (d_lst (a_cons (d_p (k_var 3)) (a_cons (d_p (k_var 4)) (a_cons (d_call H__law_is_name hr (by decide) tk (c_lend (k_var 0) c_nil) (dl_lend dl_nil)) a_nil))))) (w_or1 (t_dd (c_cmp (op_neD hr.units) (nomark _)) g_ne (d_lcP (own := [("_law_one", 6)]) (i_listP (cl := cl) rfl (k_var 5)) (blkOk_by (own := [("_law_one", 6)]) (N := N__law_right) (sc := defScope s__law_right) (by decide +kernel)) (tgIn_name (by simp)) (uni_g fun _ _ _ _ _ => g_name 6 nd (by rfl)) (uni_t fun _ _ _ _ _ => (t_not (t_v (d_1p (o_isi (T := "bool") T.f_isinstance T.f_bool (by decide +kernel)) g_isi (k_var 6))))) (uni_e fun _ _ _ _ _ => (d_p (k_var 6))) nd) (d_lst a_nil))))) (b_one (s_ret (d_p k_bl))) b_nil) (b_cons (s_set 7 (d_call H_number_of hr (by decide) tk (c_lend (k_var 0) c_nil) (dl_lend dl_nil)) nd) (b_cons (s_set 8 (d_call H__law_number hr (by decide) tk (c_lend (k_var 0) c_nil) (dl_lend dl_nil)) nd) (b_one (s_ret (d_and (d_pp (o_cmp (op_eqD hr.units) (nomark _)) g_eq (k_var 7) (k_var 8)) (d_one (d_or (d_1p o_isN g_isN (k_var 8)) (d_one (d_call H__law_whole hr (by decide) tk (c_lend (k_var 7) c_nil) (dl_lend dl_nil))))))))))))))
theorem sc__law_thing : FnScope N__law_thing ["_law_box_here"] (defScope s__law_thing) := ⟨rfl, rfl, rfl, by decide +kernel, rfl, by decide +kernel, by decide +kernel⟩
theorem ok__law_thing (hK : cl.K = K) (T : Tx mg) (Fd : FunD K "_law_thing" "_law_thing" (defArgs s__law_thing) (defBody s__law_thing) (defScope s__law_thing) [] [] f fd) (H__law_take : Fn cl xf P w K mg base "_law_take" 1 2 F__law_take) : FnOk P w K mg base (L2.CX P w) 2 f fd ["_law_box_here"] (spF cl xf 1 F__law_thing) := by
  subst hK
  refine fn_ok (N := N__law_thing) (ws := fun i => [1].contains i) (ds := d__law_thing) (io := [true]) Fd sc__law_thing rfl (by decide) (ioOk (by decide)) fun cdv A outer s H E hr => ?_
  have tk := takes_of (X := cxOf (L2.CX P w) P w cl.K mg base N__law_thing "_law_thing" (defScope s__law_thing) f cdv A outer s H E) (E := E) rfl rfl rfl rfl
  have hu := hu_of hr
  have nd := sc__law_thing.nd
  exact (b_cons (s_set 1 (d_lst (a_cons (d_p k_non) (a_cons (d_p k_bl) (a_cons (d_p k_bl) (a_cons (d_p k_int) (a_cons (d_p k_int) (a_cons (d_pp o_sub g_sub k_int k_int) (a_cons (d_p k_int) (a_cons (d_p k_int) (a_cons (d_pp o_pow g_pow k_int k_int) (a_cons (d_pd o_sub g_sub k_int (d_pp o_pow g_pow k_int k_int)) (a_cons (d_p k_str) (a_cons (d_p k_str) (a_cons (d_p k_str) (a_cons (d_p k_str) (a_cons (d_p k_str) (a_cons (d_p k_str) (a_cons (d_p k_str) a_nil)))))))))))))))))) nd) (b_cons (s_set 1 (d_pd o_add gop_add (k_var 1) (d_lst (a_cons (d_p k_str) (a_cons (d_p k_str) (a_cons (d_p k_str) (a_cons (d_p k_str) (a_cons (d_p k_str) (a_cons (d_p k_str) (a_cons (d_p k_str) (a_cons (d_p k_str) (a_cons (d_p k_str) (a_cons (d_p k_str) (a_cons (d_p k_str) (a_cons (d_p k_str) (a_cons (d_p k_str) a_nil))))))))))))))) nd) (b_cons (s_set 1 (d_pd o_add gop_add (k_var 1) (d_lst (a_cons (d_lst a_nil) (a_cons (d_tup a_nil) (a_cons d_dict0 (a_cons (d_lst (a_cons (d_p k_int) a_nil)) (a_cons (d_tup (a_cons (d_p k_int) a_nil)) (a_cons (d_tup (a_cons (d_p k_str) (a_cons (d_p k_int) (a_cons (d_p k_int) (a_cons (d_p k_int) a_nil))))) (a_cons (d_disp (pr_cons k_str (d_p k_int) pr_nil)) (a_cons (d_lst (a_cons (d_lst (a_cons (d_p k_str) (a_cons (d_p k_int) (a_cons (d_p k_int) (a_cons (d_p k_int) a_nil))))) a_nil)) (a_cons (d_p k_str) (a_cons (d_p k_str) a_nil)))))))))))) nd) (b_one (s_ret (d_vd 1 (o_ix (cl := cl) rfl hu (fun _ _ => rfl)) g_ix (d_io H__law_take hr (by decide) tk (q_o 0 (q_val (d_p k_int) q_nil)) rfl)))))))
theorem sc__law_text : FnScope N__law_text ["_law_box_here"] (defScope s__law_text) := ⟨rfl, rfl, rfl, by decide +kernel, rfl, by decide +kernel, by decide +kernel⟩
theorem ok__law_text (hK : cl.K = K) (T : Tx mg) (Fd : FunD K "_law_text" "_law_text" (defArgs s__law_text) (defBody s__law_text) (defScope s__law_text) [] [] f fd) (H__law_take : Fn cl xf P w K mg base "_law_take" 1 2 F__law_take) : FnOk P w K mg base (L2.CX P w) 2 f fd ["_law_box_here"] (spF cl xf 1 F__law_text) := by
  subst hK
  refine fn_ok (N := N__law_text) (ws := fun i => [1, 2, 3].contains i) (ds := d__law_text) (io := [true]) Fd sc__law_text rfl (by decide) (ioOk (by decide)) fun cdv A outer s H E hr => ?_
  have tk := takes_of (X := cxOf (L2.CX P w) P w cl.K mg base N__law_text "_law_text" (defScope s__law_text) f cdv A outer s H E) (E := E) rfl rfl rfl rfl
  have hu := hu_of hr
  have nd := sc__law_text.nd
  exact (b_cons (s_set 1 (d_p k_str) nd) (b_cons (s_set 1 (d_pp o_add gop_add (k_var 1) k_str) nd) (b_cons (s_set 2 (d_p k_str) nd) (b_cons (s_set 3 (d_dd (o_ix (cl := cl) rfl hu (fun _ _ => rfl)) g_ix (d_lst (a_cons (d_p k_str) (a_cons (d_p (k_var 2)) (a_cons (d_p (k_var 1)) a_nil)))) (d_io H__law_take hr (by decide) tk (q_o 0 (q_val (d_p k_int) q_nil)) rfl)) nd) (b_one (s_ret (d_1d o_join g_join (d_lc (own := [("_law_k", 4)]) (i_range1 T.f_range (d_io H__law_take hr (by decide) tk (q_o 0 (q_val (d_p k_int) q_nil)) rfl)) (blkOk_by (own := [("_law_k", 4)]) (N := N__law_text) (sc := defScope s__law_text) (by decide +kernel)) (tgIn_name (by simp)) (uni_g fun _ _ _ _ _ => g_name 4 nd (by rfl)) uni_y (uni_e fun _ _ _ _ _ => (d_vd 3 (o_ix (cl := cl) rfl hu (fun _ _ => rfl)) g_ix (d_io H__law_take hr (by decide) takes0 (q_o 0 (q_val (d_1p (o_len (cl := cl) rfl T.f_len) g_len (k_var 3)) q_nil)) rfl))) nd))))))))
theorem sc_law : FnScope N_law ["_law_script"] (defScope s_law) := ⟨rfl, rfl, rfl, by decide +kernel, rfl, by decide +kernel, by decide +kernel⟩
theorem ok_law (hK : cl.K = K) (T : Tx mg) (Fd : FunD K "law" "law" (defArgs s_law) (defBody s_law) (defScope s_law) [] [] f fd) (H__law_box : Fn cl xf P w K mg base "_law_box" 1 1 F__law_box) (H__law_cell : Fn cl xf P w K mg base "_law_cell" 1 2 F__law_cell) (H__law_thing : Fn cl xf P w K mg base "_law_thing" 2 1 F__law_thing) (H__law_text : Fn cl xf P w K mg base "_law_text" 2 1 F__law_text) (H__law_take : Fn cl xf P w K mg base "_law_take" 1 2 F__law_take) (H__law_right : Fn cl xf P w K mg base "_law_right" 3 3 F__law_right) (H__law_whole : Fn cl xf P w K mg base "_law_whole" 1 1 F__law_whole) (H_is_within : Fn cl xf P w K mg base "is_within" 2 3 F_is_within) : FnOk P w K mg base (L2.CX P w) 4 f fd ["_law_script"] (spF cl xf 1 F_law) := by
  subst hK
  refine fn_ok (N := N_law) (ws := fun i => [1, 2, 3, 4, 5, 6, 7].contains i) (ds := d_law) (io := [false]) Fd sc_law rfl (by decide) (ioOk (by decide)) fun cdv A outer s H E hr => ?_
  have tk := takes_of (X := cxOf (L2.CX P w) P w cl.K mg base N_law "law" (defScope s_law) f cdv A outer s H E) (E := E) rfl rfl rfl rfl
  have hu := hu_of hr
  have nd := sc_law.nd
  exact (b_cons (s_for (i_range1 T.f_range (d_pd (o_max T.f_max) g_max k_int (d_dp (o_min T.f_min) g_min (d_1p (o_len (cl := cl) rfl T.f_len) g_len (k_var 0)) k_int))) (g_name 1 nd) (b_cons (s_set 2 (d_call H__law_box hr (by decide) tk (c_val (d_call H__law_cell hr (by decide) tk (c_lend (k_var 0) (c_lend (k_var 1) c_nil)) (dl_lend (dl_lend dl_nil))) c_nil) (dl_cons dl_nil)) nd) (b_cons (s_set 3 (d_dd (o_ix (cl := cl) rfl hu (fun _ _ => rfl)) g_ix (d_lst (a_cons (d_io H__law_thing hr (by decide) tk (q_o 2 q_nil) rfl) (a_cons (d_io H__law_text hr (by decide) tk (q_o 2 q_nil) rfl) (a_cons (d_dd o_sub g_sub (d_io H__law_take hr (by decide) tk (q_o 2 (q_val (d_pp o_pow g_pow k_int k_int) q_nil)) rfl) (d_io H__law_take hr (by decide) tk (q_o 2 (q_val (d_pp o_pow g_pow k_int k_int) q_nil)) rfl)) a_nil)))) (d_io H__law_take hr (by decide) tk (q_o 2 (q_val (d_p k_int) q_nil)) rfl)) nd) (b_cons (s_set 4 (d_dd (o_ix (cl := cl) rfl hu (fun _ _ => rfl)) g_ix (d_lst (a_cons (d_p k_int) (a_cons (d_p k_int) (a_cons (d_pp o_sub g_sub k_int k_int) (a_cons (d_io H__law_take hr (by decide) tk (q_o 2 (q_val (d_pp o_pow g_pow k_int k_int) q_nil)) rfl) a_nil))))) (d_io H__law_take hr (by decide) tk (q_o 2 (q_val (d_p k_int) q_nil)) rfl)) nd) (b_cons (s_set 5 (d_dd (o_ix (cl := cl) rfl hu (fun _ _ => rfl)) g_ix (d_lst (a_cons (d_p k_int) (a_cons (d_p k_int) (a_cons (d_p k_int) (a_cons (d_p (k_var 4)) (a_cons (d_pp o_sub g_sub (k_var 4) k_int) (a_cons (d_pp o_pow g_pow k_int k_int) a_nil))))))) (d_io H__law_take hr (by decide) tk (q_o 2 (q_val (d_p k_int) q_nil)) rfl)) nd) (b_cons (s_if (t_not (t_v (d_call H__law_right hr (by decide) tk (c_lend (k_var 3) (c_lend (k_var 4) (c_lend (k_var 5) c_nil))) (dl_lend (dl_lend (dl_lend dl_nil)))))) (b_one (s_ret (d_p k_bl))) b_nil) (b_one (s_if (t_v (d_call H__law_whole hr (by decide) tk (c_lend (k_var 3) c_nil) (dl_lend dl_nil))) (b_one (s_for (i_listD (cl := cl) rfl (d_lst (a_cons (d_tup (a_cons (d_p (k_var 3)) (a_cons (d_p (k_var 5)) a_nil))) (a_cons (d_tup (a_cons (d_p (k_var 4)) (a_cons (d_p (k_var 3)) a_nil))) (a_cons (d_tup (a_cons (d_p (k_var 3)) (a_cons (d_p (k_var 3)) a_nil))) (a_cons (d_tup (a_cons (d_pp o_add gop_add (k_var 3) k_int) (a_cons (d_p (k_var 5)) a_nil))) (a_cons (d_tup (a_cons (d_p (k_var 4)) (a_cons (d_pp o_sub g_sub (k_var 3) k_int) a_nil))) a_nil))))))) (g_tup (gs_cons (g_name 6 nd) (gs_cons (g_name 7 nd) gs_nil))) (b_one (s_if (t_dd (c_cmp (op_neD hr.units) (nomark _)) g_ne (d_call H_is_within hr (by decide) tk (c_lend (k_var 3) (c_lend (k_var 6) (c_lend (k_var 7) c_nil))) (dl_lend (dl_lend (dl_lend dl_nil)))) (d_ch op_le op_le p_le p_le (d_p (k_var 6)) (d_p (k_var 3)) (d_p (k_var 7)))) (b_one (s_ret (d_p k_bl))) b_nil)) (passes_of rfl))) b_nil))))))) (passes_of rfl)) (b_one (s_ret (d_p k_bl))))
end
end Lw
/-! K01_E -/
set_option maxHeartbeats 0
namespace Lw
open PySem PySem.Spec PyProof.Rows L2 Fs
def h__law_box : He.DefD := ⟨("_law_box", none), "_law_box", "_law_box", defArgs s__law_box, defBody s__law_box, defScope s__law_box, [], []⟩
def h__law_whole : He.DefD := ⟨("_law_whole", none), "_law_whole", "_law_whole", defArgs s__law_whole, defBody s__law_whole, defScope s__law_whole, [], []⟩
def h__law_cell : He.DefD := ⟨("_law_cell", none), "_law_cell", "_law_cell", defArgs s__law_cell, defBody s__law_cell, defScope s__law_cell, [], []⟩
def h__law_take : He.DefD := ⟨("_law_take", none), "_law_take", "_law_take", defArgs s__law_take, defBody s__law_take, defScope s__law_take, [], []⟩
def h_number_of : He.DefD := ⟨("number_of", none), "number_of", "number_of", defArgs s_number_of, defBody s_number_of, defScope s_number_of, [], []⟩
def h__law_number : He.DefD := ⟨("_law_number", none), "_law_number", "_law_number", defArgs s__law_number, defBody s__law_number, defScope s__law_number, [], []⟩
def h_is_whole : He.DefD := ⟨("is_whole", none), "is_whole", "is_whole", defArgs s_is_whole, defBody s_is_whole, defScope s_is_whole, [], []⟩
def h_is_within : He.DefD := ⟨("is_within", none), "is_within", "is_within", defArgs s_is_within, defBody s_is_within, defScope s_is_within, [], []⟩
def h_is_name : He.DefD := ⟨("is_name", none), "is_name", "is_name", defArgs s_is_name, defBody s_is_name, defScope s_is_name, [], []⟩
def h__law_is_name : He.DefD := ⟨("_law_is_name", none), "_law_is_name", "_law_is_name", defArgs s__law_is_name, defBody s__law_is_name, defScope s__law_is_name, [], []⟩
def h__law_right : He.DefD := ⟨("_law_right", none), "_law_right", "_law_right", defArgs s__law_right, defBody s__law_right, defScope s__law_right, [], []⟩
def h__law_thing : He.DefD := ⟨("_law_thing", none), "_law_thing", "_law_thing", defArgs s__law_thing, defBody s__law_thing, defScope s__law_thing, [], []⟩
def h__law_text : He.DefD := ⟨("_law_text", none), "_law_text", "_law_text", defArgs s__law_text, defBody s__law_text, defScope s__law_text, [], []⟩
def h_law : He.DefD := ⟨("law", none), "law", "law", defArgs s_law, defBody s_law, defScope s_law, [], []⟩
def fn : List He.DefD := [h__law_box, h__law_whole, h__law_cell, h__law_take, h_number_of, h__law_number, h_is_whole, h_is_within, h_is_name, h__law_is_name, h__law_right, h__law_thing, h__law_text, h_law]
def fa : List He.Fa := [.glo "_law_box", .glo "_law_whole", .glo "_law_cell", .glo "_law_take", .glo "number_of", .glo "_law_number", .glo "is_whole", .glo "is_within", .glo "is_name", .glo "_law_is_name", .glo "_law_right", .glo "_law_thing", .glo "_law_text", .glo "law", .free "all", .free "bool", .free "int", .free "isinstance", .free "len", .free "max", .free "min", .free "range", .free "str", .str "FIGURES" "0123456789", .str "LETTERS" "abcdefghijklmnopqrstuvwxyz", .int "LONGEST_NAME" 8, .int "MOST_FIGURES" 4]
abbrev R : PySem.W.OpenRow := PySem.W.OpenLaw.row PySem.Challenge.rw_failslack_k01_numbers_and_names
abbrev hk : PySem.W.Hook := He.hookD 4 fa fn
def ob (s : PySem.W.SharedT) : He.AlD := He.obsDG 4 fa fn (HandSHeadRun.getT s)
theorem ob_eq (s : PySem.W.SharedT) : ob s = hk.obs s.abs := He.obsDG_eq (HandSHeadRun.getT_eq s)
def loose : List Str := (["FIGURES", "LETTERS", "LONGEST_NAME", "MOST_FIGURES", "is_whole", "is_within", "is_name", "number_of", "_law_cell", "_law_box", "_law_take", "_law_thing", "_law_text", "_law_whole", "_law_is_name", "_law_number", "_law_right"] : List Str)
theorem run (w : World) : HandSHeadRun.RunEq R (PySem.W.view R.prog [19]) hk ob 3000 loose w := by
  intro os
  kernel_rfl
theorem facts {P : Program} {w : World} {K : PySem.W.Frag} {h : Heap} {mg : Str → Option Value} {f : Addr} (X : K.In h) (G : h.Ns mainGlobals mg) (hfa : mg ("law" : Str) = some (.ref f)) (c : He.SaysD fa fn K) :
    ∃ fd : FuncData, (∀ (s : Shared) (v : Value), BindsTo s fd ⟨[v], []⟩ [("_law_script", v)]) ∧ ∀ base : Heap, K.In base → base.Ns mainGlobals mg → FnOk P w K mg base (L2.CX P w) 4 f fd ["_law_script"] (spF ⟨fun _ => 0, K⟩ (fun _ => []) 1 F_law) := by
  have T : Tx mg := ⟨He.free_ok X G (c.fact 14 (f := .free "all") rfl), He.free_ok X G (c.fact 15 (f := .free "bool") rfl), He.free_ok X G (c.fact 16 (f := .free "int") rfl), He.free_ok X G (c.fact 17 (f := .free "isinstance") rfl), He.free_ok X G (c.fact 18 (f := .free "len") rfl), He.free_ok X G (c.fact 19 (f := .free "max") rfl), He.free_ok X G (c.fact 20 (f := .free "min") rfl), He.free_ok X G (c.fact 21 (f := .free "range") rfl), He.free_ok X G (c.fact 22 (f := .free "str") rfl), (let ⟨t, ht⟩ := He.str_ok X G (c.fact 23 (f := .str "FIGURES" "0123456789") rfl); ⟨_, ht, t, rfl⟩), (let ⟨t, ht⟩ := He.str_ok X G (c.fact 24 (f := .str "LETTERS" "abcdefghijklmnopqrstuvwxyz") rfl); ⟨_, ht, t, rfl⟩), (let ⟨t, ht⟩ := He.int_ok X G (c.fact 25 (f := .int "LONGEST_NAME" 8) rfl); ⟨_, ht, t, rfl⟩), (let ⟨t, ht⟩ := He.int_ok X G (c.fact 26 (f := .int "MOST_FIGURES" 4) rfl); ⟨_, ht, t, rfl⟩)⟩
  obtain ⟨fd__law_box, D__law_box⟩ := c.def_ 0 (d := h__law_box) rfl
  have g__law_box := He.glo_ok X G (c.fact 0 (f := .glo "_law_box") rfl)
  obtain ⟨fd__law_whole, D__law_whole⟩ := c.def_ 1 (d := h__law_whole) rfl
  have g__law_whole := He.glo_ok X G (c.fact 1 (f := .glo "_law_whole") rfl)
  obtain ⟨fd__law_cell, D__law_cell⟩ := c.def_ 2 (d := h__law_cell) rfl
  have g__law_cell := He.glo_ok X G (c.fact 2 (f := .glo "_law_cell") rfl)
  obtain ⟨fd__law_take, D__law_take⟩ := c.def_ 3 (d := h__law_take) rfl
  have g__law_take := He.glo_ok X G (c.fact 3 (f := .glo "_law_take") rfl)
  obtain ⟨fd_number_of, D_number_of⟩ := c.def_ 4 (d := h_number_of) rfl
  have g_number_of := He.glo_ok X G (c.fact 4 (f := .glo "number_of") rfl)
  obtain ⟨fd__law_number, D__law_number⟩ := c.def_ 5 (d := h__law_number) rfl
  have g__law_number := He.glo_ok X G (c.fact 5 (f := .glo "_law_number") rfl)
  obtain ⟨fd_is_whole, D_is_whole⟩ := c.def_ 6 (d := h_is_whole) rfl
  have g_is_whole := He.glo_ok X G (c.fact 6 (f := .glo "is_whole") rfl)
  obtain ⟨fd_is_within, D_is_within⟩ := c.def_ 7 (d := h_is_within) rfl
  have g_is_within := He.glo_ok X G (c.fact 7 (f := .glo "is_within") rfl)
  obtain ⟨fd_is_name, D_is_name⟩ := c.def_ 8 (d := h_is_name) rfl
  have g_is_name := He.glo_ok X G (c.fact 8 (f := .glo "is_name") rfl)
  obtain ⟨fd__law_is_name, D__law_is_name⟩ := c.def_ 9 (d := h__law_is_name) rfl
  have g__law_is_name := He.glo_ok X G (c.fact 9 (f := .glo "_law_is_name") rfl)
  obtain ⟨fd__law_right, D__law_right⟩ := c.def_ 10 (d := h__law_right) rfl
  have g__law_right := He.glo_ok X G (c.fact 10 (f := .glo "_law_right") rfl)
  obtain ⟨fd__law_thing, D__law_thing⟩ := c.def_ 11 (d := h__law_thing) rfl
  have g__law_thing := He.glo_ok X G (c.fact 11 (f := .glo "_law_thing") rfl)
  obtain ⟨fd__law_text, D__law_text⟩ := c.def_ 12 (d := h__law_text) rfl
  have g__law_text := He.glo_ok X G (c.fact 12 (f := .glo "_law_text") rfl)
  obtain ⟨fd_law, D_law⟩ := c.def_ 13 (d := h_law) rfl
  have g_law := He.glo_ok X G (c.fact 13 (f := .glo "law") rfl)
  have e := hfa.symm.trans g_law
  cases e
  have bl := FunD.bindsA (ps := ["_law_script"]) D_law fun _ _ _ _ _ _ us hl => match us, hl with | [_], _ => rfl
  refine ⟨fd_law, fun s v => bl s [v] rfl, fun base _ _ => ?_⟩
  have b__law_box : Binds K fd__law_box ["_law_cell_here"] [] := D__law_box.bindsN fun _ _ _ _ _ _ us hl => match us, hl with | [_], _ => rfl
  have H__law_box : Fn (⟨fun _ => 0, K⟩ : Ec) (fun _ => []) P w K mg base "_law_box" 1 1 F__law_box := ⟨_, _, _, ok__law_box rfl T D__law_box , g__law_box, D__law_box.kp, b__law_box⟩
  have b__law_whole : Binds K fd__law_whole ["_law_thing_here"] [] := D__law_whole.bindsN fun _ _ _ _ _ _ us hl => match us, hl with | [_], _ => rfl
  have H__law_whole : Fn (⟨fun _ => 0, K⟩ : Ec) (fun _ => []) P w K mg base "_law_whole" 1 1 F__law_whole := ⟨_, _, _, ok__law_whole rfl T D__law_whole , g__law_whole, D__law_whole.kp, b__law_whole⟩
  have b__law_cell : Binds K fd__law_cell ["_law_script", "_law_k"] [] := D__law_cell.bindsN fun _ _ _ _ _ _ us hl => match us, hl with | [_, _], _ => rfl
  have H__law_cell : Fn (⟨fun _ => 0, K⟩ : Ec) (fun _ => []) P w K mg base "_law_cell" 1 2 F__law_cell := ⟨_, _, _, ok__law_cell rfl T D__law_cell , g__law_cell, D__law_cell.kp, b__law_cell⟩
  have b__law_take : Binds K fd__law_take ["_law_box_here", "_law_many"] [] := D__law_take.bindsN fun _ _ _ _ _ _ us hl => match us, hl with | [_, _], _ => rfl
  have H__law_take : Fn (⟨fun _ => 0, K⟩ : Ec) (fun _ => []) P w K mg base "_law_take" 1 2 F__law_take := ⟨_, _, _, ok__law_take rfl T D__law_take , g__law_take, D__law_take.kp, b__law_take⟩
  have b_number_of : Binds K fd_number_of ["thing"] [] := D_number_of.bindsN fun _ _ _ _ _ _ us hl => match us, hl with | [_], _ => rfl
  have H_number_of : Fn (⟨fun _ => 0, K⟩ : Ec) (fun _ => []) P w K mg base "number_of" 1 1 F_number_of := ⟨_, _, _, ok_number_of rfl T D_number_of , g_number_of, D_number_of.kp, b_number_of⟩
  have b__law_number : Binds K fd__law_number ["_law_thing_here"] [] := D__law_number.bindsN fun _ _ _ _ _ _ us hl => match us, hl with | [_], _ => rfl
  have H__law_number : Fn (⟨fun _ => 0, K⟩ : Ec) (fun _ => []) P w K mg base "_law_number" 1 1 F__law_number := ⟨_, _, _, ok__law_number rfl T D__law_number , g__law_number, D__law_number.kp, b__law_number⟩
  have b_is_whole : Binds K fd_is_whole ["thing"] [] := D_is_whole.bindsN fun _ _ _ _ _ _ us hl => match us, hl with | [_], _ => rfl
  have H_is_whole : Fn (⟨fun _ => 0, K⟩ : Ec) (fun _ => []) P w K mg base "is_whole" 1 1 F_is_whole := ⟨_, _, _, ok_is_whole rfl T D_is_whole , g_is_whole, D_is_whole.kp, b_is_whole⟩
  have b_is_within : Binds K fd_is_within ["thing", "low", "high"] [] := D_is_within.bindsN fun _ _ _ _ _ _ us hl => match us, hl with | [_, _, _], _ => rfl
  have H_is_within : Fn (⟨fun _ => 0, K⟩ : Ec) (fun _ => []) P w K mg base "is_within" 2 3 F_is_within := ⟨_, _, _, ok_is_within rfl T D_is_within H_is_whole, g_is_within, D_is_within.kp, b_is_within⟩
  have b_is_name : Binds K fd_is_name ["thing"] [] := D_is_name.bindsN fun _ _ _ _ _ _ us hl => match us, hl with | [_], _ => rfl
  have H_is_name : Fn (⟨fun _ => 0, K⟩ : Ec) (fun _ => []) P w K mg base "is_name" 1 1 F_is_name := ⟨_, _, _, ok_is_name rfl T D_is_name , g_is_name, D_is_name.kp, b_is_name⟩
  have b__law_is_name : Binds K fd__law_is_name ["_law_thing_here"] [] := D__law_is_name.bindsN fun _ _ _ _ _ _ us hl => match us, hl with | [_], _ => rfl
  have H__law_is_name : Fn (⟨fun _ => 0, K⟩ : Ec) (fun _ => []) P w K mg base "_law_is_name" 1 1 F__law_is_name := ⟨_, _, _, ok__law_is_name rfl T D__law_is_name , g__law_is_name, D__law_is_name.kp, b__law_is_name⟩
  have b__law_right : Binds K fd__law_right ["_law_thing_here", "_law_low", "_law_high"] [] := D__law_right.bindsN fun _ _ _ _ _ _ us hl => match us, hl with | [_, _, _], _ => rfl
  have H__law_right : Fn (⟨fun _ => 0, K⟩ : Ec) (fun _ => []) P w K mg base "_law_right" 3 3 F__law_right := ⟨_, _, _, ok__law_right rfl T D__law_right H__law_whole H_is_whole H_is_within H_is_name H__law_is_name H_number_of H__law_number, g__law_right, D__law_right.kp, b__law_right⟩
  have b__law_thing : Binds K fd__law_thing ["_law_box_here"] [] := D__law_thing.bindsN fun _ _ _ _ _ _ us hl => match us, hl with | [_], _ => rfl
  have H__law_thing : Fn (⟨fun _ => 0, K⟩ : Ec) (fun _ => []) P w K mg base "_law_thing" 2 1 F__law_thing := ⟨_, _, _, ok__law_thing rfl T D__law_thing H__law_take, g__law_thing, D__law_thing.kp, b__law_thing⟩
  have b__law_text : Binds K fd__law_text ["_law_box_here"] [] := D__law_text.bindsN fun _ _ _ _ _ _ us hl => match us, hl with | [_], _ => rfl
  have H__law_text : Fn (⟨fun _ => 0, K⟩ : Ec) (fun _ => []) P w K mg base "_law_text" 2 1 F__law_text := ⟨_, _, _, ok__law_text rfl T D__law_text H__law_take, g__law_text, D__law_text.kp, b__law_text⟩
  exact ok_law rfl T D_law H__law_box H__law_cell H__law_thing H__law_text H__law_take H__law_right H__law_whole H_is_within
theorem sp_law {K : PySem.W.Frag} {H : Hp} {a : Addr} {ns : List Int} (hO : Only H) (hS : SqL K H a (ns.map V.int)) (h : ∃ s, F_law [.s ns] = .ok (.bl true) s) : spF ⟨fun _ => 0, K⟩ (fun _ => []) 1 F_law [.ref a] H (fun v _ => v = .bl true) fun _ _ _ => False := by
  obtain ⟨s, h⟩ := h
  refine ⟨fun _ => False, fun _ => False, fun _ => False, [.s ns], ⟨⟨[], [], by simp [Rps], ?_, by simp, by simp, by simp⟩, by simp, by simp, by simp⟩, rfl, ?_⟩
  · simp only [List.map_cons, List.map_nil, Rpo, Rp]
    refine ⟨.ref a, [], [], [], rfl, rfl, ⟨rfl, a, rfl, ?_⟩, rfl, rfl⟩
    rcases hS with (hS | ⟨o, hS⟩) | hS
    · rcases hO a with q | ⟨o, xs, q⟩
      · rw [q] at hS; cases hS
      · rw [q] at hS; cases hS
    · exact .inl ⟨o, hS, id⟩
    · exact .inr hS
  · rw [h]
    intro v A' H' _ j
    obtain ⟨u, f1, e, h1⟩ := j.one
    cases e
    exact h1.leafv.1
end Lw
open PySem PySem.W PySem.Calls PyProof.Rows
theorem PySem.Challenge.cw_failslack_k01_numbers_and_names_holds : PySem.Challenge.rw_failslack_k01_numbers_and_names.Holds := by
  w_on; o_law
  refine HandSHeadRun.head_any (r := OpenLaw.row PySem.Challenge.rw_failslack_k01_numbers_and_names) (q := view (OpenLaw.row PySem.Challenge.rw_failslack_k01_numbers_and_names).prog [19]) (H := Lw.hk) (ob := Lw.ob) (M := 3000) (loose := Lw.loose) (d := HandSHeadRun.topDef (OpenLaw.row PySem.Challenge.rw_failslack_k01_numbers_and_names).prog 19) (kwd := []) Lw.ob_eq
    (by kernel_rfl) (fun s => by kernel_rfl) Lw.run (by kernel_rfl) (by kernel_rfl) (by kernel_rfl) (by rfl) (by first | assumption | decide +kernel) (by decide +kernel) ⟨rfl, rfl, rfl, rfl, rfl, by decide +kernel⟩ ?hw ?hc
  case hw => w_witness2
  case hc =>
    refine Fs.walk_E2 (l := PySem.Challenge.rw_failslack_k01_numbers_and_names) (n := 63) (k := 4) (x := "_law_script") (CX := fun w => L2.CX (PySem.Challenge.rw_failslack_k01_numbers_and_names).prog w) rfl (by decide) (by kernel_rfl) ⟨rfl, by decide, by decide⟩ ?F (fun _ _ _ _ _ ⟨_, _, _, _, _, _, _, _, _, _, _, _, z⟩ => z)
    intro w mg fa h Y G hmg0
    obtain ⟨K, KX, c⟩ := Y
    have hmg : mg ("law" : PySem.Str) = some (.ref fa) := by
      have e : (HandSHeadRun.topDef (OpenLaw.row PySem.Challenge.rw_failslack_k01_numbers_and_names).prog 19).name = ("law" : PySem.Str) := by kernel_rfl
      rw [← e]
      exact hmg0
    obtain ⟨fd, hb, hF⟩ := Lw.facts (P := (PySem.Challenge.rw_failslack_k01_numbers_and_names).prog) (w := w) KX G hmg c
    exact ⟨K, fd, _, KX, hb, fun H a ns hl hO hS => Lw.sp_law hO hS (Lw.law_true ns hl), hF⟩
