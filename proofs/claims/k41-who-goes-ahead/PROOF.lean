import PyProof.Rows.All
import Wide.All
import OpenK.AllK
import Wide.FinOn
import HandS.ForMost
import HandS.ForExc
import HandS.IsInst
import HandS.ExcInit
import HandS.ExcField
import HandS.TryMany
import HandS.Flow
import HandS.Defaults
import HandS.Ends
import HandS.HeadEnd
import HandS.Replace
import HandS.ExcIs
import KE.KExcIs
import HandS.TupAny
import HandS.SortInts
import HandS.SetFor
import HandS.Deep
import PyProof.TupleCall
import KE.KDictList
import HandS.Conv
import HandS.SortKw
import PyProof.WalkInts
import HandS.Strs
import HandS.RaiseMore
import KE.KRevSl
import HandS.Small
import HandS.HeadHook1
import HandS.HeadHook2
import KE.KStateDown
import Lean
import HandS.More
import HandS.Words
import HandS.WordsExc
import HandS.Head0
import HandS.Head1
import HandS.Head2
import KE.IntTextLaws
import PySem.Challenge.RW_failslack_k41_who_goes_ahead
set_option Elab.async false
set_option linter.all false
set_option maxRecDepth 100000
/-! F0 -/
/-! Data, and how a value in the heap stands for it. -/
namespace Fs
open PySem L2
inductive Fl | own | shr | bor deriving DecidableEq
inductive Kd | tup | lst | dct (ks : List Key) | dcl (ks : List Key) | obj (c : Nat) (fs : List Str) deriving DecidableEq
inductive D | v (x : V) | s (ns : List Int) | n (k : Kd) (w : Fl) (xs : List D)
/-- where the classes stand, the written part -/
structure Ec where
  c : Nat → Addr
  K : PySem.W.Frag
def Ec.Wr (cl : Ec) (a : Addr) (xs : List V) : Prop := ∃ (o : Obj) (its : Array Value) (n : Nat), cl.K.lookup a = some o ∧ o.cls = .type "list" ∧ o.dict = none ∧ o.data = .seq its n ∧ its.size ≤ sizeLine ∧ Vals xs its.toList
@[reducible] def D.int (i : Int) : D := .v (.int i)
@[reducible] def D.str (s : Str) : D := .v (.str s)
@[reducible] def D.bl (b : Bool) : D := .v (.bl b)
@[reducible] def D.non : D := .v .non
def sc : V → Bool | .non => true | .bl _ => true | .int _ => true | .str _ => true | _ => false
/-- the flag at the root: may the thing be kept by others -/
def D.kept : D → Bool | .v _ => true | .s _ => true | .n _ .shr _ => true | _ => false
def Shape (cl : Ec) : Kd → List V → HO → Prop
  | .tup, vs, o => o = .tup vs
  | .lst, vs, o => o = .lst vs
  | .dct ks, vs, o => ks.length = vs.length ∧ o = .dK (ks.zip vs)
  | .dcl ks, vs, o => ks.length = vs.length ∧ ∃ ob, o = .frz ob (.dK (ks.zip vs))
  | .obj c fs, vs, o => fs.length = vs.length ∧ ∃ dx, o = .ins (cl.c c) dx (fs.zip vs)
section
variable (cl : Ec) (A L : Addr → Prop) (H : Hp)
mutual
def Rp (b : Bool) : D → V → List Addr → Prop
  | .v x, v, fp => sc x = true ∧ v = x ∧ fp = []
  | .s ns, v, fp => fp = [] ∧ ∃ a, v = .ref a ∧ ((∃ ob, H a = some (.frz ob (.lst (ns.map V.int))) ∧ ¬ A a) ∨ cl.Wr a (ns.map V.int))
  | .n k w ds, v, fp => ∃ a o vs, v = .ref a ∧ H a = some o ∧ Shape cl k vs o ∧
      match w with
      | .shr => ¬ A a ∧ fp = [] ∧ Rps false ds vs []
      | .own => A a ∧ ∃ fp', fp = a :: fp' ∧ Rps false ds vs fp'
      | .bor => b = true ∧ L a ∧ fp = [] ∧ Rps b ds vs []
def Rps (b : Bool) : List D → List V → List Addr → Prop
  | [], vs, fp => vs = [] ∧ fp = []
  | d :: ds, vs, fp => ∃ v vs' f1 f2, vs = v :: vs' ∧ fp = f1 ++ f2 ∧ Rp b d v f1 ∧ Rps b ds vs' f2
end
end
abbrev Sl := List (Option D)
section
variable {cl : Ec} {A A' L L' B : Addr → Prop} {H H' : Hp} {b : Bool}
theorem Rp.weak : ∀ {d : D} {v : V} {fp : List Addr}, Rp cl A L H false d v fp → Rp cl A L H b d v fp
  | .v x, v, fp, h => by simp only [Rp] at h ⊢; exact h
  | .s x, v, fp, h => by simp only [Rp] at h ⊢; exact h
  | .n k w ds, v, fp, h => by
    simp only [Rp] at h ⊢
    obtain ⟨a, o, vs, h1, h2, h3, h4⟩ := h
    refine ⟨a, o, vs, h1, h2, h3, ?_⟩
    cases w with
    | shr => exact h4
    | own => exact h4
    | bor => exact absurd h4.1 (by simp)
theorem Rps.weak : ∀ {ds : List D} {vs : List V} {fp : List Addr}, Rps cl A L H false ds vs fp → Rps cl A L H b ds vs fp
  | [], vs, fp, h => by simp only [Rps] at h ⊢; exact h
  | d :: ds, vs, fp, h => by
    simp only [Rps] at h ⊢
    obtain ⟨v, vs', f1, f2, h1, h2, h3, h4⟩ := h
    exact ⟨v, vs', f1, f2, h1, h2, h3.weak, Rps.weak h4⟩
/-- what is kept at its root holds with no borrowing -/
theorem Rp.strong : ∀ {d : D} {v : V} {fp : List Addr}, d.kept = true → Rp cl A L H b d v fp → Rp cl A L H false d v fp ∧ fp = []
  | .v x, v, fp, _, h => by simp only [Rp] at h ⊢; exact ⟨h, h.2.2⟩
  | .s x, v, fp, _, h => by simp only [Rp] at h ⊢; exact ⟨h, h.1⟩
  | .n k .shr ds, v, fp, _, h => by
    simp only [Rp] at h ⊢
    obtain ⟨a, o, vs, h1, h2, h3, h4, h5, h6⟩ := h
    exact ⟨⟨a, o, vs, h1, h2, h3, h4, h5, h6⟩, h5⟩
  | .n k .own ds, v, fp, hk, _ => by simp [D.kept] at hk
  | .n k .bor ds, v, fp, hk, _ => by simp [D.kept] at hk
mutual
theorem Rp.step : ∀ {d : D} {v : V} {fp : List Addr} {b : Bool}, Rp cl A L H b d v fp → (∀ a o, H a = some o → ¬ A a → H' a = some o ∧ ¬ A' a) → (∀ a ∈ fp, H' a = H a ∧ A' a) → (b = true → ∀ a, L a → H' a = H a ∧ L' a) → Rp cl A' L' H' b d v fp
  | .v x, v, fp, b, h, _, _, _ => by simp only [Rp] at h ⊢; exact h
  | .s x, v, fp, b, h, hk, _, _ => by
    simp only [Rp] at h ⊢
    obtain ⟨h1, a, h2, h3⟩ := h
    refine ⟨h1, a, h2, ?_⟩
    rcases h3 with ⟨ob, h3, h4⟩ | h3
    · exact .inl ⟨ob, (hk a _ h3 h4).1, (hk a _ h3 h4).2⟩
    · exact .inr h3
  | .n k .shr ds, v, fp, b, h, hk, hf, hl => by
    simp only [Rp] at h ⊢
    obtain ⟨a, o, vs, h1, h2, h3, h4, h5, h6⟩ := h
    exact ⟨a, o, vs, h1, (hk a o h2 h4).1, h3, (hk a o h2 h4).2, h5, Rps.step h6 hk (by simp) (by simp)⟩
  | .n k .own ds, v, fp, b, h, hk, hf, hl => by
    simp only [Rp] at h ⊢
    obtain ⟨a, o, vs, h1, h2, h3, h4, fp', h5, h6⟩ := h
    subst h5
    have h7 := hf a List.mem_cons_self
    exact ⟨a, o, vs, h1, h7.1.trans h2, h3, h7.2, fp', rfl, Rps.step h6 hk (fun c hc => hf c (List.mem_cons_of_mem _ hc)) (by simp)⟩
  | .n k .bor ds, v, fp, b, h, hk, hf, hl => by
    simp only [Rp] at h ⊢
    obtain ⟨a, o, vs, h1, h2, h3, h4, h5, h6, h7⟩ := h
    exact ⟨a, o, vs, h1, (hl h4 a h5).1.trans h2, h3, h4, (hl h4 a h5).2, h6, Rps.step h7 hk (by simp) hl⟩
theorem Rps.step : ∀ {ds : List D} {vs : List V} {fp : List Addr} {b : Bool}, Rps cl A L H b ds vs fp → (∀ a o, H a = some o → ¬ A a → H' a = some o ∧ ¬ A' a) → (∀ a ∈ fp, H' a = H a ∧ A' a) → (b = true → ∀ a, L a → H' a = H a ∧ L' a) → Rps cl A' L' H' b ds vs fp
  | [], vs, fp, b, h, _, _, _ => by simp only [Rps] at h ⊢; exact h
  | d :: ds, vs, fp, b, h, hk, hf, hl => by
    simp only [Rps] at h ⊢
    obtain ⟨v, vs', f1, f2, h1, h2, h3, h4⟩ := h
    subst h2
    exact ⟨v, vs', f1, f2, h1, rfl, Rp.step h3 hk (fun c hc => hf c (List.mem_append_left _ hc)) hl, Rps.step h4 hk (fun c hc => hf c (List.mem_append_right _ hc)) hl⟩
end
/-! owned nodes are in A and stand in the heap -/
mutual
theorem Rp.inA : ∀ {d : D} {v : V} {fp : List Addr} {b : Bool}, Rp cl A L H b d v fp → ∀ a ∈ fp, A a ∧ ∃ o, H a = some o
  | .v x, v, fp, b, h, a, ha => by simp only [Rp] at h; rw [h.2.2] at ha; simp at ha
  | .s x, v, fp, b, h, a, ha => by simp only [Rp] at h; rw [h.1] at ha; simp at ha
  | .n k .shr ds, v, fp, b, h, a, ha => by
    simp only [Rp] at h
    obtain ⟨_, o, vs, h1, h2, h3, h4, h5, h6⟩ := h
    rw [h5] at ha; simp at ha
  | .n k .own ds, v, fp, b, h, a, ha => by
    simp only [Rp] at h
    obtain ⟨c, o, vs, h1, h2, h3, h4, fp', h5, h6⟩ := h
    rw [h5] at ha
    rcases List.mem_cons.mp ha with rfl | ha
    · exact ⟨h4, o, h2⟩
    · exact Rps.inA h6 a ha
  | .n k .bor ds, v, fp, b, h, a, ha => by
    simp only [Rp] at h
    obtain ⟨_, o, vs, h1, h2, h3, h4, h5, h6, h7⟩ := h
    rw [h6] at ha; simp at ha
theorem Rps.inA : ∀ {ds : List D} {vs : List V} {fp : List Addr} {b : Bool}, Rps cl A L H b ds vs fp → ∀ a ∈ fp, A a ∧ ∃ o, H a = some o
  | [], vs, fp, b, h, a, ha => by simp only [Rps] at h; rw [h.2] at ha; simp at ha
  | d :: ds, vs, fp, b, h, a, ha => by
    simp only [Rps] at h
    obtain ⟨v, vs', f1, f2, h1, h2, h3, h4⟩ := h
    rw [h2] at ha
    rcases List.mem_append.mp ha with ha | ha
    · exact Rp.inA h3 a ha
    · exact Rps.inA h4 a ha
end
/-! freezing -/
mutual
def frz : D → D
  | .v x => .v x
  | .s x => .s x
  | .n k .shr ds => .n k .shr ds
  | .n k .own ds => .n k .shr (frzs ds)
  | .n k .bor ds => .n k .bor ds
def frzs : List D → List D
  | [] => []
  | d :: ds => frz d :: frzs ds
end
mutual
theorem Rp.frz : ∀ {d : D} {v : V} {fp : List Addr}, Rp cl A L H false d v fp → (∀ a o, H a = some o → ¬ A a → ¬ A' a) → (∀ a ∈ fp, ¬ A' a) → Rp cl A' L H false (frz d) v []
  | .v x, v, fp, h, _, _ => by simp only [Rp, Fs.frz] at h ⊢; exact ⟨h.1, h.2.1, trivial⟩
  | .s x, v, fp, h, hk, _ => by
    simp only [Rp, Fs.frz] at h ⊢
    obtain ⟨h1, a, h2, h3⟩ := h
    refine ⟨trivial, a, h2, ?_⟩
    rcases h3 with ⟨ob, h3, h4⟩ | h3
    · exact .inl ⟨ob, h3, hk a _ h3 h4⟩
    · exact .inr h3
  | .n k .shr ds, v, fp, h, hk, hf => by
    simp only [Rp, Fs.frz] at h ⊢
    obtain ⟨a, o, vs, h1, h2, h3, h4, h5, h6⟩ := h
    exact ⟨a, o, vs, h1, h2, h3, hk a o h2 h4, trivial, h6.step (fun c u q n => ⟨q, hk c u q n⟩) (by simp) (by simp)⟩
  | .n k .own ds, v, fp, h, hk, hf => by
    simp only [Rp, Fs.frz] at h ⊢
    obtain ⟨a, o, vs, h1, h2, h3, h4, fp', h5, h6⟩ := h
    subst h5
    exact ⟨a, o, vs, h1, h2, h3, hf a List.mem_cons_self, trivial, Rps.frz h6 hk (fun c hc => hf c (List.mem_cons_of_mem _ hc))⟩
  | .n k .bor ds, v, fp, h, hk, hf => by
    simp only [Rp] at h
    obtain ⟨_, _, _, _, _, _, h4, _⟩ := h
    simp at h4
theorem Rps.frz : ∀ {ds : List D} {vs : List V} {fp : List Addr}, Rps cl A L H false ds vs fp → (∀ a o, H a = some o → ¬ A a → ¬ A' a) → (∀ a ∈ fp, ¬ A' a) → Rps cl A' L H false (frzs ds) vs []
  | [], vs, fp, h, _, _ => by simp only [Rps, frzs] at h ⊢; exact ⟨h.1, trivial⟩
  | d :: ds, vs, fp, h, hk, hf => by
    simp only [Rps, frzs] at h ⊢
    obtain ⟨v, vs', f1, f2, h1, h2, h3, h4⟩ := h
    subst h2
    exact ⟨v, vs', [], [], h1, rfl, Rp.frz h3 hk (fun c hc => hf c (List.mem_append_left _ hc)), Rps.frz h4 hk (fun c hc => hf c (List.mem_append_right _ hc))⟩
end
/-! lending -/
mutual
def lend : D → D
  | .v x => .v x
  | .s x => .s x
  | .n k .shr ds => .n k .shr ds
  | .n k .own ds => .n k .bor (lends ds)
  | .n k .bor ds => .n k .bor ds
def lends : List D → List D
  | [] => []
  | d :: ds => lend d :: lends ds
end
mutual
theorem Rp.lend : ∀ {d : D} {v : V} {fp : List Addr} {b : Bool}, Rp cl A L H b d v fp → (∀ a ∈ fp, L' a) → (∀ a, L a → L' a) → Rp cl A L' H true (lend d) v []
  | .v x, v, fp, b, h, _, _ => by simp only [Rp, Fs.lend] at h ⊢; exact ⟨h.1, h.2.1, trivial⟩
  | .s x, v, fp, b, h, _, _ => by
    simp only [Rp, Fs.lend] at h ⊢
    exact ⟨trivial, h.2⟩
  | .n k .shr ds, v, fp, b, h, hf, hl => by
    simp only [Rp, Fs.lend] at h ⊢
    obtain ⟨a, o, vs, h1, h2, h3, h4, h5, h6⟩ := h
    exact ⟨a, o, vs, h1, h2, h3, h4, trivial, h6.step (fun c u q n => ⟨q, n⟩) (by simp) (by simp)⟩
  | .n k .own ds, v, fp, b, h, hf, hl => by
    simp only [Rp, Fs.lend] at h ⊢
    obtain ⟨a, o, vs, h1, h2, h3, h4, fp', h5, h6⟩ := h
    subst h5
    exact ⟨a, o, vs, h1, h2, h3, trivial, hf a List.mem_cons_self, trivial, Rps.lend h6 (fun c hc => hf c (List.mem_cons_of_mem _ hc)) hl⟩
  | .n k .bor ds, v, fp, b, h, hf, hl => by
    simp only [Rp, Fs.lend] at h ⊢
    obtain ⟨a, o, vs, h1, h2, h3, h4, h5, h6, h7⟩ := h
    subst h4
    exact ⟨a, o, vs, h1, h2, h3, trivial, hl a h5, trivial, h7.step (fun c u q n => ⟨q, n⟩) (by simp) (fun _ c hc => ⟨rfl, hl c hc⟩)⟩
theorem Rps.lend : ∀ {ds : List D} {vs : List V} {fp : List Addr} {b : Bool}, Rps cl A L H b ds vs fp → (∀ a ∈ fp, L' a) → (∀ a, L a → L' a) → Rps cl A L' H true (lends ds) vs []
  | [], vs, fp, b, h, _, _ => by simp only [Rps, lends] at h ⊢; exact ⟨h.1, trivial⟩
  | d :: ds, vs, fp, b, h, hf, hl => by
    simp only [Rps, lends] at h ⊢
    obtain ⟨v, vs', f1, f2, h1, h2, h3, h4⟩ := h
    subst h2
    exact ⟨v, vs', [], [], h1, rfl, Rp.lend h3 (fun c hc => hf c (List.mem_append_left _ hc)) hl, Rps.lend h4 (fun c hc => hf c (List.mem_append_right _ hc)) hl⟩
end
theorem Rps.length : ∀ {ds : List D} {vs : List V} {fp : List Addr}, Rps cl A L H b ds vs fp → ds.length = vs.length
  | [], vs, fp, h => by simp only [Rps] at h; simp [h.1]
  | d :: ds, vs, fp, h => by
    simp only [Rps] at h
    obtain ⟨v, vs', f1, f2, h1, h2, h3, h4⟩ := h
    rw [h1, List.length_cons, List.length_cons, Rps.length h4]
theorem Rps.get : ∀ {ds : List D} {vs : List V} {fp : List Addr} {i : Nat} {d : D}, Rps cl A L H b ds vs fp → ds[i]? = some d → ∃ v f1, vs[i]? = some v ∧ Rp cl A L H b d v f1 ∧ ∀ a ∈ f1, a ∈ fp
  | [], vs, fp, i, d, h, e => by simp at e
  | d0 :: ds, vs, fp, i, d, h, e => by
    simp only [Rps] at h
    obtain ⟨v, vs', f1, f2, h1, h2, h3, h4⟩ := h
    subst h1 h2
    cases i with
    | zero =>
      simp only [List.getElem?_cons_zero, Option.some.injEq] at e
      subst e
      exact ⟨v, f1, rfl, h3, fun a ha => List.mem_append_left _ ha⟩
    | succ i =>
      simp only [List.getElem?_cons_succ] at e ⊢
      obtain ⟨v2, f3, g1, g2, g3⟩ := Rps.get h4 e
      exact ⟨v2, f3, g1, g2, fun a ha => List.mem_append_right _ (g3 a ha)⟩
theorem Rps.append : ∀ {ds es : List D} {vs ws : List V} {f g : List Addr}, Rps cl A L H b ds vs f → Rps cl A L H b es ws g → Rps cl A L H b (ds ++ es) (vs ++ ws) (f ++ g)
  | [], es, vs, ws, f, g, h, h' => by simp only [Rps] at h; rw [h.1, h.2]; exact h'
  | d :: ds, es, vs, ws, f, g, h, h' => by
    simp only [Rps, List.cons_append] at h ⊢
    obtain ⟨v, vs', f1, f2, h1, h2, h3, h4⟩ := h
    subst h1 h2
    exact ⟨v, vs' ++ ws, f1, f2 ++ g, rfl, by rw [List.append_assoc], h3, Rps.append h4 h'⟩
end
end Fs
/-! F1 -/
/-! States, and what it is that a reading does what a function of data says. -/
namespace Fs
open PySem L2
inductive Out (α : Type) | ok (a : α) (s : Sl) | exc (c : Nat) (xs : List D) (s : Sl) | bad
def Out.bind {α β : Type} : Out α → (α → Sl → Out β) → Out β
  | .ok a s, f => f a s
  | .exc c xs s, _ => .exc c xs s
  | .bad, _ => .bad
inductive Flow | nx | rt (d : D) | bk | ct
abbrev DE := Sl → Out D
abbrev DT := Sl → Out Bool
abbrev DA := Sl → Out (List D)
abbrev DS := Sl → Out Flow
abbrev PP := Sl → Option D
abbrev PT := Sl → Option Bool
section
variable (cl : Ec) (A L : Addr → Prop) (H : Hp)
def Rpo : Sl → List (Option V) → List Addr → Prop
  | [], σ, fp => σ = [] ∧ fp = []
  | none :: δ, σ, fp => ∃ x σ', σ = x :: σ' ∧ Rpo δ σ' fp
  | some d :: δ, σ, fp => ∃ v σ' f1 f2, σ = some v :: σ' ∧ fp = f1 ++ f2 ∧ Rp cl A L H true d v f1 ∧ Rpo δ σ' f2
end
section
variable {cl : Ec} {A A' A'' L L' B : Addr → Prop} {H H' H'' : Hp} {b : Bool}
theorem Rpo.step : ∀ {δ : Sl} {σ : List (Option V)} {fp : List Addr}, Rpo cl A L H δ σ fp → (∀ a o, H a = some o → ¬ A a → H' a = some o ∧ ¬ A' a) → (∀ a ∈ fp, H' a = H a ∧ A' a) → (∀ a, L a → H' a = H a ∧ L' a) → Rpo cl A' L' H' δ σ fp
  | [], σ, fp, h, _, _, _ => by simp only [Rpo] at h ⊢; exact h
  | none :: δ, σ, fp, h, hk, hf, hl => by
    simp only [Rpo] at h ⊢
    obtain ⟨x, σ', h1, h2⟩ := h
    exact ⟨x, σ', h1, h2.step hk hf hl⟩
  | some d :: δ, σ, fp, h, hk, hf, hl => by
    simp only [Rpo] at h ⊢
    obtain ⟨v, σ', f1, f2, h1, h2, h3, h4⟩ := h
    subst h2
    exact ⟨v, σ', f1, f2, h1, rfl, h3.step hk (fun c hc => hf c (List.mem_append_left _ hc)) (fun _ => hl), h4.step hk (fun c hc => hf c (List.mem_append_right _ hc)) hl⟩
theorem Rpo.inA : ∀ {δ : Sl} {σ : List (Option V)} {fp : List Addr}, Rpo cl A L H δ σ fp → ∀ a ∈ fp, A a ∧ ∃ o, H a = some o
  | [], σ, fp, h, a, ha => by simp only [Rpo] at h; rw [h.2] at ha; simp at ha
  | none :: δ, σ, fp, h, a, ha => by
    simp only [Rpo] at h
    obtain ⟨x, σ', h1, h2⟩ := h
    exact h2.inA a ha
  | some d :: δ, σ, fp, h, a, ha => by
    simp only [Rpo] at h
    obtain ⟨v, σ', f1, f2, h1, h2, h3, h4⟩ := h
    rw [h2] at ha
    rcases List.mem_append.mp ha with ha | ha
    · exact h3.inA a ha
    · exact h4.inA a ha
theorem Rpo.length : ∀ {δ : Sl} {σ : List (Option V)} {fp : List Addr}, Rpo cl A L H δ σ fp → δ.length = σ.length
  | [], σ, fp, h => by simp only [Rpo] at h; simp [h.1]
  | none :: δ, σ, fp, h => by
    simp only [Rpo] at h
    obtain ⟨x, σ', h1, h2⟩ := h
    simp [h1, h2.length]
  | some d :: δ, σ, fp, h => by
    simp only [Rpo] at h
    obtain ⟨v, σ', f1, f2, h1, h2, h3, h4⟩ := h
    simp [h1, h4.length]
theorem Rpo.get : ∀ {δ : Sl} {σ : List (Option V)} {fp : List Addr} {i : Nat} {d : D}, Rpo cl A L H δ σ fp → δ[i]? = some (some d) → ∃ v f1, σ[i]? = some (some v) ∧ Rp cl A L H true d v f1 ∧ ∀ a ∈ f1, a ∈ fp
  | [], σ, fp, i, d, h, e => by simp at e
  | none :: δ, σ, fp, i, d, h, e => by
    simp only [Rpo] at h
    obtain ⟨x, σ', h1, h2⟩ := h
    subst h1
    cases i with
    | zero => simp at e
    | succ i => simp only [List.getElem?_cons_succ] at e ⊢; exact h2.get e
  | some d0 :: δ, σ, fp, i, d, h, e => by
    simp only [Rpo] at h
    obtain ⟨v, σ', f1, f2, h1, h2, h3, h4⟩ := h
    subst h1 h2
    cases i with
    | zero =>
      simp only [List.getElem?_cons_zero, Option.some.injEq] at e
      subst e
      exact ⟨v, f1, rfl, h3, fun a ha => List.mem_append_left _ ha⟩
    | succ i =>
      simp only [List.getElem?_cons_succ] at e ⊢
      obtain ⟨v2, f3, g1, g2, g3⟩ := h4.get e
      exact ⟨v2, f3, g1, g2, fun a ha => List.mem_append_right _ (g3 a ha)⟩
/-- a slot is taken out: what it held, and the rest -/
theorem Rpo.take : ∀ {δ : Sl} {σ : List (Option V)} {fp : List Addr} {i : Nat} {d : D}, Rpo cl A L H δ σ fp → δ[i]? = some (some d) → fp.Nodup →
    ∃ v f1 f2, σ[i]? = some (some v) ∧ Rp cl A L H true d v f1 ∧ Rpo cl A L H (δ.set i none) σ f2 ∧ (f1 ++ f2).Nodup ∧ ∀ a, a ∈ f1 ++ f2 ↔ a ∈ fp
  | [], σ, fp, i, d, h, e, nd => by simp at e
  | none :: δ, σ, fp, i, d, h, e, nd => by
    simp only [Rpo] at h
    obtain ⟨x, σ', h1, h2⟩ := h
    subst h1
    cases i with
    | zero => simp at e
    | succ i =>
      simp only [List.getElem?_cons_succ, List.set_cons_succ] at e ⊢
      obtain ⟨v, f1, f2, g1, g2, g3, g4, g5⟩ := h2.take e nd
      exact ⟨v, f1, f2, g1, g2, by simp only [Rpo]; exact ⟨x, σ', rfl, g3⟩, g4, g5⟩
  | some d0 :: δ, σ, fp, i, d, h, e, nd => by
    simp only [Rpo] at h
    obtain ⟨v, σ', f1, f2, h1, h2, h3, h4⟩ := h
    subst h1 h2
    cases i with
    | zero =>
      simp only [List.getElem?_cons_zero, Option.some.injEq, List.set_cons_zero] at e ⊢
      subst e
      exact ⟨v, f1, f2, rfl, h3, by simp only [Rpo]; exact ⟨_, σ', rfl, h4⟩, nd, fun a => Iff.rfl⟩
    | succ i =>
      simp only [List.getElem?_cons_succ, List.set_cons_succ] at e ⊢
      have nd2 := List.nodup_append.mp nd
      obtain ⟨w, g1, g2, k1, k2, k3, k4, k5⟩ := h4.take e nd2.2.1
      refine ⟨w, g1, f1 ++ g2, k1, k2, by simp only [Rpo]; exact ⟨v, σ', f1, g2, rfl, rfl, h3, k3⟩, ?_, ?_⟩
      · have k4' := List.nodup_append.mp k4
        refine List.nodup_append.mpr ⟨k4'.1, List.nodup_append.mpr ⟨nd2.1, k4'.2.1, fun a ha c hc => nd2.2.2 a ha c ((k5 c).mp (List.mem_append_right _ hc))⟩, fun a ha c hc => ?_⟩
        rcases List.mem_append.mp hc with hc | hc
        · exact fun e => nd2.2.2 c hc a ((k5 a).mp (List.mem_append_left _ ha)) e.symm
        · exact k4'.2.2 a ha c hc
      · intro a
        have := k5 a
        simp only [List.mem_append] at this ⊢
        constructor
        · rintro (q | q | q)
          · exact .inr (this.mp (.inl q))
          · exact .inl q
          · exact .inr (this.mp (.inr q))
        · rintro (q | q)
          · exact .inr (.inl q)
          · rcases this.mpr q with z | z
            · exact .inl z
            · exact .inr (.inr z)
/-- a slot is filled -/
theorem Rpo.put : ∀ {δ : Sl} {σ : List (Option V)} {fp : List Addr} {i : Nat} {d : D} {v : V} {f1 : List Addr}, Rpo cl A L H δ σ fp → i < δ.length → Rp cl A L H true d v f1 → (f1 ++ fp).Nodup →
    ∃ f2, Rpo cl A L H (δ.set i (some d)) (σ.set i (some v)) f2 ∧ f2.Nodup ∧ ∀ a, a ∈ f2 → a ∈ f1 ++ fp
  | [], σ, fp, i, d, v, f1, h, e, hd, nd => by simp at e
  | none :: δ, σ, fp, i, d, v, f1, h, e, hd, nd => by
    simp only [Rpo] at h
    obtain ⟨x, σ', h1, h2⟩ := h
    subst h1
    cases i with
    | zero => exact ⟨f1 ++ fp, by simp only [List.set_cons_zero, Rpo]; exact ⟨v, σ', f1, fp, rfl, rfl, hd, h2⟩, nd, fun a ha => ha⟩
    | succ i =>
      obtain ⟨f2, g1, g2, g3⟩ := h2.put (i := i) (by simpa using e) hd nd
      exact ⟨f2, by simp only [List.set_cons_succ, Rpo]; exact ⟨x, _, rfl, g1⟩, g2, g3⟩
  | some d0 :: δ, σ, fp, i, d, v, f1, h, e, hd, nd => by
    simp only [Rpo] at h
    obtain ⟨v0, σ', g1, g2, h1, h2, h3, h4⟩ := h
    subst h1 h2
    have nd2 := List.nodup_append.mp nd
    have nd3 := List.nodup_append.mp nd2.2.1
    cases i with
    | zero =>
      refine ⟨f1 ++ g2, by simp only [List.set_cons_zero, Rpo]; exact ⟨v, σ', f1, g2, rfl, rfl, hd, h4⟩, ?_, ?_⟩
      · exact List.nodup_append.mpr ⟨nd2.1, nd3.2.1, fun a ha c hc => nd2.2.2 a ha c (List.mem_append_right _ hc)⟩
      · intro a ha
        simp only [List.mem_append] at ha ⊢
        rcases ha with ha | ha
        · exact .inl ha
        · exact .inr (.inr ha)
    | succ i =>
      obtain ⟨f2, k1, k2, k3⟩ := h4.put (i := i) (by simpa using e) hd (List.nodup_append.mpr ⟨nd2.1, nd3.2.1, fun a ha c hc => nd2.2.2 a ha c (List.mem_append_right _ hc)⟩)
      refine ⟨g1 ++ f2, by simp only [List.set_cons_succ, Rpo]; exact ⟨v0, _, g1, f2, rfl, rfl, h3, k1⟩, ?_, ?_⟩
      · refine List.nodup_append.mpr ⟨nd3.1, k2, fun a ha c hc e => ?_⟩
        subst e
        rcases List.mem_append.mp (k3 a hc) with q | q
        · exact nd2.2.2 a q a (List.mem_append_left _ ha) rfl
        · exact nd3.2.2 a ha a q rfl
      · intro a ha
        simp only [List.mem_append] at ha ⊢
        rcases ha with ha | ha
        · exact .inr (.inl ha)
        · rcases List.mem_append.mp (k3 a ha) with q | q
          · exact .inl q
          · exact .inr (.inr q)
/-- a slot is emptied (its thing is let go) -/
theorem Rpo.drop : ∀ {δ : Sl} {σ : List (Option V)} {fp : List Addr} {i : Nat}, Rpo cl A L H δ σ fp → fp.Nodup → ∃ f2, Rpo cl A L H (δ.set i none) σ f2 ∧ f2.Nodup ∧ ∀ a, a ∈ f2 → a ∈ fp := by
  intro δ σ fp i h nd
  cases e : δ[i]? with
  | none =>
    have : δ.set i none = δ := List.set_eq_of_length_le (List.getElem?_eq_none_iff.mp e)
    rw [this]
    exact ⟨fp, h, nd, fun a ha => ha⟩
  | some o =>
    cases o with
    | none =>
      have : δ.set i none = δ := by
        obtain ⟨hl, e2⟩ := List.getElem?_eq_some_iff.mp e
        rw [← e2]
        exact List.set_getElem_self hl
      rw [this]
      exact ⟨fp, h, nd, fun a ha => ha⟩
    | some d =>
      obtain ⟨v, f1, f2, g1, g2, g3, g4, g5⟩ := h.take e nd
      exact ⟨f2, g3, (List.nodup_append.mp g4).2.1, fun a ha => (g5 a).mp (List.mem_append_right _ ha)⟩
/-- σ may say anything where the state says nothing -/
theorem Rpo.blur : ∀ {δ : Sl} {σ : List (Option V)} {fp : List Addr} {i : Nat} {x : Option V}, Rpo cl A L H δ σ fp → δ[i]? = some none → Rpo cl A L H δ (σ.set i x) fp
  | [], σ, fp, i, x, h, e => by simp at e
  | none :: δ, σ, fp, i, x, h, e => by
    simp only [Rpo] at h ⊢
    obtain ⟨y, σ', h1, h2⟩ := h
    subst h1
    cases i with
    | zero => exact ⟨x, σ', rfl, h2⟩
    | succ i => exact ⟨y, σ'.set i x, rfl, h2.blur (by simpa using e)⟩
  | some d :: δ, σ, fp, i, x, h, e => by
    simp only [Rpo] at h ⊢
    obtain ⟨v, σ', f1, f2, h1, h2, h3, h4⟩ := h
    subst h1
    cases i with
    | zero => simp at e
    | succ i => exact ⟨v, σ'.set i x, f1, f2, rfl, h2, h3, h4.blur (by simpa using e)⟩
/-! ### the state -/
structure Jt (p : Bool) (cl : Ec) (A L B : Addr → Prop) (H : Hp) (ts : List D) (ws : List V) (δ : Sl) (σ : List (Option V)) : Prop where
  ex : ∃ f g, Rps cl A L H false ts ws f ∧ Rpo cl A L H δ σ g ∧ (f ++ g).Nodup ∧ (∀ a ∈ f, ¬ B a) ∧ (p = false → ∀ a ∈ g, ¬ B a)
  lb : ∀ a, L a → B a
  ba : ∀ a, B a → A a
  ad : ∀ a, A a → H a ≠ none
def Ex (H H' : Hp) : Prop := ∀ a o, H a = some o → H' a = some o
theorem Ex.refl (H : Hp) : Ex H H := fun _ _ h => h
theorem Ex.trans (x : Ex H H') (y : Ex H' H'') : Ex H H'' := fun a o h => y a o (x a o h)
theorem Ex.new {p : Addr} {o : HO} (h : H p = none) : Ex H (upd H p o) := fun a u e => by rw [upd_ne (ne_of_none e h)]; exact e
structure Nx (A B : Addr → Prop) (H : Hp) (A' : Addr → Prop) (H' : Hp) : Prop where
  new : ∀ a, A' a → A a ∨ H a = none
  keep : ∀ a o, H a = some o → ¬ A a → H' a = some o
  prot : ∀ a, B a → H' a = H a ∧ A' a
  low : ∀ a, H' a = none → H a = none
theorem Nx.refl (hb : ∀ a, B a → A a) : Nx A B H A H := ⟨fun _ h => .inl h, fun _ _ h _ => h, fun a h => ⟨rfl, hb a h⟩, fun _ h => h⟩
theorem Nx.trans (x : Nx A B H A' H') (y : Nx A' B H' A'' H'') : Nx A B H A'' H'' where
  new := fun a h => by
    rcases y.new a h with h | h
    · exact x.new a h
    · exact .inr (x.low a h)
  keep := fun a o h n => y.keep a o (x.keep a o h n) fun q => by
    rcases x.new a q with z | z
    · exact n z
    · rw [h] at z; cases z
  prot := fun a h => ⟨(y.prot a h).1.trans (x.prot a h).1, (y.prot a h).2⟩
  low := fun a h => x.low a (y.low a h)
theorem Nx.weak {B' : Addr → Prop} (x : Nx A B' H A' H') (h : ∀ a, B a → B' a) : Nx A B H A' H' := ⟨x.new, x.keep, fun a z => x.prot a (h a z), x.low⟩
theorem Nx.both (x : Nx A B H A' H') : ∀ a o, H a = some o → ¬ A a → H' a = some o ∧ ¬ A' a := fun a o h n => ⟨x.keep a o h n, fun q => by
  rcases x.new a q with z | z
  · exact n z
  · rw [h] at z; cases z⟩
variable {ts us : List D} {ws xs : List V} {δ δ' : Sl} {σ σ' : List (Option V)}
variable {p : Bool}
/-- the temporaries are put out of reach -/
theorem Jt.hide (j : Jt p cl A L B H ts ws δ σ) : ∃ f, Rps cl A L H false ts ws f ∧ f.Nodup ∧ (∀ a ∈ f, ¬ B a) ∧ Jt p cl A L (fun a => B a ∨ a ∈ f) H [] [] δ σ := by
  obtain ⟨f, g, h1, h2, h3, h4, h5⟩ := j.ex
  have nd := List.nodup_append.mp h3
  refine ⟨f, h1, nd.1, h4, ⟨⟨[], g, by simp [Rps], h2, by simpa using nd.2.1, by simp, fun hp a ha => ?_⟩, fun a h => .inl (j.lb a h), fun a h => ?_, j.ad⟩⟩
  · rintro (q | q)
    · exact h5 hp a ha q
    · exact nd.2.2 a q a ha rfl
  · rcases h with h | h
    · exact j.ba a h
    · exact (h1.inA a h).1
theorem Jt.back {f : List Addr} (h0 : Jt p cl A L B H ts ws δ σ) (h1 : Rps cl A L H false ts ws f) (nf : f.Nodup) (hf : ∀ a ∈ f, ¬ B a) (lb : ∀ a, L a → B a) (x : Nx A (fun a => B a ∨ a ∈ f) H A' H') (j : Jt false cl A' L (fun a => B a ∨ a ∈ f) H' us xs δ' σ') :
    Jt p cl A' L B H' (ts ++ us) (ws ++ xs) δ' σ' := by
  obtain ⟨f2, g, k1, k2, k3, k4, k5⟩ := j.ex
  refine ⟨⟨f ++ f2, g, Rps.append (h1.step x.both (fun a ha => x.prot a (.inr ha)) (by simp)) k1, k2, ?_, ?_, ?_⟩, lb, fun a h => j.ba a (.inl h), j.ad⟩
  · rw [List.append_assoc]
    refine List.nodup_append.mpr ⟨nf, k3, fun a ha c hc e => ?_⟩
    subst e
    rcases List.mem_append.mp hc with hc | hc
    · exact k4 a hc (.inr ha)
    · exact k5 rfl a hc (.inr ha)
  · intro a ha q
    rcases List.mem_append.mp ha with ha | ha
    · exact hf a ha q
    · exact k4 a ha (.inl q)
  · intro _ a ha q
    exact k5 rfl a ha (.inl q)
/-- the same where nothing of the state changes -/
theorem Jt.backP {f : List Addr} (h0 : Jt true cl A L B H ts ws δ σ) (x : Nx A A H A' H') (j : Jt true cl A' L A H' us xs δ σ) :
    Jt true cl A' L B H' (ts ++ us) (ws ++ xs) δ σ := by
  obtain ⟨f, g, h1, h2, h3, h4, h5⟩ := h0.ex
  obtain ⟨f2, g2, k1, k2, k3, k4, k5⟩ := j.ex
  have nd := List.nodup_append.mp h3
  have fA : ∀ a ∈ f, A a := fun a ha => (h1.inA a ha).1
  have gA : ∀ a ∈ g, A a := fun a ha => (h2.inA a ha).1
  have nd2 := List.nodup_append.mp k3
  refine ⟨⟨f ++ f2, g, Rps.append (h1.step x.both (fun a ha => x.prot a (fA a ha)) (by simp)) k1, h2.step x.both (fun a ha => x.prot a (gA a ha)) (fun a h => ⟨(x.prot a (h0.ba a (h0.lb a h))).1, h⟩), ?_, ?_, by simp⟩, h0.lb, fun a h => (x.prot a (h0.ba a h)).2, j.ad⟩
  · rw [List.append_assoc]
    refine List.nodup_append.mpr ⟨nd.1, List.nodup_append.mpr ⟨nd2.1, nd.2.1, fun a ha c hc e => ?_⟩, fun a ha c hc e => ?_⟩
    · subst e; exact k4 a ha (gA a hc)
    · subst e
      rcases List.mem_append.mp hc with hc | hc
      · exact k4 a hc (fA a ha)
      · exact nd.2.2 a ha a hc rfl
  · intro a ha q
    rcases List.mem_append.mp ha with ha | ha
    · exact h4 a ha q
    · exact k4 a ha (h0.ba a q)
theorem Jt.any (j : Jt false cl A L B H ts ws δ σ) : Jt p cl A L B H ts ws δ σ := by
  obtain ⟨f, g, h1, h2, h3, h4, h5⟩ := j.ex
  exact ⟨⟨f, g, h1, h2, h3, h4, fun _ => h5 rfl⟩, j.lb, j.ba, j.ad⟩
theorem Jt.toPure (j : Jt p cl A L B H [] [] δ σ) : Jt true cl A L A H [] [] δ σ := by
  obtain ⟨f, g, h1, h2, h3, h4, h5⟩ := j.ex
  have e : f = [] := by simp only [Rps] at h1; exact h1.2
  subst e
  exact ⟨⟨[], g, h1, h2, h3, by simp, by simp⟩, fun a h => j.ba a (j.lb a h), fun _ h => h, j.ad⟩
/-- behind a pure expression -/
theorem Jt.ofPure {d : List D} {v : List V} (j0 : Jt p cl A L B H [] [] δ σ) (x : Nx A A H A' H') (j : Jt true cl A' L A H' d v δ σ) : Jt p cl A' L B H' d v δ σ := by
  obtain ⟨f0, g, h1, h2, h3, h4, h5⟩ := j0.ex
  obtain ⟨f2, g2, k1, k2, k3, k4, k5⟩ := j.ex
  have nd2 := List.nodup_append.mp k3
  have nd := List.nodup_append.mp h3
  have gA : ∀ a ∈ g, A a := fun a ha => (h2.inA a ha).1
  refine ⟨⟨f2, g, k1, h2.step x.both (fun a ha => x.prot a (gA a ha)) (fun a h => ⟨(x.prot a (j0.ba a (j0.lb a h))).1, h⟩), List.nodup_append.mpr ⟨nd2.1, nd.2.1, fun a ha c hc e => ?_⟩, fun a ha q => k4 a ha (j0.ba a q), fun hp a ha => h5 hp a ha⟩, j0.lb, fun a h => (x.prot a (j0.ba a h)).2, j.ad⟩
  subst e
  exact k4 a ha (gA a hc)
/-- temporaries are let go -/
theorem Jt.drop (j : Jt p cl A L B H ts ws δ σ) : Jt p cl A L B H [] [] δ σ := by
  obtain ⟨f, g, h1, h2, h3, h4, h5⟩ := j.ex
  exact ⟨⟨[], g, by simp [Rps], h2, by simpa using (List.nodup_append.mp h3).2.1, by simp, h5⟩, j.lb, j.ba, j.ad⟩
theorem Jt.drop0 (j : Jt p cl A L B H ts ws δ σ) : ∃ g, Rpo cl A L H δ σ g ∧ g.Nodup ∧ (p = false → ∀ a ∈ g, ¬ B a) := by
  obtain ⟨f, g, h1, h2, h3, h4, h5⟩ := j.ex
  exact ⟨g, h2, (List.nodup_append.mp h3).2.1, h5⟩
theorem Jt.leaf {s : V} (j : Jt p cl A L B H ts ws δ σ) (h : sc s = true) : Jt p cl A L B H [.v s] [s] δ σ := by
  obtain ⟨g, h2, h3, h5⟩ := j.drop0
  exact ⟨⟨[], g, by simp only [Rps, Rp]; exact ⟨s, [], [], [], rfl, rfl, ⟨h, rfl, rfl⟩, rfl, rfl⟩, h2, by simpa using h3, by simp, h5⟩, j.lb, j.ba, j.ad⟩
/-- one that is kept, found in the state -/
theorem Jt.kept {d : D} {v : V} {fp : List Addr} (j : Jt p cl A L B H ts ws δ σ) (hk : d.kept = true) (h : Rp cl A L H b d v fp) : Jt p cl A L B H [d] [v] δ σ := by
  obtain ⟨g, h2, h3, h5⟩ := j.drop0
  have h6 := h.strong hk
  obtain ⟨h6, rfl⟩ := h6
  exact ⟨⟨[], g, by simp only [Rps]; exact ⟨v, [], [], [], rfl, rfl, h6, rfl, rfl⟩, h2, by simpa using h3, by simp, h5⟩, j.lb, j.ba, j.ad⟩
/-- a new object holds the temporaries -/
theorem Jt.alloc {k : Kd} {p0 : Addr} {o : HO} (j : Jt p cl A L B H ts ws δ σ) (hp : H p0 = none) (hs : Shape cl k ws o) :
    Nx A B H (fun a => A a ∨ a = p0) (upd H p0 o) ∧ Jt p cl (fun a => A a ∨ a = p0) L B (upd H p0 o) [.n k .own ts] [.ref p0] δ σ := by
  have hA : ¬ A p0 := fun q => j.ad p0 q hp
  have st : ∀ a u, H a = some u → ¬ A a → upd H p0 o a = some u ∧ ¬ (A a ∨ a = p0) := fun a u h n => by
    have ne : a ≠ p0 := ne_of_none h hp
    exact ⟨by rw [upd_ne ne]; exact h, fun q => q.elim n ne⟩
  have sf : ∀ a, A a → upd H p0 o a = H a := fun a h => upd_ne (fun e => hA (e ▸ h))
  refine ⟨⟨fun a h => h.elim .inl fun e => .inr (e ▸ hp), fun a u h n => (st a u h n).1, fun a h => ⟨sf a (j.ba a h), .inl (j.ba a h)⟩, fun a h => ?_⟩, ?_⟩
  · by_cases e : a = p0
    · rw [e]; exact hp
    · rw [upd_ne e] at h; exact h
  · obtain ⟨f, g, h1, h2, h3, h4, h5⟩ := j.ex
    have ia : ∀ a, a ∈ f ++ g → A a := fun a ha => by
      rcases List.mem_append.mp ha with ha | ha
      · exact (h1.inA a ha).1
      · exact (h2.inA a ha).1
    refine ⟨⟨p0 :: f, g, ?_, h2.step st (fun a ha => ⟨sf a (ia a (List.mem_append_right _ ha)), .inl (ia a (List.mem_append_right _ ha))⟩) (fun a h => ⟨sf a (j.ba a (j.lb a h)), h⟩), ?_, ?_, h5⟩, j.lb, fun a h => .inl (j.ba a h), fun a h => ?_⟩
    · simp only [Rps, Rp]
      exact ⟨.ref p0, [], p0 :: f, [], rfl, by simp, ⟨p0, o, ws, rfl, upd_same, hs, .inr rfl, f, rfl, h1.step st (fun a ha => ⟨sf a (ia a (List.mem_append_left _ ha)), .inl (ia a (List.mem_append_left _ ha))⟩) (by simp)⟩, rfl, rfl⟩
    · rw [List.cons_append]
      exact List.nodup_cons.mpr ⟨fun q => hA (ia p0 q), h3⟩
    · intro a ha
      rcases List.mem_cons.mp ha with rfl | ha
      · exact fun q => hA (j.ba _ q)
      · exact h4 a ha
    · rcases h with h | rfl
      · rw [sf a h]; exact j.ad a h
      · rw [upd_same]; simp
theorem kept_all : ∀ {ts : List D} {ws : List V} {f : List Addr}, ts.all D.kept = true → Rps cl A L H false ts ws f → f = []
  | [], ws, f, _, h => by simp only [Rps] at h; exact h.2
  | d :: ds, ws, f, hk, h => by
    simp only [Rps] at h
    obtain ⟨v, vs', f1, f2, h1, h2, h3, h4⟩ := h
    simp only [List.all_cons, Bool.and_eq_true] at hk
    rw [h2, (h3.strong hk.1).2, kept_all hk.2 h4]
    rfl
/-- the same, shared: all that it holds is kept -/
theorem Jt.allocS {k : Kd} {p0 : Addr} {o : HO} (j : Jt p cl A L B H ts ws δ σ) (hk : ts.all D.kept = true) (hp : H p0 = none) (hs : Shape cl k ws o) :
    Nx A B H A (upd H p0 o) ∧ Jt p cl A L B (upd H p0 o) [.n k .shr ts] [.ref p0] δ σ := by
  have hA : ¬ A p0 := fun q => j.ad p0 q hp
  have st : ∀ a u, H a = some u → ¬ A a → upd H p0 o a = some u ∧ ¬ A a := fun a u h n => ⟨by rw [upd_ne (ne_of_none h hp)]; exact h, n⟩
  have sf : ∀ a, A a → upd H p0 o a = H a := fun a h => upd_ne (fun e => hA (e ▸ h))
  refine ⟨⟨fun a h => .inl h, fun a u h n => (st a u h n).1, fun a h => ⟨sf a (j.ba a h), j.ba a h⟩, fun a h => ?_⟩, ?_⟩
  · by_cases e : a = p0
    · rw [e]; exact hp
    · rw [upd_ne e] at h; exact h
  · obtain ⟨f, g, h1, h2, h3, h4, h5⟩ := j.ex
    have ef := kept_all hk h1
    subst ef
    have ia : ∀ a, a ∈ g → A a := fun a ha => (h2.inA a ha).1
    refine ⟨⟨[], g, ?_, h2.step st (fun a ha => ⟨sf a (ia a ha), ia a ha⟩) (fun a h => ⟨sf a (j.ba a (j.lb a h)), h⟩), h3, h4, h5⟩, j.lb, j.ba, fun a h => ?_⟩
    · simp only [Rps, Rp]
      exact ⟨.ref p0, [], [], [], rfl, rfl, ⟨p0, o, ws, rfl, upd_same, hs, hA, rfl, h1.step st (by simp) (by simp)⟩, rfl, rfl⟩
    · rw [sf a h]; exact j.ad a h
theorem Jt.lower {B' : Addr → Prop} (j : Jt p cl A L B' H ts ws δ σ) (hb : ∀ a, B a → B' a) (lb : ∀ a, L a → B a) : Jt p cl A L B H ts ws δ σ := by
  obtain ⟨f, g, h1, h2, h3, h4, h5⟩ := j.ex
  exact ⟨⟨f, g, h1, h2, h3, fun a ha q => h4 a ha (hb a q), fun hp a ha q => h5 hp a ha (hb a q)⟩, lb, fun a h => j.ba a (hb a h), j.ad⟩
/-- going on with temporaries in hand -/
theorem Jt.seq (j : Jt p cl A L B H ts ws δ σ) : ∃ B', Jt p cl A L B' H [] [] δ σ ∧ (∀ a, B a → B' a) ∧
    ∀ A2 H2 us xs δ2, (p = true → δ2 = δ) → Nx A B' H A2 H2 → Jt p cl A2 L B' H2 us xs δ2 σ → Jt p cl A2 L B H2 (ts ++ us) (ws ++ xs) δ2 σ := by
  cases p with
  | true =>
    refine ⟨A, j.drop.toPure, j.ba, fun A2 H2 us xs δ2 e n j2 => ?_⟩
    cases e rfl
    exact j.backP (f := []) n j2
  | false =>
    obtain ⟨f, h1, h2, h3, h4⟩ := j.hide
    exact ⟨_, h4, fun a h => .inl h, fun A2 H2 us xs δ2 _ n j2 => Jt.back j h1 h2 h3 j.lb n j2⟩
end
end Fs
/-! F2 -/
/-! Judgements, and expressions. -/
namespace Fs
open PySem L2
def Out.ofO {α : Type} : Option α → Sl → Out α | some a, s => .ok a s | none, _ => .bad
/-- an exception's dict -/
def XAt (xf : Nat → List Str) (A : Addr → Prop) (H : Hp) (c : Nat) (vs : List V) (d : Option Addr) : Prop :=
  (xf c = [] ∧ vs = []) ∨ ∃ dd fs, d = some dd ∧ H dd = some (.xd fs) ∧ ¬ A dd ∧ vs.length = (xf c).length ∧ ∀ (i : Nat) (n : Str) (v : V), (xf c)[i]? = some n → vs[i]? = some v → fs.lookup n = some v
section
variable (cl : Ec) (xf : Nat → List Str) (W : WX)
def Out.same {α : Type} (o : Out α) (δ : Sl) : Prop := match o with
  | .ok _ s => s = δ
  | .exc _ _ s => s = δ
  | .bad => True
def PostX (p : Bool) (c : Nat) (xs : List D) (δ' : Sl) (A L B : Addr → Prop) (H : Hp) (σ : L2.St) : Prop :=
  ∀ d vs A' H', Nx A B H A' H' → XAt xf A' H' c vs d → Jt p cl A' L B H' xs vs δ' σ → W (.ref (cl.c c)) d σ H'
/-- what a run owes: an outcome, the temporaries it leaves, what is wanted -/
def Post {α : Type} (p : Bool) (o : Out α) (den : α → List D) (A L B : Addr → Prop) (H : Hp) (σ : L2.St) (Q : α → List V → Hp → Prop) : Prop := match o with
  | .ok a δ' => ∀ vs A' H', Nx A B H A' H' → Jt p cl A' L B H' (den a) vs δ' σ → Q a vs H'
  | .exc c xs δ' => PostX cl xf W p c xs δ' A L B H σ
  | .bad => False
abbrev d1s : D → List D := fun d => [d]
abbrev PostE (p : Bool) (o : Out D) (A L B : Addr → Prop) (H : Hp) (σ : L2.St) (Q : VK) : Prop := Post cl xf W p o d1s A L B H σ fun _ vs H' => ∀ v, vs = [v] → Q v H'
/-- a peek: nothing is changed -/
def SP (te : TE) (f : PP) : Prop := ∀ A L H δ σ g d Q, Rpo cl A L H δ σ g → f δ = some d → (∀ v fp, Rp cl A L H true d v fp → (∀ a ∈ fp, a ∈ g) → Q v H) → te σ H Q
structure SE (p : Bool) (te : TE) (de : DE) : Prop where
  pure : p = true → ∀ δ, (de δ).same δ
  run : ∀ A L B H δ σ Q, Jt p cl A L B H [] [] δ σ → PostE cl xf W p (de δ) A L B H σ Q → te σ H Q
structure SA (p : Bool) (ta : TA) (da : DA) : Prop where
  pure : p = true → ∀ δ, (da δ).same δ
  run : ∀ A L B H δ σ Q, Jt p cl A L B H [] [] δ σ → Post cl xf W p (da δ) id A L B H σ (fun _ => Q) → ta σ H Q
structure SB (p : Bool) (tt : TT) (dt : DT) : Prop where
  pure : p = true → ∀ δ, (dt δ).same δ
  run : ∀ A L B H δ σ Q, Jt p cl A L B H [] [] δ σ → Post cl xf W p (dt δ) (fun _ => []) A L B H σ (fun b _ => Q b) → tt σ H Q
end
section
variable {cl : Ec} {xf : Nat → List Str} {W : WX} {A A' L B : Addr → Prop} {H H' : Hp} {δ δ' : Sl} {σ : L2.St} {p q : Bool} {te ta tb tc : TE} {tA : TA} {tt tu : TT} {α β : Type}
theorem PostX.step {c : Nat} {xs : List D} (h : PostX cl xf W p c xs δ' A L B H σ) (x : Nx A B H A' H') : PostX cl xf W p c xs δ' A' L B H' σ :=
  fun d vs A2 H2 y e j => h d vs A2 H2 (x.trans y) e j
theorem PostX.under {c : Nat} {xs : List D} {B' : Addr → Prop} (h : PostX cl xf W p c xs δ' A L B H σ) (hb : ∀ a, B a → B' a) (lb : ∀ a, L a → B a) : PostX cl xf W p c xs δ' A L B' H σ :=
  fun d vs A2 H2 y e j => h d vs A2 H2 (y.weak hb) e (j.lower hb lb)
theorem Out.same_bind {o : Out α} {f : α → Sl → Out β} (h1 : o.same δ) (h2 : ∀ a, (f a δ).same δ) : (o.bind f).same δ := by
  cases o with
  | ok a s => cases (show s = δ from h1); exact h2 a
  | exc c xs s => exact h1
  | bad => trivial
theorem Out.same_ofO {o : Option α} : (Out.ofO o δ).same δ := by cases o <;> simp [Out.ofO, Out.same]
/-- one run behind another -/
theorem Post.bind {γ : Type} {o : Out α} {f : α → Sl → Out β} {den : β → List D} {Q : β → List V → Hp → Prop} {den0 : α → List D} {Q0 : α → List V → Hp → Prop} (h : Post cl xf W p (o.bind f) den A L B H σ Q)
    (k : ∀ a δ1 vs A' H', o = .ok a δ1 → Nx A B H A' H' → Jt p cl A' L B H' (den0 a) vs δ1 σ → Post cl xf W p (f a δ1) den A L B H σ Q → Q0 a vs H') : Post cl xf W p o den0 A L B H σ Q0 := by
  cases o with
  | ok a s => exact fun vs A' H' n j => k a s vs A' H' rfl n j h
  | exc c xs s => exact h
  | bad => exact h
theorem Post.ofO {o : Option α} {den : α → List D} {Q : α → List V → Hp → Prop} (h : Post cl xf W p (Out.ofO o δ) den A L B H σ Q) : ∃ a, o = some a ∧ ∀ vs A' H', Nx A B H A' H' → Jt p cl A' L B H' (den a) vs δ σ → Q a vs H' := by
  cases o with
  | some a => exact ⟨a, rfl, h⟩
  | none => exact h.elim
/-- the same debt further on -/
theorem Post.step {o : Out α} {den : α → List D} {Q : α → List V → Hp → Prop} (h : Post cl xf W p o den A L B H σ Q) (x : Nx A B H A' H') : Post cl xf W p o den A' L B H' σ Q := by
  cases o with
  | ok a s => exact fun vs A2 H2 n j => h vs A2 H2 (x.trans n) j
  | exc c xs s => exact PostX.step h x
  | bad => exact h
/-- the debt of a run with temporaries in hand -/
theorem Post.seq {ts : List D} {ws : List V} {o : Out α} {den den0 : α → List D} {Q Q0 : α → List V → Hp → Prop} {B' : Addr → Prop} (h : Post cl xf W p o den A L B H σ Q) (hs : p = true → o.same δ) (lb : ∀ a, L a → B a) (hb : ∀ a, B a → B' a)
    (hj : ∀ A2 H2 us xs δ2, (p = true → δ2 = δ) → Nx A B' H A2 H2 → Jt p cl A2 L B' H2 us xs δ2 σ → Jt p cl A2 L B H2 (ts ++ us) (ws ++ xs) δ2 σ) (hd : ∀ a, den a = ts ++ den0 a) (hQ : ∀ a vs H2, Q a (ws ++ vs) H2 → Q0 a vs H2) : Post cl xf W p o den0 A L B' H σ Q0 := by
  cases o with
  | ok a s => exact fun vs A2 H2 n j => hQ a vs H2 (h (ws ++ vs) A2 H2 (n.weak hb) (by rw [hd a]; exact hj A2 H2 _ _ _ hs n j))
  | exc c xs s => exact PostX.under h hb lb
  | bad => exact h
/-! ### peeks -/
def pVar (i : Nat) : PP := fun δ => (δ[i]?).join
theorem join_some {o : Option (Option D)} {d : D} (e : o.join = some d) : o = some (some d) := by
  cases o with
  | none => cases e
  | some x => cases x with
    | none => cases e
    | some y => cases e; rfl
theorem sp_var {i : Nat} : SP cl (tVar i) (pVar i) := fun A L H δ σ g d Q h2 e k => by
  obtain ⟨v, f1, g1, g2, g3⟩ := h2.get (join_some e)
  exact ⟨v, g1, k v f1 g2 g3⟩
def pC (s : V) : PP := fun _ => some (.v s)
theorem Rp.leafv {b : Bool} {x v : V} {fp : List Addr} (h : Rp cl A L H b (.v x) v fp) : v = x ∧ fp = [] ∧ sc x = true := by
  simp only [Rp] at h
  exact ⟨h.2.1, h.2.2, h.1⟩
theorem Rp.leaf {b : Bool} {x : V} (h : sc x = true) : Rp cl A L H b (.v x) x [] := by simp only [Rp]; exact ⟨h, trivial, trivial⟩
theorem sp_c {s : V} (h : sc s = true) : SP cl (tC s) (pC s) := fun A L H δ σ g d Q j e k => by
  cases e
  exact k s [] (Rp.leaf h) (by simp)
/-- the script -/
theorem Rp.scr {b : Bool} {ns : List Int} {v : V} {fp : List Addr} (h : Rp cl A L H b (.s ns) v fp) : ∃ a, v = .ref a ∧ SqL cl.K H a (ns.map V.int) ∧ fp = [] ∧ ((∃ ob, H a = some (.frz ob (.lst (ns.map V.int))) ∧ ¬ A a) ∨ cl.Wr a (ns.map V.int)) := by
  simp only [Rp] at h
  obtain ⟨h1, a, h2, h3⟩ := h
  refine ⟨a, h2, ?_, h1, h3⟩
  rcases h3 with ⟨ob, h3, _⟩ | h3
  · exact .inl (.inr ⟨ob, h3⟩)
  · exact .inr h3
/-- a node, whatever its flag: where it stands and what it holds -/
theorem Rp.node {b : Bool} {k : Kd} {w : Fl} {ds : List D} {v : V} {fp : List Addr} (h : Rp cl A L H b (.n k w ds) v fp) : ∃ a o vs fp', v = .ref a ∧ H a = some o ∧ Shape cl k vs o ∧ Rps cl A L H true ds vs fp' ∧ ∀ c ∈ fp', c ∈ fp := by
  cases w with
  | shr =>
    simp only [Rp] at h
    obtain ⟨a, o, vs, h1, h2, h3, h4, h5, h6⟩ := h
    exact ⟨a, o, vs, [], h1, h2, h3, h6.weak, by simp⟩
  | own =>
    simp only [Rp] at h
    obtain ⟨a, o, vs, h1, h2, h3, h4, fp', h5, h6⟩ := h
    exact ⟨a, o, vs, fp', h1, h2, h3, h6.weak, fun c hc => by rw [h5]; exact List.mem_cons_of_mem _ hc⟩
  | bor =>
    simp only [Rp] at h
    obtain ⟨a, o, vs, h1, h2, h3, h4, h5, h6, h7⟩ := h
    subst h4
    exact ⟨a, o, vs, [], h1, h2, h3, h7, by simp⟩
/-- an operation of two peeked things that gives a thing found in them or a scalar -/
def POp (cl : Ec) (r : R2) (f : D → D → Option D) : Prop := ∀ A L H x y u w f1 f2 z Q, Rp cl A L H true x u f1 → Rp cl A L H true y w f2 → f x y = some z → (∀ v fp, Rp cl A L H true z v fp → (∀ a ∈ fp, a ∈ f1 ++ f2) → Q v H) → r u w H Q
def pOp (f : D → D → Option D) (a b : PP) : PP := fun δ => (a δ).bind fun x => (b δ).bind fun y => f x y
theorem sp_op {r : R2} {f : D → D → Option D} {a b : PP} (ho : POp cl r f) (ha : SP cl ta a) (hb : SP cl tb b) : SP cl (tOp r ta tb) (pOp f a b) := fun A L H δ σ g d Q j e k => by
  unfold pOp at e
  obtain ⟨x, e1, e⟩ := Option.bind_eq_some_iff.mp e
  obtain ⟨y, e2, e⟩ := Option.bind_eq_some_iff.mp e
  exact ha A L H δ σ g x _ j e1 fun u f1 h1 n1 => hb A L H δ σ g y _ j e2 fun w f2 h2 n2 => ho A L H x y u w f1 f2 d Q h1 h2 e fun v fp h3 n3 => k v fp h3 fun a ha => by
    rcases List.mem_append.mp (n3 a ha) with q | q
    · exact n1 a q
    · exact n2 a q
def PUn (cl : Ec) (r : V → Hp → VK → Prop) (f : D → Option D) : Prop := ∀ A L H x u f1 z Q, Rp cl A L H true x u f1 → f x = some z → (∀ v fp, Rp cl A L H true z v fp → (∀ a ∈ fp, a ∈ f1) → Q v H) → r u H Q
def pUn (f : D → Option D) (a : PP) : PP := fun δ => (a δ).bind f
theorem sp_un {r : V → Hp → VK → Prop} {f : D → Option D} {a : PP} (ho : PUn cl r f) (ha : SP cl ta a) : SP cl (tUn r ta) (pUn f a) := fun A L H δ σ g d Q j e k => by
  unfold pUn at e
  obtain ⟨x, e1, e⟩ := Option.bind_eq_some_iff.mp e
  exact ha A L H δ σ g x _ j e1 fun u f1 h1 n1 => ho A L H x u f1 d Q h1 e fun v fp h3 n3 => k v fp h3 fun a ha => n1 a (n3 a ha)
/-- from a peek to a value -/
def dP (a : PP) : DE := fun δ => Out.ofO ((a δ).filter D.kept) δ
theorem se_p {a : PP} (ha : SP cl te a) : SE cl xf W p te (dP a) := by
  refine ⟨fun _ δ => Out.same_ofO, fun A L B H δ σ Q j k => ?_⟩
  obtain ⟨d, e, k⟩ := Post.ofO k
  obtain ⟨e1, e2⟩ := Option.filter_eq_some_iff.mp e
  obtain ⟨g, h2, _, _⟩ := j.drop0
  exact ha A L H δ σ g d Q h2 e1 fun v fp h1 n1 => k [v] A H (Nx.refl j.ba) (j.kept e2 h1) v rfl
/-- a pure run is a run -/
theorem SE.to {de : DE} (h : SE cl xf W true te de) : SE cl xf W p te de := by
  cases p with
  | true => exact h
  | false =>
    refine ⟨fun z => (by cases z), fun A L B H δ σ Q j k => h.run A L A H δ σ Q j.toPure ?_⟩
    have hs := h.pure rfl δ
    cases e : de δ with
    | bad => rw [e] at k; exact k
    | exc c xs s =>
      rw [e] at k hs
      cases (show s = δ from hs)
      exact fun d vs A' H' n x j2 => k d vs A' H' (n.weak j.ba) x (j.ofPure n j2)
    | ok d s =>
      rw [e] at k hs
      cases (show s = δ from hs)
      exact fun vs A' H' n j2 => k vs A' H' (n.weak j.ba) (j.ofPure n j2)
/-! ### values: arguments, displays -/
def daNil : DA := fun δ => .ok [] δ
def daCons (a : DE) (r : DA) : DA := fun δ => (a δ).bind fun x δ1 => (r δ1).bind fun xs δ2 => .ok (x :: xs) δ2
theorem sa_nil : SA cl xf W p tNil daNil := ⟨fun _ δ => rfl, fun A L B H δ σ Q j k => k [] A H (Nx.refl j.ba) j⟩
theorem Jt.len {ts : List D} {ws : List V} (j : Jt p cl A L B H ts ws δ σ) : ts.length = ws.length := by
  obtain ⟨f, g, h1, _⟩ := j.ex
  exact h1.length
theorem Jt.one {x : D} {ws : List V} (j : Jt p cl A L B H [x] ws δ σ) : ∃ u f1, ws = [u] ∧ Rp cl A L H false x u f1 := by
  obtain ⟨f0, g, h1, h2, h3, h4⟩ := j.ex
  simp only [Rps] at h1
  obtain ⟨u, vs', f1, f2, rfl, rfl, h5, rfl, rfl⟩ := h1
  exact ⟨u, f1, rfl, h5⟩
theorem Jt.pair {x y : D} {ws : List V} (j : Jt p cl A L B H [x, y] ws δ σ) : ∃ u w f1 f2, ws = [u, w] ∧ Rp cl A L H false x u f1 ∧ Rp cl A L H false y w f2 := by
  obtain ⟨f0, g, h1, h2, h3, h4⟩ := j.ex
  simp only [Rps] at h1
  obtain ⟨u, vs', f1, f2, rfl, rfl, h5, w, vs'', f3, f4, rfl, rfl, h6, rfl, rfl⟩ := h1
  exact ⟨u, w, f1, f3, rfl, h5, h6⟩
theorem same_of {o : Out α} {f : Sl → Out α} (h : p = true → ∀ δ, (f δ).same δ) (e : f δ = o) : p = true → o.same δ := fun hp => e ▸ h hp δ
theorem sa_cons {a : DE} {r : DA} (ha : SE cl xf W p te a) (hr : SA cl xf W p tA r) : SA cl xf W p (tCons te tA) (daCons a r) := by
  refine ⟨fun hp δ => Out.same_bind (ha.pure hp δ) fun x => Out.same_bind (hr.pure hp δ) fun xs => rfl, fun A L B H δ σ Q j k => ?_⟩
  refine ha.run A L B H δ σ _ j (Post.bind (γ := D) k fun x δ1 vs A1 H1 e1 n1 j1 k1 v ev => ?_)
  subst ev
  obtain ⟨B', j2, hb, hj⟩ := j1.seq
  refine hr.run A1 L B' H1 δ1 σ _ j2 ?_
  have k2 := Post.step (A' := A1) (H' := H1) (Post.bind (γ := D) (den0 := fun xs => x :: xs) (Q0 := fun xs vs H2 => Q vs H2) k1 fun xs δ2 vs A2 H2 e2 n2 j2 k2 => k2 vs A2 H2 n2 j2) n1
  exact Post.seq (ts := [x]) (ws := [v]) k2 (same_of hr.pure rfl) j1.lb hb hj (fun a => rfl) (fun a vs H2 q => q)
theorem sz_of {n : Nat} (h : n ≤ 100000) : n ≤ sizeLine := Nat.le_trans h (by decide)
theorem sz_lt {n : Nat} (h : n < 100000) : n < sizeLine := Nat.lt_of_lt_of_le h (by decide)
/-- values made of arguments: the reading's end, the function -/
def dF (F : List D → Option D) (r : DA) : DE := fun δ => (r δ).bind fun xs δ1 => Out.ofO (F xs) δ1
def tF (R : List V → Hp → VK → Prop) (t : TA) : TE := fun σ H Q => t σ H fun xs H1 => R xs H1 Q
def FOp (cl : Ec) (R : List V → Hp → VK → Prop) (F : List D → Option D) : Prop := ∀ p A L B H δ σ xs vs z Q, Jt p cl A L B H xs vs δ σ → F xs = some z → (∀ v A' H', Nx A B H A' H' → Jt p cl A' L B H' [z] [v] δ σ → Q v H') → R vs H Q
theorem se_f {r : DA} {R : List V → Hp → VK → Prop} {F : List D → Option D} (ho : FOp cl R F) (hr : SA cl xf W p tA r) : SE cl xf W p (tF R tA) (dF F r) := by
  refine ⟨fun hp δ => Out.same_bind (hr.pure hp δ) fun x => Out.same_ofO, fun A L B H δ σ Q j k => ?_⟩
  refine hr.run A L B H δ σ _ j (Post.bind (γ := D) k fun xs δ1 vs A1 H1 e1 n1 j1 k1 => ?_)
  obtain ⟨z, e, k2⟩ := Post.ofO k1
  exact ho p A1 L B H1 δ1 σ xs vs z Q j1 e fun v A2 H2 n2 j2 => k2 [v] A2 H2 (n1.trans n2) j2 v rfl
/-- temporaries are frozen -/
theorem Jt.freeze {ts : List D} {ws : List V} (j : Jt p cl A L B H ts ws δ σ) : ∃ A', Nx A B H A' H ∧ Jt p cl A' L B H (frzs ts) ws δ σ := by
  obtain ⟨f, g, h1, h2, h3, h4, h5⟩ := j.ex
  have nd := List.nodup_append.mp h3
  refine ⟨fun a => A a ∧ a ∉ f, ⟨fun a h => .inl h.1, fun a o h _ => h, fun a h => ⟨rfl, j.ba a h, fun q => h4 a q h⟩, fun a h => h⟩, ⟨⟨[], g, ?_, ?_, by simpa using nd.2.1, by simp, h5⟩, j.lb, fun a h => ⟨j.ba a h, fun q => h4 a q h⟩, fun a h => j.ad a h.1⟩⟩
  · exact h1.frz (fun a o _ n q => n q.1) (fun a ha q => q.2 ha)
  · exact h2.step (fun a o h n => ⟨h, fun q => n q.1⟩) (fun a ha => ⟨rfl, (h2.inA a ha).1, fun q => nd.2.2 a q a ha rfl⟩) (fun a h => ⟨rfl, h⟩)
theorem frz_kept {d : D} (h : d.kept = true) : frz d = d := by
  match d, h with
  | .v x, _ => simp [frz]
  | .s x, _ => simp [frz]
  | .n k .shr ds, _ => simp [frz]
theorem kept_frz : ∀ {d : D} {v : V} {fp : List Addr}, Rp cl A L H false d v fp → (frz d).kept = true
  | .v x, v, fp, h => by simp [frz, D.kept]
  | .s x, v, fp, h => by simp [frz, D.kept]
  | .n k .shr ds, v, fp, h => by simp [frz, D.kept]
  | .n k .own ds, v, fp, h => by simp [frz, D.kept]
  | .n k .bor ds, v, fp, h => by
    simp only [Rp] at h
    obtain ⟨_, _, _, _, _, _, h4, _⟩ := h
    simp at h4
theorem kept_frzs : ∀ {ts : List D} {ws : List V} {f : List Addr}, Rps cl A L H false ts ws f → (frzs ts).all D.kept = true
  | [], ws, f, h => by simp [frzs]
  | d :: ds, ws, f, h => by
    simp only [Rps] at h
    obtain ⟨v, vs', f1, f2, h1, h2, h3, h4⟩ := h
    simp [frzs, kept_frz h3, kept_frzs h4]
theorem Jt.freezeK {ts : List D} {ws : List V} (j : Jt p cl A L B H ts ws δ σ) : (frzs ts).all D.kept = true := by
  obtain ⟨f, g, h1, h2, h3, h4⟩ := j.ex
  exact kept_frzs h1
theorem frzs_length : ∀ ts : List D, (frzs ts).length = ts.length
  | [] => rfl
  | d :: ds => by simp [frzs, frzs_length ds]
/-- a list, a tuple: what they hold is kept -/
def mkLst (xs : List D) : Option D := if xs.length ≤ 100000 then some (.n .lst .own (frzs xs)) else none
theorem fop_lst : FOp cl (fun xs H1 Q => xs.length ≤ sizeLine ∧ ∀ p, H1 p = none → Q (.ref p) (upd H1 p (.lst xs))) mkLst := by
  intro p A L B H δ σ xs vs z Q j e k
  unfold mkLst at e
  split at e
  · rename_i hl
    cases e
    refine ⟨by rw [← j.len]; exact sz_of hl, fun p hp => ?_⟩
    obtain ⟨A1, n1, j1⟩ := j.freeze
    have h := j1.alloc (k := .lst) (o := .lst vs) hp rfl
    exact k _ _ _ (n1.trans h.1) h.2
  · cases e
theorem se_lst {r : DA} (hr : SA cl xf W p tA r) : SE cl xf W p (tLst tA) (dF mkLst r) := se_f fop_lst hr
def mkTup (xs : List D) : Option D := if xs.length ≤ 100000 then some (.n .tup .shr (frzs xs)) else none
theorem fop_tup : FOp cl (fun xs H1 Q => xs.length ≤ sizeLine ∧ ∀ p, H1 p = none → Q (.ref p) (upd H1 p (.tup xs))) mkTup := by
  intro p A L B H δ σ xs vs z Q j e k
  unfold mkTup at e
  split at e
  · rename_i hl
    cases e
    refine ⟨by rw [← j.len]; exact sz_of hl, fun p hp => ?_⟩
    have hk := j.freezeK
    obtain ⟨A1, n1, j1⟩ := j.freeze
    have h := j1.allocS (k := .tup) (o := .tup vs) hk hp rfl
    exact k _ _ _ (n1.trans h.1) h.2
  · cases e
theorem se_tup {r : DA} (hr : SA cl xf W p tA r) : SE cl xf W p (tTup tA) (dF mkTup r) := se_f fop_tup hr
def both (a b : DE) : Sl → Out (D × D) := fun δ => (a δ).bind fun x δ1 => (b δ1).bind fun y δ2 => .ok (x, y) δ2
theorem both_pure {a b : DE} (ha : SE cl xf W p ta a) (hb : SE cl xf W p tb b) (hp : p = true) : (both a b δ).same δ := Out.same_bind (ha.pure hp δ) fun x => Out.same_bind (hb.pure hp δ) fun xs => rfl
theorem two {a b : DE} (ha : SE cl xf W p ta a) (hb : SE cl xf W p tb b) {R : V → V → Hp → Prop} (j : Jt p cl A L B H [] [] δ σ) (k : Post cl xf W p (both a b δ) (fun d => [d.1, d.2]) A L B H σ (fun _ vs H' => ∀ u w, vs = [u, w] → R u w H')) : ta σ H fun x H1 => tb σ H1 fun y H2 => R x y H2 := by
  refine ha.run A L B H δ σ _ j (Post.bind (γ := D) k fun x δ1 vs A1 H1 e1 n1 j1 k1 v ev => ?_)
  subst ev
  obtain ⟨B', j2, hb', hj⟩ := j1.seq
  refine hb.run A1 L B' H1 δ1 σ _ j2 ?_
  have k2 := Post.step (A' := A1) (H' := H1) (Post.bind (γ := D) (den0 := fun y => [x, y]) (Q0 := fun y vs H2 => ∀ u w, vs = [u, w] → R u w H2) k1 fun xs δ2 vs A2 H2 e2 n2 j2 k2 => k2 vs A2 H2 n2 j2) n1
  exact Post.seq (ts := [x]) (ws := [v]) k2 (same_of hb.pure rfl) j1.lb hb' hj (fun a => rfl) (fun a vs H2 q w ew => q v w (by rw [ew]; rfl))
/-- an operation of two values that may make a new thing -/
def ROp (cl : Ec) (r : R2) (f : D → D → Option D) : Prop := ∀ p A L B H δ σ x y u w z Q, Jt p cl A L B H [x, y] [u, w] δ σ → f x y = some z → (∀ v A' H', Nx A B H A' H' → Jt p cl A' L B H' [z] [v] δ σ → Q v H') → r u w H Q
def d2 (f : D → D → Option D) (a b : DE) : DE := fun δ => (both a b δ).bind fun x δ2 => Out.ofO (f x.1 x.2) δ2
theorem se_rop {r : R2} {f : D → D → Option D} {a b : DE} (ho : ROp cl r f) (ha : SE cl xf W p ta a) (hb : SE cl xf W p tb b) : SE cl xf W p (tOp r ta tb) (d2 f a b) := by
  refine ⟨fun hp δ => Out.same_bind (both_pure ha hb hp) fun x => Out.same_ofO, fun A L B H δ σ Q j k => ?_⟩
  refine two ha hb j (Post.bind (γ := D) k fun x δ1 vs A1 H1 e1 n1 j1 k1 u w ev => ?_)
  subst ev
  obtain ⟨z, e, k2⟩ := Post.ofO k1
  exact ho p A1 L B H1 δ1 σ _ _ u w z Q j1 e fun v A2 H2 n2 j2 => k2 [v] A2 H2 (n1.trans n2) j2 v rfl
/-- peeking at two values -/
theorem POp.rop {r : R2} {f : D → D → Option D} (ho : POp cl r f) : ROp cl r (fun x y => (f x y).filter D.kept) := by
  intro p A L B H δ σ x y u w z Q j e k
  obtain ⟨u', w', f1, f2, e0, h1, h2⟩ := j.pair
  cases e0
  obtain ⟨e1, e2⟩ := Option.filter_eq_some_iff.mp e
  exact ho A L H x y u w f1 f2 z Q h1.weak h2.weak e1 fun v fp h7 _ => k v A H (Nx.refl j.ba) (j.kept e2 h7)
theorem POp.rops {r : R2} {f : D → D → Option D} (ho : POp cl r f) (hk : ∀ x y z, f x y = some z → z.kept = true) : ROp cl r f := by
  intro p A L B H δ σ x y u w z Q j e k
  exact ho.rop p A L B H δ σ x y u w z Q j (Option.filter_eq_some_iff.mpr ⟨e, hk x y z e⟩) k
def RUn (cl : Ec) (r : V → Hp → VK → Prop) (f : D → Option D) : Prop := ∀ p A L B H δ σ x u z Q, Jt p cl A L B H [x] [u] δ σ → f x = some z → (∀ v A' H', Nx A B H A' H' → Jt p cl A' L B H' [z] [v] δ σ → Q v H') → r u H Q
def d1 (f : D → Option D) (a : DE) : DE := fun δ => (a δ).bind fun x δ2 => Out.ofO (f x) δ2
theorem se_run {r : V → Hp → VK → Prop} {f : D → Option D} {a : DE} (ho : RUn cl r f) (ha : SE cl xf W p ta a) : SE cl xf W p (tUn r ta) (d1 f a) := by
  refine ⟨fun hp δ => Out.same_bind (ha.pure hp δ) fun x => Out.same_ofO, fun A L B H δ σ Q j k => ?_⟩
  refine ha.run A L B H δ σ _ j (Post.bind (γ := D) k fun x δ1 vs A1 H1 e1 n1 j1 k1 u ev => ?_)
  subst ev
  obtain ⟨z, e, k2⟩ := Post.ofO k1
  exact ho p A1 L B H1 δ1 σ _ u z Q j1 e fun v A2 H2 n2 j2 => k2 [v] A2 H2 (n1.trans n2) j2 v rfl
theorem PUn.run {r : V → Hp → VK → Prop} {f : D → Option D} (ho : PUn cl r f) : RUn cl r (fun x => (f x).filter D.kept) := by
  intro p A L B H δ σ x u z Q j e k
  obtain ⟨u', f1, e0, h1⟩ := j.one
  cases e0
  obtain ⟨e1, e2⟩ := Option.filter_eq_some_iff.mp e
  exact ho A L H x u f1 z Q h1.weak e1 fun v fp h7 _ => k v A H (Nx.refl j.ba) (j.kept e2 h7)
/-- a peeked base, a pure index -/
def dIxP (f : D → D → Option D) (a : PP) (b : DE) : DE := fun δ => match a δ with
  | some x => (b δ).bind fun y δ2 => Out.ofO ((f x y).filter D.kept) δ2
  | none => .bad
theorem se_ixp {r : R2} {f : D → D → Option D} {a : PP} {b : DE} (ho : POp cl r f) (ha : SP cl ta a) (hb : SE cl xf W true tb b) : SE cl xf W p (tOp r ta tb) (dIxP f a b) := by
  refine SE.to ⟨fun _ δ => ?_, fun A L B H δ σ Q j k => ?_⟩
  · unfold dIxP
    split
    · exact Out.same_bind (hb.pure rfl δ) fun x => Out.same_ofO
    · trivial
  · unfold dIxP at k
    split at k
    · rename_i x e1
      obtain ⟨g0, hg0, _, _⟩ := j.drop0
      refine ha A L H δ σ g0 x _ hg0 e1 fun u f1 h1 _ => ?_
      have hs := hb.pure rfl δ
      refine hb.run A L A H δ σ _ j.toPure ?_
      cases e2 : b δ with
      | bad => rw [e2] at k; exact k
      | exc c xs s =>
        rw [e2] at k hs
        cases (show s = δ from hs)
        exact fun d vs A' H' n x j2 => k d vs A' H' (n.weak j.ba) x (j.ofPure n j2)
      | ok y s =>
        rw [e2] at k hs
        cases (show s = δ from hs)
        intro vs A' H' n j2 w ew
        subst ew
        obtain ⟨z, e, k2⟩ := Post.ofO k
        obtain ⟨e3, e4⟩ := Option.filter_eq_some_iff.mp e
        obtain ⟨w', f2, ew, h2⟩ := j2.one
        cases ew
        have h1' := h1.step (A' := A') (L' := L) (H' := H') n.both (fun a ha => n.prot a (h1.inA a ha).1) (fun _ a hl => ⟨(n.prot a (j.ba a (j.lb a hl))).1, hl⟩)
        exact ho A' L H' x y u w f1 f2 z Q h1' h2.weak e3 fun v fp h7 _ => k2 [v] A' H' (n.weak j.ba) ((j.ofPure n j2).kept e4 h7) v rfl
    · exact k.elim
end
end Fs
/-! F3 -/
/-! Operations. -/
namespace Fs
open PySem L2
section
variable {cl : Ec} {xf : Nat → List Str} {W : WX} {A A' L B : Addr → Prop} {H H' : Hp} {δ δ' : Sl} {σ : L2.St} {p q b : Bool} {te ta tb tc : TE} {tA : TA} {tt tu : TT}
/-! lists by place -/
theorem Rps.at {ds : List D} {vs : List V} {fp : List Addr} {i : Int} {d : D} (h : Rps cl A L H b ds vs fp) (e : atI ds i = some d) : ∃ v f1, atI vs i = some v ∧ Rp cl A L H b d v f1 ∧ ∀ a ∈ f1, a ∈ fp := by
  unfold atI at e ⊢
  rw [← h.length]
  cases e1 : ixN ds.length i with
  | none => rw [e1] at e; cases e
  | some j =>
    rw [e1] at e
    exact h.get e
def lkD {α : Type} : List Key → List α → Key → Option α
  | k :: ks, x :: xs, y => if k = y then some x else lkD ks xs y
  | _, _, _ => none
theorem lkD_valV : ∀ (ks : List Key) (vs : List V) (y : Key), valV (ks.zip vs) y = lkD ks vs y
  | [], vs, y => by simp [lkD, valV]
  | k :: ks, [], y => by simp [lkD, valV]
  | k :: ks, v :: vs, y => by
    rw [List.zip_cons_cons]
    by_cases h : k = y
    · rw [valV_pos (p := (k, v)) h]; simp [lkD, h]
    · rw [valV_neg (p := (k, v)) h, lkD_valV ks vs y]; simp [lkD, h]
theorem Rps.lk : ∀ {ks : List Key} {ds : List D} {vs : List V} {fp : List Addr} {y : Key} {d : D}, Rps cl A L H b ds vs fp → lkD ks ds y = some d → ∃ v f1, lkD ks vs y = some v ∧ Rp cl A L H b d v f1 ∧ ∀ a ∈ f1, a ∈ fp
  | [], ds, vs, fp, y, d, h, e => by simp [lkD] at e
  | k :: ks, [], vs, fp, y, d, h, e => by simp [lkD] at e
  | k :: ks, d0 :: ds, vs, fp, y, d, h, e => by
    simp only [Rps] at h
    obtain ⟨v, vs', f1, f2, rfl, rfl, h3, h4⟩ := h
    unfold lkD at e ⊢
    by_cases hk : k = y
    · rw [if_pos hk] at e ⊢
      cases e
      exact ⟨v, f1, rfl, h3, fun a ha => List.mem_append_left _ ha⟩
    · rw [if_neg hk] at e ⊢
      obtain ⟨v2, f3, g1, g2, g3⟩ := Rps.lk h4 e
      exact ⟨v2, f3, g1, g2, fun a ha => List.mem_append_right _ (g3 a ha)⟩
theorem Rps.lkN : ∀ {ks : List Key} {ds : List D} {vs : List V} {fp : List Addr} {y : Key}, Rps cl A L H b ds vs fp → lkD ks ds y = none → lkD ks vs y = none
  | [], ds, vs, fp, y, h, e => by simp [lkD]
  | k :: ks, [], vs, fp, y, h, e => by simp only [Rps] at h; rw [h.1]; simp [lkD]
  | k :: ks, d0 :: ds, vs, fp, y, h, e => by
    simp only [Rps] at h
    obtain ⟨v, vs', f1, f2, rfl, rfl, h3, h4⟩ := h
    unfold lkD at e ⊢
    by_cases hk : k = y
    · rw [if_pos hk] at e; cases e
    · rw [if_neg hk] at e ⊢
      exact Rps.lkN h4 e
/-- a subscript, whatever the thing -/
def rIxA (K : PySem.W.Frag) : R2 := fun x y H Q => rIx K x y H Q ∨ ∃ a v, x = .ref a ∧ DGet H a y (some v) ∧ Q v H
def ixD : D → D → Option D
  | .n .lst _ xs, .v (.int i) => atI xs i
  | .s ns, .v (.int i) => (atI ns i).map fun n => D.int n
  | .n .tup _ xs, .v (.int i) => atI xs i
  | .n (.dct ks) _ xs, .v (.int i) => lkD ks xs (.inl i)
  | .n (.dct ks) _ xs, .v (.str s) => lkD ks xs (.inr s)
  | .v (.str s), .v (.int i) => if s.length ≤ 100000 then (atI s.cps.toList i).map fun c => D.str ⟨#[c]⟩ else none
  | _, _ => none
theorem pop_ix : POp cl (rIxA cl.K) ixD := by
  intro A L H x y u w f1 f2 z Q h1 h2 e k
  unfold ixD at e
  split at e
  · rename_i fl xs i
    obtain ⟨rfl, rfl, _⟩ := h2.leafv
    obtain ⟨a, o, vs, fp', rfl, ho, hs, hr, hf⟩ := h1.node
    cases hs
    obtain ⟨v, f3, g1, g2, g3⟩ := hr.at e
    exact .inl (.inl ⟨a, vs, i, v, rfl, rfl, SqL.of ho, g1, k v f3 g2 fun c hc => List.mem_append_left _ (hf c (g3 c hc))⟩)
  · rename_i ns i
    obtain ⟨rfl, rfl, _⟩ := h2.leafv
    obtain ⟨a, rfl, hs, rfl, _⟩ := h1.scr
    obtain ⟨n, e1, rfl⟩ := Option.map_eq_some_iff.mp e
    refine .inl (.inl ⟨a, ns.map V.int, i, .int n, rfl, rfl, hs, ?_, k _ [] (Rp.leaf rfl) (by simp)⟩)
    unfold atI at e1 ⊢
    rw [List.length_map]
    cases e2 : ixN ns.length i with
    | none => rw [e2] at e1; cases e1
    | some j =>
      rw [e2] at e1
      simp only [Option.bind_some] at e1 ⊢
      rw [List.getElem?_map, e1]
      rfl
  · rename_i fl xs i
    obtain ⟨rfl, rfl, _⟩ := h2.leafv
    obtain ⟨a, o, vs, fp', rfl, ho, hs, hr, hf⟩ := h1.node
    cases hs
    obtain ⟨v, f3, g1, g2, g3⟩ := hr.at e
    exact .inl (.inr (.inl ⟨a, vs, i, v, rfl, rfl, SqT.of ho, g1, k v f3 g2 fun c hc => List.mem_append_left _ (hf c (g3 c hc))⟩))
  · rename_i ks fl xs i
    obtain ⟨rfl, rfl, _⟩ := h2.leafv
    obtain ⟨a, o, vs, fp', rfl, ho, ⟨hl, hs⟩, hr, hf⟩ := h1.node
    subst hs
    obtain ⟨v, f3, g1, g2, g3⟩ := hr.lk e
    refine .inr ⟨a, v, rfl, ?_, k v f3 g2 fun c hc => List.mem_append_left _ (hf c (g3 c hc))⟩
    rw [← g1, ← lkD_valV]
    exact DGet.k (k := Sum.inl i) ho
  · rename_i ks fl xs s
    obtain ⟨rfl, rfl, _⟩ := h2.leafv
    obtain ⟨a, o, vs, fp', rfl, ho, ⟨hl, hs⟩, hr, hf⟩ := h1.node
    subst hs
    obtain ⟨v, f3, g1, g2, g3⟩ := hr.lk e
    refine .inr ⟨a, v, rfl, ?_, k v f3 g2 fun c hc => List.mem_append_left _ (hf c (g3 c hc))⟩
    rw [← g1, ← lkD_valV]
    exact DGet.k (k := Sum.inr s) ho
  · rename_i s i
    obtain ⟨rfl, rfl, _⟩ := h1.leafv
    obtain ⟨rfl, rfl, _⟩ := h2.leafv
    split at e
    · rename_i hl
      obtain ⟨c, e1, rfl⟩ := Option.map_eq_some_iff.mp e
      exact .inl (.inr (.inr ⟨s, i, c, rfl, rfl, sz_of hl, e1, k _ [] (Rp.leaf rfl) (by simp)⟩))
    · cases e
  · cases e
/-! ints -/
def f2I (g : Int → Int → Option V) : D → D → Option D
  | .v (.int i), .v (.int j) => (g i j).map D.v
  | _, _ => none
theorem f2I_kept {g : Int → Int → Option V} : ∀ x y z, f2I g x y = some z → z.kept = true := by
  intro x y z e
  unfold f2I at e
  split at e
  · obtain ⟨v, _, rfl⟩ := Option.map_eq_some_iff.mp e; rfl
  · cases e
theorem pop_I0 {g : Int → Int → V} (hg : ∀ i j, sc (g i j) = true) : POp cl (rI0 g) (f2I fun i j => some (g i j)) := by
  intro A L H x y u w f1 f2 z Q h1 h2 e k
  unfold f2I at e
  split at e
  · rename_i i j
    cases e
    obtain ⟨rfl, rfl, _⟩ := h1.leafv
    obtain ⟨rfl, rfl, _⟩ := h2.leafv
    exact ⟨i, j, rfl, rfl, k _ [] (Rp.leaf (hg i j)) (by simp)⟩
  · cases e
theorem pop_I {C : Int → Int → Prop} {g : Int → Int → V} {c : Int → Int → Bool} (hc : ∀ i j, c i j = true → C i j) (hg : ∀ i j, sc (g i j) = true) : POp cl (rI C g) (f2I fun i j => if c i j then some (g i j) else none) := by
  intro A L H x y u w f1 f2 z Q h1 h2 e k
  unfold f2I at e
  split at e
  · rename_i i j
    simp only at e
    split at e
    · rename_i hij
      cases e
      obtain ⟨rfl, rfl, _⟩ := h1.leafv
      obtain ⟨rfl, rfl, _⟩ := h2.leafv
      exact ⟨i, j, rfl, rfl, hc i j hij, k _ [] (Rp.leaf (hg i j)) (by simp)⟩
    · cases e
  · cases e
def cMul (i j : Int) : Bool := decide (i.natAbs < 2 ^ 64) || decide (j.natAbs < 2 ^ 64)
theorem cMul_ok (i j : Int) (h : cMul i j = true) : CMul i j := by
  unfold cMul at h
  simp only [Bool.or_eq_true, decide_eq_true_eq] at h
  rcases h with h | h
  · exact .inl ⟨by omega, by omega⟩
  · exact .inr ⟨by omega, by omega⟩
def cDiv (i j : Int) : Bool := decide (0 < j) && decide (j < 1073741824)
theorem cDiv_ok (i j : Int) (h : cDiv i j = true) : CDiv i j := by
  unfold cDiv at h
  simp only [Bool.and_eq_true, decide_eq_true_eq] at h
  exact h
def cMod (i j : Int) : Bool := decide (0 < j)
theorem cMod_ok (i j : Int) (h : cMod i j = true) : 0 < j := by unfold cMod at h; simpa using h
def cPow (i j : Int) : Bool := decide (0 ≤ j) && decide (j ≤ 1000000) && decide (i.natAbs < 2 ^ 64)
theorem cPow_ok (i j : Int) (h : cPow i j = true) : CPow i j := by
  unfold cPow at h
  simp only [Bool.and_eq_true, decide_eq_true_eq] at h
  exact ⟨h.1.1, h.1.2, h.2⟩
abbrev subD := f2I fun i j => some (.int (i - j))
abbrev mulD := f2I fun i j => if cMul i j then some (.int (i * j)) else none
abbrev divD := f2I fun i j => if cDiv i j then some (.int (i / j)) else none
abbrev modD := f2I fun i j => if cMod i j then some (.int (i % j)) else none
abbrev powD := f2I fun i j => if cPow i j then some (.int (i ^ j.toNat)) else none
abbrev ltD := f2I fun i j => some (.bl (decide (i < j)))
abbrev leD := f2I fun i j => some (.bl (decide (i ≤ j)))
abbrev gtD := f2I fun i j => some (.bl (decide (j < i)))
abbrev geD := f2I fun i j => some (.bl (decide (j ≤ i)))
/-! sums: of ints, texts, lists, tuples -/
def rAddA (K : PySem.W.Frag) : R2 := fun x y H Q => ((rI0 fun i j => .int (i + j)) x y H Q ∨ (∃ i j, x = .str i ∧ y = .str j ∧ i.length + j.length ≤ sizeLine ∧ Q (.str (i ++ j)) H)) ∨ rCat x y H Q ∨ rCatT K x y H Q
def addD : D → D → Option D
  | .v (.int i), .v (.int j) => some (.int (i + j))
  | .v (.str s), .v (.str t) => if s.length + t.length ≤ 100000 then some (.str (s ++ t)) else none
  | .n .lst _ xs, .n .lst _ ys => if xs.length + ys.length ≤ 100000 ∧ xs.all D.kept = true ∧ ys.all D.kept = true then some (.n .lst .own (xs ++ ys)) else none
  | .n .tup _ (x :: xs), .n .tup _ (y :: ys) => if xs.length + ys.length ≤ 100000 ∧ (x :: xs).all D.kept = true ∧ (y :: ys).all D.kept = true then some (.n .tup .shr ((x :: xs) ++ (y :: ys))) else none
  | _, _ => none
theorem Rps.keptS : ∀ {ds : List D} {vs : List V} {fp : List Addr}, ds.all D.kept = true → Rps cl A L H b ds vs fp → Rps cl A L H false ds vs []
  | [], vs, fp, _, h => by simp only [Rps] at h ⊢; exact ⟨h.1, trivial⟩
  | d :: ds, vs, fp, hk, h => by
    simp only [Rps] at h ⊢
    obtain ⟨v, vs', f1, f2, h1, h2, h3, h4⟩ := h
    simp only [List.all_cons, Bool.and_eq_true] at hk
    have h5 := h3.strong hk.1
    obtain ⟨h5, rfl⟩ := h5
    exact ⟨v, vs', [], [], h1, rfl, h5, Rps.keptS hk.2 h4⟩
/-- things found, kept, as temporaries -/
theorem Jt.keptL {ts : List D} {ws : List V} {ds : List D} {vs : List V} {fp : List Addr} (j : Jt p cl A L B H ts ws δ σ) (hk : ds.all D.kept = true) (h : Rps cl A L H b ds vs fp) : Jt p cl A L B H ds vs δ σ := by
  obtain ⟨g, h2, h3, h5⟩ := j.drop0
  exact ⟨⟨[], g, h.keptS hk, h2, by simpa using h3, by simp, h5⟩, j.lb, j.ba, j.ad⟩
theorem rop_add {K : PySem.W.Frag} : ROp cl (rAddA K) addD := by
  intro p A L B H δ σ x y u w z Q j e k
  obtain ⟨u', w', f1, f2, e0, h1, h2⟩ := j.pair
  cases e0
  unfold addD at e
  split at e
  · rename_i i j'
    cases e
    obtain ⟨rfl, rfl, _⟩ := h1.leafv
    obtain ⟨rfl, rfl, _⟩ := h2.leafv
    exact .inl (.inl ⟨i, j', rfl, rfl, k _ A H (Nx.refl j.ba) (j.leaf rfl)⟩)
  · rename_i s t
    split at e
    · rename_i hl
      cases e
      obtain ⟨rfl, rfl, _⟩ := h1.leafv
      obtain ⟨rfl, rfl, _⟩ := h2.leafv
      exact .inl (.inr ⟨s, t, rfl, rfl, sz_of hl, k _ A H (Nx.refl j.ba) (j.leaf rfl)⟩)
    · cases e
  · rename_i fl xs fl' ys
    split at e
    · rename_i hl
      cases e
      obtain ⟨a, o, vs, fp', rfl, ho, hs, hr, hf⟩ := h1.node
      obtain ⟨a', o', vs', fp'', rfl, ho', hs', hr', hf'⟩ := h2.node
      cases hs
      cases hs'
      refine .inr (.inl ⟨a, a', vs, vs', rfl, rfl, ho, ho', by rw [← hr.length, ← hr'.length]; exact sz_of hl.1, fun p0 hp => ?_⟩)
      have hk : (xs ++ ys).all D.kept = true := by rw [List.all_append, hl.2.1, hl.2.2]; rfl
      have j2 := j.keptL hk (hr.append hr')
      have h := j2.alloc (k := .lst) (o := .lst (vs ++ vs')) hp rfl
      exact k _ _ _ h.1 h.2
    · cases e
  · rename_i fl x0 xs fl' y0 ys
    split at e
    · rename_i hl
      cases e
      obtain ⟨a, o, vs, fp', rfl, ho, hs, hr, hf⟩ := h1.node
      obtain ⟨a', o', vs', fp'', rfl, ho', hs', hr', hf'⟩ := h2.node
      cases hs
      cases hs'
      have l1 := hr.length
      have l2 := hr'.length
      have hk : ((x0 :: xs) ++ (y0 :: ys)).all D.kept = true := by rw [List.all_append, hl.2.1, hl.2.2]; rfl
      refine .inr (.inr ⟨a, a', vs, vs', rfl, rfl, SqT.of ho, SqT.of ho', by intro z; rw [z] at l1; simp at l1, ?_, ?_⟩)
      · rw [← l1, ← l2]
        simp only [List.length_cons]
        exact Nat.le_trans (Nat.add_le_add_right (Nat.add_le_add_right (Nat.le_refl _) _) _) (by have := hl.1; have h16 := PySem.sizeLine_eq; omega)
      · refine ⟨fun z => by rw [z] at l2; simp at l2, fun _ p0 hp => ?_⟩
        have j2 := j.keptL hk (hr.append hr')
        have h := j2.allocS (k := .tup) (o := .tup (vs ++ vs')) hk hp rfl
        exact k _ _ _ h.1 h.2
    · cases e
  · cases e
end
end Fs
/-! F4 -/
/-! Truths, tests, comparisons, built-in functions. -/
namespace Fs
open PySem L2
section
variable {cl : Ec} {xf : Nat → List Str} {W : WX} {A A' L B : Addr → Prop} {H H' : Hp} {δ δ' : Sl} {σ : L2.St} {p q b : Bool} {te ta tb tc : TE} {tA : TA} {tt tu : TT}
/-! ### truths as values -/
def dAnd (a b : DE) : DE := fun δ => (a δ).bind fun x δ1 => match x with | .v (.bl true) => b δ1 | .v (.bl false) => .ok (.bl false) δ1 | _ => .bad
def dOr (a b : DE) : DE := fun δ => (a δ).bind fun x δ1 => match x with | .v (.bl true) => .ok (.bl true) δ1 | .v (.bl false) => b δ1 | _ => .bad
def notD : D → Option D | .v (.bl c) => some (.bl !c) | _ => none
theorem se_and {a b : DE} (ha : SE cl xf W p ta a) (hb : SE cl xf W p tb b) : SE cl xf W p (tAndV ta tb) (dAnd a b) := by
  refine ⟨fun hp δ => Out.same_bind (ha.pure hp δ) fun x => ?_, fun A L B H δ σ Q j k => ?_⟩
  · split
    · exact hb.pure hp δ
    · rfl
    · trivial
  · refine ha.run A L B H δ σ _ j (Post.bind (γ := D) k fun x δ1 vs A1 H1 e1 n1 j1 k1 v ev => ?_)
    subst ev
    obtain ⟨u', f1, e0, h1⟩ := j1.one
    cases e0
    split at k1
    · obtain ⟨rfl, _, _⟩ := h1.leafv
      refine ⟨true, rfl, ?_⟩
      rw [if_pos rfl]
      exact hb.run A1 L B H1 δ1 σ Q j1.drop (Post.step k1 n1)
    · obtain ⟨rfl, _, _⟩ := h1.leafv
      exact ⟨false, rfl, k1 _ A1 H1 n1 j1 _ rfl⟩
    · exact k1.elim
theorem se_or {a b : DE} (ha : SE cl xf W p ta a) (hb : SE cl xf W p tb b) : SE cl xf W p (tOrV ta tb) (dOr a b) := by
  refine ⟨fun hp δ => Out.same_bind (ha.pure hp δ) fun x => ?_, fun A L B H δ σ Q j k => ?_⟩
  · split
    · rfl
    · exact hb.pure hp δ
    · trivial
  · refine ha.run A L B H δ σ _ j (Post.bind (γ := D) k fun x δ1 vs A1 H1 e1 n1 j1 k1 v ev => ?_)
    subst ev
    obtain ⟨u', f1, e0, h1⟩ := j1.one
    cases e0
    split at k1
    · obtain ⟨rfl, _, _⟩ := h1.leafv
      exact ⟨true, rfl, k1 _ A1 H1 n1 j1 _ rfl⟩
    · obtain ⟨rfl, _, _⟩ := h1.leafv
      exact ⟨false, rfl, hb.run A1 L B H1 δ1 σ Q j1.drop (Post.step k1 n1)⟩
    · exact k1.elim
/-- one operation of one value that gives a scalar and asks nothing of the heap -/
def d1S (f : D → Option D) (a : DE) : DE := fun δ => (a δ).bind fun x δ1 => Out.ofO (f x) δ1
theorem se_not {a : DE} (ha : SE cl xf W p ta a) : SE cl xf W p (tNotV ta) (d1S notD a) := by
  refine ⟨fun hp δ => Out.same_bind (ha.pure hp δ) fun x => Out.same_ofO, fun A L B H δ σ Q j k => ?_⟩
  refine ha.run A L B H δ σ _ j (Post.bind (γ := D) k fun x δ1 vs A1 H1 e1 n1 j1 k1 v ev => ?_)
  subst ev
  obtain ⟨z, e, k2⟩ := Post.ofO k1
  obtain ⟨u', f1, e0, h1⟩ := j1.one
  cases e0
  unfold notD at e
  split at e
  · rename_i c
    cases e
    obtain ⟨rfl, _, _⟩ := h1.leafv
    exact ⟨c, rfl, k2 _ A1 H1 n1 (j1.leaf rfl) _ rfl⟩
  · cases e
/-! ### tests -/
def dtV (a : DE) : DT := fun δ => (a δ).bind fun x δ1 => match x with | .v (.bl c) => .ok c δ1 | _ => .bad
theorem sb_v {a : DE} (ha : SE cl xf W p ta a) : SB cl xf W p (tB ta) (dtV a) := by
  refine ⟨fun hp δ => Out.same_bind (ha.pure hp δ) fun x => ?_, fun A L B H δ σ Q j k => ?_⟩
  · split
    · rfl
    · trivial
  · refine ha.run A L B H δ σ _ j (Post.bind (γ := D) k fun x δ1 vs A1 H1 e1 n1 j1 k1 v ev => ?_)
    subst ev
    obtain ⟨u', f1, e0, h1⟩ := j1.one
    cases e0
    split at k1
    · rename_i c
      obtain ⟨rfl, _, _⟩ := h1.leafv
      exact ⟨c, rfl, k1 [] A1 H1 n1 j1.drop⟩
    · exact k1.elim
def dtAnd (a b : DT) : DT := fun δ => (a δ).bind fun x δ1 => match x with | true => b δ1 | false => .ok false δ1
def dtOr (a b : DT) : DT := fun δ => (a δ).bind fun x δ1 => match x with | true => .ok true δ1 | false => b δ1
def dtNot (a : DT) : DT := fun δ => (a δ).bind fun x δ1 => .ok (!x) δ1
theorem sb_and {a b : DT} (ha : SB cl xf W p tt a) (hb : SB cl xf W p tu b) : SB cl xf W p (tAnd tt tu) (dtAnd a b) := by
  refine ⟨fun hp δ => Out.same_bind (ha.pure hp δ) fun x => ?_, fun A L B H δ σ Q j k => ?_⟩
  · split
    · exact hb.pure hp δ
    · rfl
  · refine ha.run A L B H δ σ _ j (Post.bind (γ := D) k fun x δ1 vs A1 H1 e1 n1 j1 k1 => ?_)
    cases x with
    | true => rw [if_pos rfl]; exact hb.run A1 L B H1 δ1 σ Q j1.drop (Post.step k1 n1)
    | false => exact k1 [] A1 H1 n1 j1.drop
theorem sb_or {a b : DT} (ha : SB cl xf W p tt a) (hb : SB cl xf W p tu b) : SB cl xf W p (tOr tt tu) (dtOr a b) := by
  refine ⟨fun hp δ => Out.same_bind (ha.pure hp δ) fun x => ?_, fun A L B H δ σ Q j k => ?_⟩
  · split
    · rfl
    · exact hb.pure hp δ
  · refine ha.run A L B H δ σ _ j (Post.bind (γ := D) k fun x δ1 vs A1 H1 e1 n1 j1 k1 => ?_)
    cases x with
    | true => exact k1 [] A1 H1 n1 j1.drop
    | false => exact hb.run A1 L B H1 δ1 σ Q j1.drop (Post.step k1 n1)
theorem sb_not {a : DT} (ha : SB cl xf W p tt a) : SB cl xf W p (tNot tt) (dtNot a) := by
  refine ⟨fun hp δ => Out.same_bind (ha.pure hp δ) fun x => rfl, fun A L B H δ σ Q j k => ?_⟩
  exact ha.run A L B H δ σ _ j (Post.bind (γ := D) k fun x δ1 vs A1 H1 e1 n1 j1 k1 => k1 [] A1 H1 n1 j1.drop)
def dIf (t : DT) (a b : DE) : DE := fun δ => (t δ).bind fun x δ1 => match x with | true => a δ1 | false => b δ1
theorem se_if {t : DT} {a b : DE} (ht : SB cl xf W p tt t) (ha : SE cl xf W p ta a) (hb : SE cl xf W p tb b) : SE cl xf W p (tIf tt ta tb) (dIf t a b) := by
  refine ⟨fun hp δ => Out.same_bind (ht.pure hp δ) fun x => ?_, fun A L B H δ σ Q j k => ?_⟩
  · split
    · exact ha.pure hp δ
    · exact hb.pure hp δ
  · refine ht.run A L B H δ σ _ j (Post.bind (γ := D) k fun x δ1 vs A1 H1 e1 n1 j1 k1 => ?_)
    cases x with
    | true => rw [if_pos rfl]; exact ha.run A1 L B H1 δ1 σ Q j1.drop (Post.step k1 n1)
    | false => exact hb.run A1 L B H1 δ1 σ Q j1.drop (Post.step k1 n1)
theorem SB.to {dt : DT} (h : SB cl xf W true tt dt) : SB cl xf W p tt dt := by
  cases p with
  | true => exact h
  | false =>
    refine ⟨fun z => (by cases z), fun A L B H δ σ Q j k => h.run A L A H δ σ Q j.toPure ?_⟩
    have hs := h.pure rfl δ
    cases e : dt δ with
    | bad => rw [e] at k; exact k
    | exc c xs s =>
      rw [e] at k hs
      cases (show s = δ from hs)
      exact fun d vs A' H' n x j2 => k d vs A' H' (n.weak j.ba) x (j.ofPure n j2)
    | ok d s =>
      rw [e] at k hs
      cases (show s = δ from hs)
      exact fun vs A' H' n j2 => k vs A' H' (n.weak j.ba) (j.ofPure n j2)
/-! ### a < b < c -/
def dCh (f g : D → D → Option D) (a b c : DE) : DE := fun δ => (both a b δ).bind fun xy δ1 => match f xy.1 xy.2 with
  | some (.v (.bl true)) => (c δ1).bind fun z δ2 => Out.ofO ((g xy.2 z).filter D.kept) δ2
  | some (.v (.bl false)) => .ok (.bl false) δ1
  | _ => .bad
theorem Jt.triple {x y z : D} {ws : List V} (j : Jt p cl A L B H [x, y, z] ws δ σ) : ∃ u w t f1 f2 f3, ws = [u, w, t] ∧ Rp cl A L H false x u f1 ∧ Rp cl A L H false y w f2 ∧ Rp cl A L H false z t f3 := by
  obtain ⟨f0, g, h1, h2, h3, h4⟩ := j.ex
  simp only [Rps] at h1
  obtain ⟨u, vs', f1, f2, rfl, rfl, h5, w, vs'', f3, f4, rfl, rfl, h6, t, vs3, f5, f6, rfl, rfl, h7, rfl, rfl⟩ := h1
  exact ⟨u, w, t, f1, f3, f5, rfl, h5, h6, h7⟩
theorem se_ch {r r' : R2} {f g : D → D → Option D} {a b c : DE} (hf : POp cl r f) (hg : POp cl r' g) (ha : SE cl xf W p ta a) (hb : SE cl xf W p tb b) (hc : SE cl xf W p tc c) : SE cl xf W p (tChain r r' ta tb tc) (dCh f g a b c) := by
  refine ⟨fun hp δ => Out.same_bind (both_pure ha hb hp) fun x => ?_, fun A L B H δ σ Q j k => ?_⟩
  · split
    · exact Out.same_bind (hc.pure hp δ) fun x => Out.same_ofO
    · rfl
    · trivial
  · refine two ha hb j (Post.bind (γ := D) k fun x δ1 vs A1 H1 e1 n1 j1 k1 u w ev => ?_)
    subst ev
    obtain ⟨x, y⟩ := x
    obtain ⟨u', w', f1, f2, e0, h1, h2⟩ := j1.pair
    cases e0
    split at k1
    · rename_i e2
      refine hf A1 L H1 x y u w f1 f2 _ _ h1.weak h2.weak e2 fun v fp h3 _ => ?_
      obtain ⟨rfl, _, _⟩ := h3.leafv
      refine ⟨true, rfl, ?_⟩
      rw [if_pos rfl]
      obtain ⟨B', j2, hb', hj⟩ := j1.seq
      refine hc.run A1 L B' H1 δ1 σ _ j2 ?_
      have k2 := Post.step (A' := A1) (H' := H1) (Post.bind (γ := D) (den0 := fun z => [x, y, z]) (Q0 := fun z vs H2 => ∀ t, vs = [u, w, t] → r' w t H2 Q) k1 fun z δ2 vs A2 H2 e3 n2 j3 k3 t ev => ?_) n1
      · exact Post.seq (ts := [x, y]) (ws := [u, w]) k2 (same_of hc.pure rfl) j1.lb hb' hj (fun a => rfl) (fun a vs H2 q t et => q t (by rw [et]; rfl))
      · subst ev
        obtain ⟨o, eo, k4⟩ := Post.ofO k3
        obtain ⟨e5, e6⟩ := Option.filter_eq_some_iff.mp eo
        obtain ⟨u2, w2, t2, g1, g2, g3, e7, h5, h6, h7⟩ := j3.triple
        cases e7
        exact hg A2 L H2 y z w t g2 g3 o Q h6.weak h7.weak e5 fun v fp h8 _ => k4 [v] A2 H2 n2 (j3.kept e6 h8) v rfl
    · rename_i e2
      refine hf A1 L H1 x y u w f1 f2 _ _ h1.weak h2.weak e2 fun v fp h3 _ => ?_
      obtain ⟨rfl, _, _⟩ := h3.leafv
      exact ⟨false, rfl, k1 _ A1 H1 n1 (j1.leaf rfl) _ rfl⟩
    · exact k1.elim
/-! ### equality of data -/
mutual
def pd : D → Option PyData
  | .v .non => some .none
  | .v (.bl b) => some (.bool b)
  | .v (.int i) => some (.int i)
  | .v (.str s) => some (.str s)
  | .n .lst _ xs => (pds xs).map .list
  | .n .tup _ xs => (pds xs).map .tuple
  | _ => none
def pds : List D → Option (List PyData)
  | [] => some []
  | d :: ds => (pd d).bind fun x => (pds ds).map fun xs => x :: xs
end
mutual
theorem Rp.dp {K : PySem.W.Frag} : ∀ {d : D} {v : V} {fp : List Addr} {b : Bool} {e : PyData}, Rp cl A L H b d v fp → pd d = some e → Dp K H v e
  | .v .non, v, fp, b, e, h, he => by obtain ⟨rfl, _, _⟩ := h.leafv; simp only [pd, Option.some.injEq] at he; subst he; exact .non
  | .v (.bl c), v, fp, b, e, h, he => by obtain ⟨rfl, _, _⟩ := h.leafv; simp only [pd, Option.some.injEq] at he; subst he; exact .bl c
  | .v (.int i), v, fp, b, e, h, he => by obtain ⟨rfl, _, _⟩ := h.leafv; simp only [pd, Option.some.injEq] at he; subst he; exact .int i
  | .v (.str i), v, fp, b, e, h, he => by obtain ⟨rfl, _, _⟩ := h.leafv; simp only [pd, Option.some.injEq] at he; subst he; exact .str i
  | .v (.byt i), v, fp, b, e, h, he => by simp [pd] at he
  | .v (.flt i), v, fp, b, e, h, he => by simp [pd] at he
  | .v (.ref i), v, fp, b, e, h, he => by simp [pd] at he
  | .v (.ty i), v, fp, b, e, h, he => by simp [pd] at he
  | .n .lst w xs, v, fp, b, e, h, he => by
    simp only [pd] at he
    obtain ⟨es, h1, rfl⟩ := Option.map_eq_some_iff.mp he
    obtain ⟨a, o, vs, fp', rfl, ho, hs, hr, hf⟩ := h.node
    cases hs
    exact .lst (SqL.of ho) (Rps.dp hr h1)
  | .n .tup w xs, v, fp, b, e, h, he => by
    simp only [pd] at he
    obtain ⟨es, h1, rfl⟩ := Option.map_eq_some_iff.mp he
    obtain ⟨a, o, vs, fp', rfl, ho, hs, hr, hf⟩ := h.node
    cases hs
    exact .tup (SqT.of ho) (Rps.dp hr h1)
  | .s xs, v, fp, b, e, h, he => by simp [pd] at he
  | .n (.dct ks) w xs, v, fp, b, e, h, he => by simp [pd] at he
  | .n (.dcl ks) w xs, v, fp, b, e, h, he => by simp [pd] at he
  | .n (.obj c fs) w xs, v, fp, b, e, h, he => by simp [pd] at he
theorem Rps.dp {K : PySem.W.Frag} : ∀ {ds : List D} {vs : List V} {fp : List Addr} {b : Bool} {es : List PyData}, Rps cl A L H b ds vs fp → pds ds = some es → DpAll K H vs es
  | [], vs, fp, b, es, h, he => by
    simp only [Rps] at h
    simp only [pds, Option.some.injEq] at he
    rw [h.1, ← he]
    exact .nil
  | d :: ds, vs, fp, b, es, h, he => by
    simp only [Rps] at h
    obtain ⟨v, vs', f1, f2, rfl, rfl, h3, h4⟩ := h
    simp only [pds] at he
    obtain ⟨x, e1, e2⟩ := Option.bind_eq_some_iff.mp he
    obtain ⟨xs, e3, rfl⟩ := Option.map_eq_some_iff.mp e2
    exact .cons (Rp.dp h3 e1) (Rps.dp h4 e3)
end
def eqD (x y : D) : Option D := (pd x).bind fun a => (pd y).bind fun b => if SeqAt.shaped a = true ∧ SeqAt.shaped b = true then some (.bl (PyData.eqv a b)) else none
def neD (x y : D) : Option D := (pd x).bind fun a => (pd y).bind fun b => if SeqAt.shaped a = true ∧ SeqAt.shaped b = true then some (.bl (!PyData.eqv a b)) else none
theorem pop_eq {K : PySem.W.Frag} : POp cl (rEqD K) eqD := by
  intro A L H x y u w f1 f2 z Q h1 h2 e k
  unfold eqD at e
  obtain ⟨a, e1, e⟩ := Option.bind_eq_some_iff.mp e
  obtain ⟨b, e2, e⟩ := Option.bind_eq_some_iff.mp e
  split at e
  · rename_i hs
    cases e
    exact ⟨a, b, h1.dp e1, h2.dp e2, hs.1, hs.2, k _ [] (Rp.leaf rfl) (by simp)⟩
  · cases e
theorem pop_ne {K : PySem.W.Frag} : POp cl (rNeD K) neD := by
  intro A L H x y u w f1 f2 z Q h1 h2 e k
  unfold neD at e
  obtain ⟨a, e1, e⟩ := Option.bind_eq_some_iff.mp e
  obtain ⟨b, e2, e⟩ := Option.bind_eq_some_iff.mp e
  split at e
  · rename_i hs
    cases e
    exact ⟨a, b, h1.dp e1, h2.dp e2, hs.1, hs.2, k _ [] (Rp.leaf rfl) (by simp)⟩
  · cases e
theorem eqD_kept : ∀ x y z, eqD x y = some z → z.kept = true := by
  intro x y z e
  unfold eqD at e
  obtain ⟨a, e1, e⟩ := Option.bind_eq_some_iff.mp e
  obtain ⟨b, e2, e⟩ := Option.bind_eq_some_iff.mp e
  split at e
  · cases e; rfl
  · cases e
theorem neD_kept : ∀ x y z, neD x y = some z → z.kept = true := by
  intro x y z e
  unfold neD at e
  obtain ⟨a, e1, e⟩ := Option.bind_eq_some_iff.mp e
  obtain ⟨b, e2, e⟩ := Option.bind_eq_some_iff.mp e
  split at e
  · cases e; rfl
  · cases e
/-! ### is None -/
def isND : D → Option D | .v .non => some (.bl true) | .v _ => some (.bl false) | .s _ => some (.bl false) | .n _ _ _ => some (.bl false)
theorem isN_eq {x : D} {u : V} {f1 : List Addr} (h : Rp cl A L H true x u f1) : isND x = some (.bl (decide (u = .non))) := by
  match x, h with
  | .v s, h =>
    obtain ⟨rfl, _, _⟩ := h.leafv
    cases u <;> simp [isND]
  | .s ns, h =>
    obtain ⟨a, rfl, _⟩ := h.scr
    simp [isND]
  | .n k w ds, h =>
    obtain ⟨a, o, vs, fp', rfl, _⟩ := h.node
    simp [isND]
theorem pun_isN : PUn cl (fun x H Q => Q (.bl (decide (x = .non))) H) isND := by
  intro A L H x u f1 z Q h1 e k
  rw [isN_eq h1] at e
  cases e
  exact k _ [] (Rp.leaf rfl) (by simp)
def notND (x : D) : Option D := (isND x).bind notD
theorem pun_notN : PUn cl (fun x H Q => Q (.bl (!decide (x = .non))) H) notND := by
  intro A L H x u f1 z Q h1 e k
  unfold notND at e
  rw [isN_eq h1] at e
  cases e
  exact k _ [] (Rp.leaf rfl) (by simp)
end
end Fs
/-! F5 -/
/-! Statements, loops, comprehensions. -/
namespace Fs
open PySem L2
def Kp (ws : Nat → Bool) (σ σ' : L2.St) : Prop := σ'.length = σ.length ∧ ∀ i, ws i = false → σ'[i]? = σ[i]?
theorem Kp.refl {ws : Nat → Bool} (σ : L2.St) : Kp ws σ σ := ⟨rfl, fun _ _ => rfl⟩
theorem Kp.trans {ws : Nat → Bool} {σ σ' σ'' : L2.St} (a : Kp ws σ σ') (b : Kp ws σ' σ'') : Kp ws σ σ'' := ⟨b.1.trans a.1, fun i h => (b.2 i h).trans (a.2 i h)⟩
theorem Kp.set {ws : Nat → Bool} {σ : L2.St} {i : Nat} {x : Option V} (h : ws i = true) : Kp ws σ (σ.set i x) := ⟨List.length_set, fun k hk => by
  have ne : i ≠ k := fun e => by rw [e, hk] at h; cases h
  rw [List.getElem?_set_ne ne]⟩
section
variable (cl : Ec) (xf : Nat → List Str) (W : WX) (ws : Nat → Bool)
def PostS (o : Out Flow) (A L B : Addr → Prop) (H : Hp) (σ : L2.St) (E : Ends) : Prop := match o with
  | .ok .nx δ' => ∀ A' H' σ', Nx A B H A' H' → Kp ws σ σ' → Jt false cl A' L B H' [] [] δ' σ' → E.nx σ' H'
  | .ok .bk δ' => ∀ A' H' σ', Nx A B H A' H' → Kp ws σ σ' → Jt false cl A' L B H' [] [] δ' σ' → E.bk σ' H'
  | .ok .ct δ' => ∀ A' H' σ', Nx A B H A' H' → Kp ws σ σ' → Jt false cl A' L B H' [] [] δ' σ' → E.ct σ' H'
  | .ok (.rt d) δ' => ∀ v A' H' σ', Nx A B H A' H' → Kp ws σ σ' → Jt false cl A' L B H' [d] [v] δ' σ' → E.rt v H'
  | .exc c xs δ' => ∀ d vs A' H' σ', Nx A B H A' H' → Kp ws σ σ' → XAt xf A' H' c vs d → Jt false cl A' L B H' xs vs δ' σ' → W (.ref (cl.c c)) d σ' H'
  | .bad => False
def SS (ts : TS) (ds : DS) : Prop := ∀ A L B H δ σ E, Jt false cl A L B H [] [] δ σ → PostS cl xf W ws (ds δ) A L B H σ E → ts E σ H
/-- a target -/
def SG (g : TG) (tg : D → Sl → Option Sl) : Prop := ∀ p A L B H δ δ' σ d v Q, Jt p cl A L B H [d] [v] δ σ → tg d δ = some δ' → (∀ σ', Kp ws σ σ' → Jt p cl A L B H [] [] δ' σ' → Q σ' H) → g v σ H Q
end
section
variable {cl : Ec} {xf : Nat → List Str} {W : WX} {ws : Nat → Bool} {A A' L B : Addr → Prop} {H H' : Hp} {δ δ' : Sl} {σ σ' : L2.St} {p q b : Bool} {te ta tb tc : TE} {tA : TA} {tt tu : TT} {t u : TS}
theorem PostS.step {o : Out Flow} {E : Ends} (h : PostS cl xf W ws o A L B H σ E) (n : Nx A B H A' H') (k : Kp ws σ σ') : PostS cl xf W ws o A' L B H' σ' E := by
  cases o with
  | bad => exact h
  | exc c xs s => exact fun d vs A2 H2 σ2 n2 k2 => h d vs A2 H2 σ2 (n.trans n2) (k.trans k2)
  | ok f s =>
    cases f with
    | nx => exact fun A2 H2 σ2 n2 k2 => h A2 H2 σ2 (n.trans n2) (k.trans k2)
    | bk => exact fun A2 H2 σ2 n2 k2 => h A2 H2 σ2 (n.trans n2) (k.trans k2)
    | ct => exact fun A2 H2 σ2 n2 k2 => h A2 H2 σ2 (n.trans n2) (k.trans k2)
    | rt d => exact fun v A2 H2 σ2 n2 k2 => h v A2 H2 σ2 (n.trans n2) (k.trans k2)
theorem PostS.under {o : Out Flow} {E : Ends} {B' : Addr → Prop} (h : PostS cl xf W ws o A L B H σ E) (hb : ∀ a, B a → B' a) (lb : ∀ a, L a → B a) : PostS cl xf W ws o A L B' H σ E := by
  cases o with
  | bad => exact h
  | exc c xs s => exact fun d vs A2 H2 σ2 n2 k2 x j => h d vs A2 H2 σ2 (n2.weak hb) k2 x (j.lower hb lb)
  | ok f s =>
    cases f with
    | nx => exact fun A2 H2 σ2 n2 k2 j => h A2 H2 σ2 (n2.weak hb) k2 (j.lower hb lb)
    | bk => exact fun A2 H2 σ2 n2 k2 j => h A2 H2 σ2 (n2.weak hb) k2 (j.lower hb lb)
    | ct => exact fun A2 H2 σ2 n2 k2 j => h A2 H2 σ2 (n2.weak hb) k2 (j.lower hb lb)
    | rt d => exact fun v A2 H2 σ2 n2 k2 j => h v A2 H2 σ2 (n2.weak hb) k2 (j.lower hb lb)
/-- a statement that evaluates something first -/
theorem PostS.bind {α : Type} {o : Out α} {f : α → Sl → Out Flow} {E : Ends} {den0 : α → List D} {Q0 : α → List V → Hp → Prop} (h : PostS cl xf W ws (o.bind f) A L B H σ E)
    (k : ∀ a δ1 vs A' H', o = .ok a δ1 → Nx A B H A' H' → Jt false cl A' L B H' (den0 a) vs δ1 σ → PostS cl xf W ws (f a δ1) A L B H σ E → Q0 a vs H') : Post cl xf W false o den0 A L B H σ Q0 := by
  cases o with
  | ok a s => exact fun vs A' H' n j => k a s vs A' H' rfl n j h
  | exc c xs s => exact fun d vs A' H' n x j => h d vs A' H' σ n (Kp.refl σ) x j
  | bad => exact h
def dsNext : DS := fun δ => .ok .nx δ
def dsSeq (a b : DS) : DS := fun δ => (a δ).bind fun f δ1 => match f with | .nx => b δ1 | f => .ok f δ1
theorem ss_next : SS cl xf W ws tNext dsNext := fun A L B H δ σ E j k => k A H σ (Nx.refl j.ba) (Kp.refl σ) j
theorem ss_seq {a b : DS} (ha : SS cl xf W ws t a) (hb : SS cl xf W ws u b) : SS cl xf W ws (tSeq t u) (dsSeq a b) := fun A L B H δ σ E j k => by
  refine ha A L B H δ σ _ j ?_
  unfold dsSeq at k
  cases e : a δ with
  | bad => rw [e] at k; exact k
  | exc c xs s => rw [e] at k; exact k
  | ok f s =>
    rw [e] at k
    simp only [Out.bind] at k
    cases f with
    | nx => exact fun A2 H2 σ2 n2 k2 j2 => hb A2 L B H2 s σ2 E j2 (PostS.step k n2 k2)
    | bk => exact k
    | ct => exact k
    | rt d => exact k
theorem Jt.put {d : D} {v : V} {i : Nat} (j : Jt p cl A L B H [d] [v] δ σ) : Jt p cl A L B H [] [] (δ.set i (some d)) (σ.set i (some v)) := by
  by_cases hi : i < δ.length
  · obtain ⟨f, g, h1, h2, h3, h4, h5⟩ := j.ex
    simp only [Rps] at h1
    obtain ⟨u, vs', f1, f2, e, rfl, h6, rfl, rfl⟩ := h1
    cases e
    rw [List.append_nil] at h3 h4
    obtain ⟨g', k1, k2, k3⟩ := h2.put hi h6.weak h3
    refine ⟨⟨[], g', by simp [Rps], k1, by simpa using k2, by simp, fun hp a ha => ?_⟩, j.lb, j.ba, j.ad⟩
    rcases List.mem_append.mp (k3 a ha) with q | q
    · exact h4 a q
    · exact h5 hp a q
  · have hl : δ.length = σ.length := by
      obtain ⟨g, h2, _⟩ := j.drop0
      exact h2.length
    rw [List.set_eq_of_length_le (by omega), List.set_eq_of_length_le (by omega)]
    exact j.drop
theorem Jt.clear {i : Nat} {ts : List D} {vs : List V} (j : Jt p cl A L B H ts vs δ σ) : Jt p cl A L B H ts vs (δ.set i none) σ := by
  obtain ⟨f, g, h1, h2, h3, h4, h5⟩ := j.ex
  have nd := List.nodup_append.mp h3
  obtain ⟨g', k1, k2, k3⟩ := h2.drop (i := i) nd.2.1
  exact ⟨⟨f, g', h1, k1, List.nodup_append.mpr ⟨nd.1, k2, fun a ha c hc => nd.2.2 a ha c (k3 c hc)⟩, h4, fun hp a ha => h5 hp a (k3 a ha)⟩, j.lb, j.ba, j.ad⟩
theorem Jt.blur {i : Nat} {ts : List D} {vs : List V} {x : Option V} (j : Jt p cl A L B H ts vs δ σ) (e : δ[i]? = some none) : Jt p cl A L B H ts vs δ (σ.set i x) := by
  obtain ⟨f, g, h1, h2, h3, h4, h5⟩ := j.ex
  exact ⟨⟨f, g, h1, h2.blur e, h3, h4, h5⟩, j.lb, j.ba, j.ad⟩
def dsAsg (e : DE) (tg : D → Sl → Option Sl) : DS := fun δ => (e δ).bind fun d δ1 => match tg d δ1 with | some δ2 => .ok .nx δ2 | none => .bad
def tgN (i : Nat) : D → Sl → Option Sl := fun d δ => some (δ.set i (some d))
theorem sg_name {i : Nat} (h : ws i = true) : SG cl ws (gName i) (tgN i) := fun p A L B H δ δ' σ d v Q j e k => by
  cases e
  exact k _ (Kp.set h) j.put
theorem ss_asg {e : DE} {g : TG} {tg : D → Sl → Option Sl} (he : SE cl xf W false te e) (hg : SG cl ws g tg) : SS cl xf W ws (tAsg te g) (dsAsg e tg) := fun A L B H δ σ E j k => by
  refine he.run A L B H δ σ _ j (PostS.bind k fun d δ1 vs A1 H1 e1 n1 j1 k1 v ev => ?_)
  subst ev
  split at k1
  · rename_i δ2 e2
    exact hg false A1 L B H1 δ1 δ2 σ d v _ j1 e2 fun σ' kp j2 => k1 A1 H1 σ' n1 kp j2
  · exact k1.elim
/-- several names -/
def tgs : List (D → Sl → Option Sl) → List D → Sl → Option Sl
  | [], [], δ => some δ
  | t :: ts, d :: ds, δ => (t d δ).bind fun δ1 => tgs ts ds δ1
  | _, _, _ => none
def tgT (ts : List (D → Sl → Option Sl)) : D → Sl → Option Sl
  | .n .tup .shr ds, δ => if ds.all D.kept = true ∧ ds.length = ts.length then tgs ts ds δ else none
  | _, _ => none
/-- the targets within -/
def SGs (cl : Ec) (ws : Nat → Bool) (g : TGs) (ts : List (D → Sl → Option Sl)) : Prop := ∀ p A L B H δ δ' σ ds vs Q, Jt p cl A L B H [] [] δ σ → Rps cl A L H false ds vs [] → tgs ts ds δ = some δ' → (∀ σ', Kp ws σ σ' → Jt p cl A L B H [] [] δ' σ' → Q σ' H) → g vs σ H Q
theorem sgs_nil : SGs cl ws gNil [] := fun p A L B H δ δ' σ ds vs Q j h e k => by
  match ds, e with
  | [], e =>
    simp only [tgs, Option.some.injEq] at e
    subst e
    simp only [Rps] at h
    exact ⟨h.1, k σ (Kp.refl σ) j⟩
theorem sgs_cons {g : TG} {gs : TGs} {t : D → Sl → Option Sl} {ts : List (D → Sl → Option Sl)} (h1 : SG cl ws g t) (h2 : SGs cl ws gs ts) : SGs cl ws (gCons g gs) (t :: ts) := fun p A L B H δ δ' σ ds vs Q j h e k => by
  match ds, e with
  | d :: ds, e =>
    simp only [tgs] at e
    obtain ⟨δ1, e1, e2⟩ := Option.bind_eq_some_iff.mp e
    simp only [Rps] at h
    obtain ⟨v, vs', f1, f2, rfl, e3, h3, h4⟩ := h
    have e3 := List.append_eq_nil_iff.mp e3.symm
    obtain ⟨rfl, rfl⟩ := e3
    refine ⟨v, vs', rfl, ?_⟩
    have j1 : Jt p cl A L B H [d] [v] δ σ := by
      obtain ⟨g0, k2, k3, k5⟩ := j.drop0
      exact ⟨⟨[], g0, by simp only [Rps]; exact ⟨v, [], [], [], rfl, rfl, h3, rfl, rfl⟩, k2, by simpa using k3, by simp, k5⟩, j.lb, j.ba, j.ad⟩
    exact h1 p A L B H δ δ1 σ d v _ j1 e1 fun σ1 kp j2 => h2 p A L B H δ1 δ' σ1 ds vs' Q j2 h4 e2 fun σ2 kp2 j3 => k σ2 (kp.trans kp2) j3
theorem sg_tup {K : PySem.W.Frag} {g : TGs} {ts : List (D → Sl → Option Sl)} {n : Nat} (hn : n = ts.length) (h : SGs cl ws g ts) : SG cl ws (gTup K n g) (tgT ts) := fun p A L B H δ δ' σ d v Q j e k => by
  unfold tgT at e
  split at e
  · rename_i ds
    split at e
    · rename_i hk
      obtain ⟨u, f1, e0, h1⟩ := j.one
      cases e0
      obtain ⟨a, o, vs, fp', rfl, ho, hs, hr, hf⟩ := h1.node
      cases hs
      refine ⟨a, vs, rfl, SqT.of ho, by rw [← hr.length, hn]; exact hk.2, ?_⟩
      exact h p A L B H δ δ' σ ds vs Q j.drop (hr.keptS hk.1) e k
    · cases e
  · cases e
def dsRet (e : DE) : DS := fun δ => (e δ).bind fun d δ1 => .ok (.rt d) δ1
theorem ss_ret {e : DE} (he : SE cl xf W false te e) : SS cl xf W ws (tRet te) (dsRet e) := fun A L B H δ σ E j k => by
  refine he.run A L B H δ σ _ j (PostS.bind k fun d δ1 vs A1 H1 e1 n1 j1 k1 v ev => ?_)
  subst ev
  exact k1 v A1 H1 σ n1 (Kp.refl σ) j1
def dsRetN : DS := fun δ => .ok (.rt .non) δ
theorem ss_retN : SS cl xf W ws tRetN dsRetN := fun A L B H δ σ E j k => k .non A H σ (Nx.refl j.ba) (Kp.refl σ) (j.leaf rfl)
/-- return x: the thing is handed out as it is -/
def D.free : D → Bool | .n _ .bor _ => false | _ => true
theorem Rp.free {d : D} {v : V} {fp : List Addr} (h : Rp cl A L H b d v fp) (hf : d.free = true) : Rp cl A L H false d v fp := by
  match d, h with
  | .v x, h => simp only [Rp] at h ⊢; exact h
  | .s x, h => simp only [Rp] at h ⊢; exact h
  | .n k .shr ds, h => simp only [Rp] at h ⊢; exact h
  | .n k .own ds, h => simp only [Rp] at h ⊢; exact h
  | .n k .bor ds, h => simp [D.free] at hf
def dMv (i : Nat) : DE := fun δ => match (δ[i]?).join with
  | some d => if d.free then .ok d (δ.set i none) else .bad
  | none => .bad
theorem se_mv {i : Nat} : SE cl xf W false (tVar i) (dMv i) := by
  refine ⟨fun z => (by cases z), fun A L B H δ σ Q j k => ?_⟩
  unfold dMv at k
  split at k
  · rename_i d e
    split at k
    · rename_i hf
      obtain ⟨f, g, h1, h2, h3, h4, h5⟩ := j.ex
      simp only [Rps] at h1
      obtain ⟨_, rfl⟩ := h1
      obtain ⟨v, f1, f2, k1, k2, k3, k4, k5⟩ := h2.take (join_some e) (by simpa using h3)
      refine ⟨v, k1, k [v] A H (Nx.refl j.ba) ⟨⟨f1, f2, ?_, k3, k4, fun a ha => h5 rfl a ((k5 a).mp (List.mem_append_left _ ha)), fun _ a ha => h5 rfl a ((k5 a).mp (List.mem_append_right _ ha))⟩, j.lb, j.ba, j.ad⟩ v rfl⟩
      simp only [Rps]
      exact ⟨v, [], f1, [], rfl, by simp, k2.free hf, rfl, rfl⟩
    · exact k.elim
  · exact k.elim
/-- a name's thing, from now on shared -/
def dFz (i : Nat) : DE := fun δ => match (δ[i]?).join with
  | some d => if d.free then .ok (frz d) (δ.set i (some (frz d))) else .bad
  | none => .bad
theorem set_set_eq {i : Nat} {v : V} (h : σ[i]? = some (some v)) : σ.set i (some v) = σ := by
  obtain ⟨hl, e⟩ := List.getElem?_eq_some_iff.mp h
  rw [← e]
  exact List.set_getElem_self hl
theorem se_fz {i : Nat} : SE cl xf W false (tVar i) (dFz i) := by
  refine ⟨fun z => (by cases z), fun A L B H δ σ Q j k => ?_⟩
  unfold dFz at k
  split at k
  · rename_i d e
    split at k
    · rename_i hf
      obtain ⟨f, g, h1, h2, h3, h4, h5⟩ := j.ex
      simp only [Rps] at h1
      obtain ⟨_, rfl⟩ := h1
      obtain ⟨v, f1, f2, k1, k2, k3, k4, k5⟩ := h2.take (join_some e) (by simpa using h3)
      have j1 : Jt false cl A L B H [d] [v] (δ.set i none) σ := ⟨⟨f1, f2, by simp only [Rps]; exact ⟨v, [], f1, [], rfl, by simp, k2.free hf, rfl, rfl⟩, k3, k4, fun a ha => h5 rfl a ((k5 a).mp (List.mem_append_left _ ha)), fun _ a ha => h5 rfl a ((k5 a).mp (List.mem_append_right _ ha))⟩, j.lb, j.ba, j.ad⟩
      have hk := j1.freezeK
      obtain ⟨A1, n1, j2⟩ := j1.freeze
      simp only [frzs] at j2 hk
      have j3 := j2.put (i := i)
      rw [set_set_eq k1, List.set_set] at j3
      obtain ⟨u, f3, e0, h6⟩ := j2.one
      cases e0
      exact ⟨v, k1, k [v] A1 H n1 (j3.kept (by simpa using hk) h6) v rfl⟩
    · exact k.elim
  · exact k.elim
def dsDrop (e : DE) : DS := fun δ => (e δ).bind fun _ δ1 => .ok .nx δ1
theorem ss_drop {e : DE} (he : SE cl xf W false te e) : SS cl xf W ws (tDrop te) (dsDrop e) := fun A L B H δ σ E j k => by
  refine he.run A L B H δ σ _ j (PostS.bind k fun d δ1 vs A1 H1 e1 n1 j1 k1 v ev => ?_)
  exact k1 A1 H1 σ n1 (Kp.refl σ) j1.drop
def dsIf (c : DT) (a b : DS) : DS := fun δ => (c δ).bind fun x δ1 => match x with | true => a δ1 | false => b δ1
theorem ss_if {c : DT} {a b : DS} (hc : SB cl xf W false tt c) (ha : SS cl xf W ws t a) (hb : SS cl xf W ws u b) : SS cl xf W ws (tIfS tt t u) (dsIf c a b) := fun A L B H δ σ E j k => by
  refine hc.run A L B H δ σ _ j (PostS.bind k fun x δ1 vs A1 H1 e1 n1 j1 k1 => ?_)
  cases x with
  | true => rw [if_pos rfl]; exact ha A1 L B H1 δ1 σ E j1.drop (PostS.step k1 n1 (Kp.refl σ))
  | false => exact hb A1 L B H1 δ1 σ E j1.drop (PostS.step k1 n1 (Kp.refl σ))
def dsBrk : DS := fun δ => .ok .bk δ
def dsCnt : DS := fun δ => .ok .ct δ
theorem ss_brk : SS cl xf W ws tBreak dsBrk := fun A L B H δ σ E j k => k A H σ (Nx.refl j.ba) (Kp.refl σ) j
theorem ss_cnt : SS cl xf W ws tCont dsCnt := fun A L B H δ σ E j k => k A H σ (Nx.refl j.ba) (Kp.refl σ) j
/-! ### what is walked -/
/-- J gives these things in turn, now and as long as what is under B stands -/
def ItOk (cl : Ec) (L B : Addr → Prop) (J : It) (its : List D) (A : Addr → Prop) (H : Hp) : Prop := ∀ A1 H1, Nx A B H A1 H1 → (∀ i, i < its.length → J.go i H1) ∧ (∀ i, its.length ≤ i → J.stop i H1) ∧
  ∀ i x H2 d, its[i]? = some d → J.yld i H1 x H2 → ∀ p B1 δ σ, (∀ a, B a → B1 a) → Jt p cl A1 L B1 H1 [] [] δ σ → ∃ A2, Nx A1 B1 H1 A2 H2 ∧ Jt p cl A2 L B1 H2 [d] [x] δ σ
theorem ItOk.step {J : It} {its : List D} (h : ItOk cl L B J its A H) (n : Nx A B H A' H') : ItOk cl L B J its A' H' := fun A1 H1 n1 => h A1 H1 (n.trans n1)
structure SI (cl : Ec) (xf : Nat → List Str) (W : WX) (p : Bool) (wi : TI) (di : DA) : Prop where
  pure : p = true → ∀ δ, (di δ).same δ
  run : ∀ A L B H δ σ R, Jt p cl A L B H [] [] δ σ → (match di δ with
    | .ok its δ' => ∀ J A' H' B', Nx A B H A' H' → (∀ a, B a → B' a) → Jt p cl A' L B' H' [] [] δ' σ → ItOk cl L B' J its A' H' → R J H'
    | .exc c xs δ' => PostX cl xf W p c xs δ' A L B H σ
    | .bad => False) → wi σ H R
def loop (tg : D → Sl → Option Sl) (body : DS) : List D → Sl → Out Flow
  | [], δ => .ok .nx δ
  | x :: xs, δ => match tg x δ with
    | none => .bad
    | some δ1 => (body δ1).bind fun f δ2 => match f with
      | .nx => loop tg body xs δ2
      | .ct => loop tg body xs δ2
      | .bk => .ok .nx δ2
      | .rt d => .ok (.rt d) δ2
def dsFor (di : DA) (tg : D → Sl → Option Sl) (body : DS) : DS := fun δ => (di δ).bind fun its δ1 => loop tg body its δ1
theorem ss_for {wi : TI} {di : DA} {g : TG} {tg : D → Sl → Option Sl} {body : DS} (hi : SI cl xf W false wi di) (hg : SG cl ws g tg) (hb : SS cl xf W ws t body) : SS cl xf W ws (tFor wi g t) (dsFor di tg body) := fun A L B H δ σ E j k => by
  refine hi.run A L B H δ σ _ j ?_
  unfold dsFor at k
  cases e : di δ with
  | bad => rw [e] at k; exact k
  | exc c xs s => rw [e] at k; exact fun d vs A' H' n x j => k d vs A' H' σ n (Kp.refl σ) x j
  | ok its δ1 =>
    rw [e] at k
    simp only [Out.bind] at k
    intro J A1 H1 B1 n1 hb1 j1 hit
    have k0 : PostS cl xf W ws (loop tg body its δ1) A1 L B1 H1 σ E := (PostS.step k n1 (Kp.refl σ)).under hb1 j.lb
    refine ⟨fun i m σi Hi => ∃ Ai δi, m = its.length - i ∧ i ≤ its.length ∧ ItOk cl L B1 J its Ai Hi ∧ Jt false cl Ai L B1 Hi [] [] δi σi ∧ PostS cl xf W ws (loop tg body (its.drop i) δi) Ai L B1 Hi σi E, ⟨its.length, A1, δ1, by simp, Nat.zero_le _, hit, j1, by rw [List.drop_zero]; exact k0⟩, ?_⟩
    rintro i m σi Hi ⟨Ai, δi, rfl, hi', hit', ji, ki⟩
    have tf := hit' Ai Hi (Nx.refl ji.ba)
    by_cases hlt : i < its.length
    · refine .inr ⟨tf.1 i hlt, fun σ2 H2 => ∃ A2 δ2, ItOk cl L B1 J its A2 H2 ∧ Jt false cl A2 L B1 H2 [] [] δ2 σ2 ∧ PostS cl xf W ws (loop tg body (its.drop (i + 1)) δ2) A2 L B1 H2 σ2 E, fun σ2 H2 ⟨A2, δ2, h1, h2, h3⟩ => ⟨its.length - (i + 1), by omega, A2, δ2, rfl, hlt, h1, h2, h3⟩, fun x H2 hy => ?_⟩
      have ed : its.drop i = its[i] :: its.drop (i + 1) := List.drop_eq_getElem_cons hlt
      rw [ed] at ki
      unfold loop at ki
      obtain ⟨A2, n2, j2⟩ := tf.2.2 i x H2 its[i] (List.getElem?_eq_getElem hlt) hy false B1 δi σi (fun _ h => h) ji
      split at ki
      · exact ki.elim
      · rename_i δ2 e2
        refine hg false A2 L B1 H2 δi δ2 σi its[i] x _ j2 e2 fun σ2 kp2 j3 => ?_
        refine hb A2 L B1 H2 δ2 σ2 _ j3 ?_
        have ki2 := PostS.step ki n2 kp2
        cases e3 : body δ2 with
        | bad => rw [e3] at ki2; exact ki2
        | exc c xs s => rw [e3] at ki2; exact ki2
        | ok f s =>
          rw [e3] at ki2
          simp only [Out.bind] at ki2
          cases f with
          | nx => exact fun A3 H3 σ3 n3 kp3 j4 => ⟨A3, s, (hit'.step n2).step n3, j4, PostS.step ki2 n3 kp3⟩
          | ct => exact fun A3 H3 σ3 n3 kp3 j4 => ⟨A3, s, (hit'.step n2).step n3, j4, PostS.step ki2 n3 kp3⟩
          | bk => exact ki2
          | rt d => exact ki2
    · have ed : its.drop i = [] := List.drop_eq_nil_of_le (by omega)
      rw [ed] at ki
      exact .inl ⟨tf.2.1 i (by omega), ki Ai Hi σi (Nx.refl ji.ba) (Kp.refl σi) ji⟩
end
end Fs
/-! F6 -/
/-! Changing what is owned; comprehensions; what is walked. -/
namespace Fs
open PySem L2
section
variable {cl : Ec} {xf : Nat → List Str} {W : WX} {ws : Nat → Bool} {A A' L B : Addr → Prop} {H H' : Hp} {δ δ' : Sl} {σ σ' : L2.St} {p q b : Bool} {te ta tb tc : TE} {tA : TA} {tt tu : TT} {t u : TS} {ts : List D} {vs : List V}
theorem Jt.seq2 (j : Jt p cl A L B H ts vs δ σ) : ∃ B', Jt p cl A L B' H [] [] δ σ ∧ (∀ a, B a → B' a) ∧
    ∀ A2 H2 us xs δ2 σ2, (p = true → δ2 = δ ∧ σ2 = σ) → Nx A B' H A2 H2 → Jt p cl A2 L B' H2 us xs δ2 σ2 → Jt p cl A2 L B H2 (ts ++ us) (vs ++ xs) δ2 σ2 := by
  cases p with
  | true =>
    refine ⟨A, j.drop.toPure, j.ba, fun A2 H2 us xs δ2 σ2 e n j2 => ?_⟩
    obtain ⟨rfl, rfl⟩ := e rfl
    exact j.backP (f := []) n j2
  | false =>
    obtain ⟨f, h1, h2, h3, h4⟩ := j.hide
    exact ⟨_, h4, fun a h => .inl h, fun A2 H2 us xs δ2 σ2 _ n j2 => Jt.back j h1 h2 h3 j.lb n j2⟩
/-- an owned thing in hand, looked at -/
theorem Jt.look {k : Kd} {ds : List D} {v : V} {ws : List V} (j : Jt p cl A L B H (.n k .own ds :: ts) (v :: ws) δ σ) (hk : ts.all D.kept = true) :
    ∃ a o us f, v = .ref a ∧ H a = some o ∧ Shape cl k us o ∧ Rps cl A L H false ds us f ∧ Rps cl A L H false ts ws [] ∧ f.Nodup ∧
    ∀ k' us' o' ds' f', Shape cl k' us' o' → Rps cl A L H false ds' us' f' → f'.Nodup → (∀ c ∈ f', c ∈ f) → Nx A B H A (upd H a o') ∧ Jt p cl A L B (upd H a o') [.n k' .own ds'] [.ref a] δ σ := by
  obtain ⟨f, g, h1, h2, h3, h4, h5⟩ := j.ex
  simp only [Rps, Rp] at h1
  obtain ⟨v0, vs', f1, f2, e, rfl, ⟨a, o, us, rfl, ho, hs, hA, fp', rfl, hr⟩, h6⟩ := h1
  cases e
  have e2 := kept_all hk h6
  subst e2
  have nd := List.nodup_append.mp h3
  have nd2 := List.nodup_cons.mp (List.nodup_append.mp nd.1).1
  refine ⟨a, o, us, fp', rfl, ho, hs, hr, h6, nd2.2, fun k' us' o' ds' f' s' r' n' c' => ?_⟩
  have nB : ¬ B a := h4 a (by simp)
  have nf : ∀ c ∈ f', c ≠ a := fun c hc e => by subst e; exact nd2.1 (c' c hc)
  have ng : ∀ c ∈ g, c ≠ a := fun c hc e => by subst e; exact nd.2.2 c (by simp) c hc rfl
  have st : ∀ c u, H c = some u → ¬ A c → upd H a o' c = some u ∧ ¬ A c := fun c u h n => ⟨by rw [upd_ne (show c ≠ a from fun e => n (by rw [e]; exact hA))]; exact h, n⟩
  refine ⟨⟨fun c h => .inl h, fun c u h n => (st c u h n).1, fun c h => ⟨upd_ne (show c ≠ a from fun e => nB (by rw [← e]; exact h)), j.ba c h⟩, fun c h => ?_⟩, ⟨⟨a :: f', g, ?_, h2.step st (fun c hc => ⟨upd_ne (ng c hc), (h2.inA c hc).1⟩) (fun c hc => ⟨upd_ne (show c ≠ a from fun e => nB (by rw [← e]; exact j.lb c hc)), hc⟩), ?_, ?_, h5⟩, j.lb, j.ba, fun c h => ?_⟩⟩
  · by_cases e : c = a
    · subst e; rw [upd_same] at h; cases h
    · rw [upd_ne e] at h; exact h
  · simp only [Rps, Rp]
    exact ⟨.ref a, [], a :: f', [], rfl, by simp, ⟨a, o', us', rfl, upd_same, s', hA, f', rfl, r'.step st (fun c hc => ⟨upd_ne (nf c hc), (r'.inA c hc).1⟩) (by simp)⟩, rfl, rfl⟩
  · rw [List.cons_append]
    refine List.nodup_cons.mpr ⟨fun q => ?_, List.nodup_append.mpr ⟨n', nd.2.1, fun c hc d hd => nd.2.2 c (by simp [c' c hc]) d hd⟩⟩
    rcases List.mem_append.mp q with q | q
    · exact nf a q rfl
    · exact ng a q rfl
  · intro c hc
    rcases List.mem_cons.mp hc with rfl | hc
    · exact nB
    · exact h4 c (by simp [c' c hc])
  · by_cases e : c = a
    · subst e; rw [upd_same]; simp
    · rw [upd_ne e]; exact j.ad c h
/-- temporaries behind the first are frozen -/
theorem Jt.freezeTail {d : D} {v : V} {ws : List V} (j : Jt p cl A L B H (d :: ts) (v :: ws) δ σ) : ∃ A', Nx A B H A' H ∧ Jt p cl A' L B H (d :: frzs ts) (v :: ws) δ σ := by
  obtain ⟨f, g, h1, h2, h3, h4, h5⟩ := j.ex
  simp only [Rps] at h1
  obtain ⟨v0, vs', f1, f2, e, rfl, h6, h7⟩ := h1
  cases e
  have nd := List.nodup_append.mp h3
  have nd2 := List.nodup_append.mp nd.1
  refine ⟨fun a => A a ∧ a ∉ f2, ⟨fun a h => .inl h.1, fun a o h _ => h, fun a h => ⟨rfl, j.ba a h, fun q => h4 a (List.mem_append_right _ q) h⟩, fun a h => h⟩, ⟨⟨f1, g, ?_, ?_, ?_, fun a ha => h4 a (List.mem_append_left _ ha), h5⟩, j.lb, fun a h => ⟨j.ba a h, fun q => h4 a (List.mem_append_right _ q) h⟩, fun a h => j.ad a h.1⟩⟩
  · simp only [Rps]
    exact ⟨v, ws, f1, [], rfl, by simp, h6.step (fun a o h n => ⟨h, fun q => n q.1⟩) (fun a ha => ⟨rfl, (h6.inA a ha).1, fun q => nd2.2.2 a ha a q rfl⟩) (by simp), h7.frz (fun a o _ n q => n q.1) (fun a ha q => q.2 ha)⟩
  · exact h2.step (fun a o h n => ⟨h, fun q => n q.1⟩) (fun a ha => ⟨rfl, (h2.inA a ha).1, fun q => nd.2.2 a (List.mem_append_right _ q) a ha rfl⟩) (fun a h => ⟨rfl, h⟩)
  · exact List.nodup_append.mpr ⟨nd2.1, nd.2.1, fun a ha c hc => nd.2.2 a (List.mem_append_left _ ha) c hc⟩
theorem Jt.tailK {d : D} {v : V} {ws : List V} (j : Jt p cl A L B H (d :: ts) (v :: ws) δ σ) : (frzs ts).all D.kept = true := by
  obtain ⟨f, g, h1, h2, h3, h4, h5⟩ := j.ex
  simp only [Rps] at h1
  obtain ⟨v0, vs', f1, f2, e, rfl, h6, h7⟩ := h1
  exact kept_frzs h7
/-- a list in hand grows -/
theorem Jt.push {acc : List D} {y : D} {v w : V} (j : Jt p cl A L B H [.n .lst .own acc, y] [v, w] δ σ) : ∃ D0 us A', v = .ref D0 ∧ H D0 = some (.lst us) ∧ us.length = acc.length ∧ Nx A B H A' (upd H D0 (.lst (us ++ [w]))) ∧ Jt p cl A' L B (upd H D0 (.lst (us ++ [w]))) [.n .lst .own (acc ++ [frz y])] [.ref D0] δ σ := by
  have hk := j.tailK
  obtain ⟨A1, n1, j1⟩ := j.freezeTail
  obtain ⟨a, o, us, f, rfl, ho, hs, hr, ht, nf, hm⟩ := j1.look hk
  cases hs
  have h := hm .lst (us ++ [w]) (.lst (us ++ [w])) (acc ++ [frz y]) (f ++ []) rfl (hr.append (by simpa [frzs] using ht)) (by simpa using nf) (by simp)
  exact ⟨a, us, A1, rfl, ho, hr.length.symm, n1.trans h.1, h.2⟩
/-! ### comprehensions -/
def wipeD (δ : Sl) : List Nat → Sl
  | [] => δ
  | v :: vs => (wipeD δ vs).set v none
theorem wipeD_length (δ : Sl) : ∀ vs : List Nat, (wipeD δ vs).length = δ.length
  | [] => rfl
  | v :: vs => by unfold wipeD; rw [List.length_set, wipeD_length δ vs]
theorem wipeD_get (δ : Sl) (i : Nat) : ∀ vs : List Nat, (wipeD δ vs)[i]? = if i ∈ vs then (if i < δ.length then some none else none) else δ[i]?
  | [] => by simp [wipeD]
  | v :: vs => by
    unfold wipeD
    by_cases e : v = i
    · subst e
      rw [if_pos (List.mem_cons_self)]
      by_cases h : v < δ.length
      · rw [if_pos h, List.getElem?_set_self (by rw [wipeD_length]; exact h)]
      · rw [if_neg h]
        exact List.getElem?_eq_none_iff.mpr (by rw [List.length_set, wipeD_length]; omega)
    · rw [List.getElem?_set_ne e, wipeD_get δ i vs]
      by_cases h : i ∈ vs
      · rw [if_pos h, if_pos (List.mem_cons_of_mem _ h)]
      · rw [if_neg h, if_neg (fun q => (List.mem_cons.mp q).elim (fun z => e z.symm) h)]
theorem wipe_get (σ : L2.St) (i : Nat) : ∀ vs : List Nat, (wipe σ vs)[i]? = if i ∈ vs then (if i < σ.length then some none else none) else σ[i]?
  | [] => by simp [wipe]
  | v :: vs => by
    unfold wipe
    by_cases e : v = i
    · subst e
      rw [if_pos (List.mem_cons_self)]
      by_cases h : v < σ.length
      · rw [if_pos h, List.getElem?_set_self (by rw [wipe_length]; exact h)]
      · rw [if_neg h]
        exact List.getElem?_eq_none_iff.mpr (by rw [List.length_set, wipe_length]; omega)
    · rw [List.getElem?_set_ne e, wipe_get σ i vs]
      by_cases h : i ∈ vs
      · rw [if_pos h, if_pos (List.mem_cons_of_mem _ h)]
      · rw [if_neg h, if_neg (fun q => (List.mem_cons.mp q).elim (fun z => e z.symm) h)]
theorem wipeD_idem (δ : Sl) (vs : List Nat) : wipeD (wipeD δ vs) vs = wipeD δ vs := List.ext_getElem? fun i => by
  rw [wipeD_get, wipeD_get, wipeD_length]
  split <;> rfl
theorem wipe_idem (σ : L2.St) (vs : List Nat) : wipe (wipe σ vs) vs = wipe σ vs := List.ext_getElem? fun i => by
  rw [wipe_get, wipe_get, wipe_length]
  split <;> rfl
theorem wipe_kp {vs : List Nat} (k : Kp (fun i => vs.contains i) σ σ') : wipe σ' vs = wipe σ vs := List.ext_getElem? fun i => by
  rw [wipe_get, wipe_get, k.1]
  split
  · rfl
  · rename_i h
    exact k.2 i (by simpa using h)
theorem Jt.wipe (j : Jt p cl A L B H ts vs δ σ) : ∀ ns : List Nat, Jt p cl A L B H ts vs (wipeD δ ns) (L2.wipe σ ns)
  | [] => j
  | n :: ns => by
    have h := (j.wipe ns).clear (i := n)
    unfold wipeD L2.wipe
    by_cases hl : n < (wipeD δ ns).length
    · exact h.blur (by rw [List.getElem?_set_self hl])
    · have e : (L2.wipe σ ns).length ≤ n := by
        obtain ⟨g, h2, _⟩ := (j.wipe ns).drop0
        have := h2.length
        omega
      rw [List.set_eq_of_length_le e]
      exact h
/-- a target touches these slots alone -/
def TgIn (vs : List Nat) (tg : D → Sl → Option Sl) : Prop := ∀ d δ δ', tg d δ = some δ' → wipeD δ' vs = wipeD δ vs
theorem tgIn_name {i : Nat} {vs : List Nat} (h : i ∈ vs) : TgIn vs (tgN i) := fun d δ δ' e => by
  cases e
  refine List.ext_getElem? fun k => ?_
  rw [wipeD_get, wipeD_get, List.length_set]
  split
  · rfl
  · rename_i hk
    exact List.getElem?_set_ne (fun e => hk (by rw [← e]; exact h))
theorem tgIn_tgs {vs : List Nat} : ∀ {ts : List (D → Sl → Option Sl)}, (∀ t ∈ ts, TgIn vs t) → ∀ (ds : List D) (δ δ' : Sl), tgs ts ds δ = some δ' → wipeD δ' vs = wipeD δ vs
  | [], _, [], δ, δ', e => by simp only [tgs, Option.some.injEq] at e; rw [e]
  | [], _, _ :: _, δ, δ', e => by simp [tgs] at e
  | t :: ts, _, [], δ, δ', e => by simp [tgs] at e
  | t :: ts, h, d :: ds, δ, δ', e => by
    simp only [tgs] at e
    obtain ⟨δ1, e1, e2⟩ := Option.bind_eq_some_iff.mp e
    rw [tgIn_tgs (fun t ht => h t (List.mem_cons_of_mem _ ht)) ds δ1 δ' e2, h t List.mem_cons_self d δ δ1 e1]
theorem tgIn_tup {vs : List Nat} {ts : List (D → Sl → Option Sl)} (h : ∀ t ∈ ts, TgIn vs t) : TgIn vs (tgT ts) := fun d δ δ' e => by
  unfold tgT at e
  split at e
  · split at e
    · exact tgIn_tgs h _ δ δ' e
    · cases e
  · cases e
def noX {α : Type} : Out α → Out α
  | .ok a s => .ok a s
  | _ => .bad
theorem noX_ok {α : Type} {a : α} {s : Sl} : noX (.ok a s) = .ok a s := rfl
theorem bind_ok {α β : Type} {a : α} {s : Sl} {f : α → Sl → Out β} : (Out.ok a s).bind f = f a s := rfl
def comp (vs : List Nat) (tg : D → Sl → Option Sl) (tst : DT) (elt : DE) : List D → List D → Sl → Out (List D)
  | [], acc, δ => .ok acc δ
  | x :: xs, acc, δ => match tg x δ with
    | none => .bad
    | some δ1 => (noX (tst δ1)).bind fun b δ2 => match b with
      | true => (noX (elt δ2)).bind fun y δ3 => if acc.length < 100000 then comp vs tg tst elt xs (acc ++ [frz y]) (wipeD δ3 vs) else .bad
      | false => comp vs tg tst elt xs acc (wipeD δ2 vs)
/-- [elt for tg in its if tst]; keep: the state stays (a pure one) -/
def dComp (keep : Bool) (vs : List Nat) (di : DA) (tg : D → Sl → Option Sl) (tst : DT) (elt : DE) : DE := fun δ => (di δ).bind fun its δ1 => (comp vs tg tst elt its [] (wipeD δ1 vs)).bind fun acc δ2 => .ok (.n .lst .own acc) (if keep then δ1 else δ2)
abbrev W0 : WX := fun _ _ _ _ => False
theorem Jt.unwipe : ∀ {ns : List Nat} {σ : L2.St}, wipeD δ ns = δ → Jt p cl A L B H ts vs δ (L2.wipe σ ns) → Jt p cl A L B H ts vs δ σ := by
  intro ns
  have key : ∀ (ms : List Nat) (σ : L2.St), (∀ n ∈ ms, n ∈ ns) → wipeD δ ns = δ → Jt p cl A L B H ts vs δ (L2.wipe σ ms) → Jt p cl A L B H ts vs δ σ := by
    intro ms
    induction ms with
    | nil => intro σ _ _ j; exact j
    | cons n ms ih =>
      intro σ hm hw j
      refine ih σ (fun k hk => hm k (List.mem_cons_of_mem _ hk)) hw ?_
      unfold L2.wipe at j
      by_cases hl : n < (L2.wipe σ ms).length
      · have hd : δ[n]? = some none := by
          have e := wipeD_get δ n ns
          rw [hw, if_pos (hm n List.mem_cons_self)] at e
          rw [e, if_pos]
          obtain ⟨g, h2, _⟩ := j.drop0
          have := h2.length
          rw [List.length_set] at this
          omega
        have j2 := j.blur (x := (L2.wipe σ ms)[n]) hd
        rw [List.set_set, List.set_getElem_self hl] at j2
        exact j2
      · rw [List.set_eq_of_length_le (by omega)] at j
        exact j
  intro σ hw j
  exact key ns σ (fun _ h => h) hw j
theorem Post.w0 {α : Type} {o : Out α} {den : α → List D} {Q : α → List V → Hp → Prop} (hb : noX o ≠ .bad) (h : ∀ a s, o = .ok a s → ∀ vs A' H', Nx A B H A' H' → Jt p cl A' L B H' (den a) vs s σ → Q a vs H') : Post cl xf W0 p o den A L B H σ Q := by
  cases o with
  | ok a s => exact h a s rfl
  | exc c xs s => exact absurd rfl hb
  | bad => exact absurd rfl hb
theorem comp_noexc {ns : List Nat} {tg : D → Sl → Option Sl} {tst : DT} {elt : DE} : ∀ (its acc : List D) (δ : Sl) (c : Nat) (xs : List D) (s : Sl), comp ns tg tst elt its acc δ ≠ .exc c xs s := by
  intro its
  induction its with
  | nil => intro acc δ c xs s h; cases h
  | cons x its ih =>
    intro acc δ c xs s h
    unfold comp at h
    split at h
    · cases h
    · rename_i δ2 _
      cases h3 : tst δ2 with
      | bad => rw [h3] at h; cases h
      | exc c2 xs2 s2 => rw [h3] at h; cases h
      | ok b s2 =>
        rw [h3, noX_ok, bind_ok] at h
        cases b with
        | false => exact ih _ _ _ _ _ h
        | true =>
          simp only at h
          cases h4 : elt s2 with
          | bad => rw [h4] at h; cases h
          | exc c3 xs3 s3 => rw [h4] at h; cases h
          | ok y s3 =>
            rw [h4, noX_ok, bind_ok] at h
            split at h
            · exact ih _ _ _ _ _ h
            · cases h
theorem comp_run {wi : TI} {di : DA} {g : TG} {tg : D → Sl → Option Sl} {tst : DT} {elt : DE} {ns : List Nat} (hi : SI cl xf W p wi di) (hg : SG cl (fun i => ns.contains i) g tg) (hin : TgIn ns tg) (ht : SB cl xf W0 p tt tst) (he : SE cl xf W0 p te elt)
    {Q : VK} (j : Jt p cl A L B H [] [] δ σ) (k : match di δ with
      | .ok its δ1 => (match comp ns tg tst elt its [] (wipeD δ1 ns) with
        | .ok acc δ2 => ∀ D0 A' H', Nx A B H A' H' → Jt p cl A' L B H' [.n .lst .own acc] [.ref D0] δ2 (L2.wipe σ ns) → wipeD δ2 ns = δ2 → Q (.ref D0) H'
        | _ => False)
      | .exc c xs δ' => PostX cl xf W p c xs δ' A L B H σ
      | .bad => False) : tLc wi g tt te ns σ H Q := by
  refine hi.run A L B H δ σ _ j ?_
  cases e : di δ with
  | bad => rw [e] at k; exact k
  | exc c xs s => rw [e] at k; exact k
  | ok its δ1 =>
    rw [e] at k
    simp only at k
    intro J A1 H1 B1 n1 hb1 j1 hit D0 hD
    obtain ⟨n2, j2⟩ := (j1.wipe ns).alloc (k := .lst) (o := .lst []) hD rfl
    let Fin : Out (List D) → Prop := fun o => match o with
      | .ok acc δ2 => ∀ A' H', Nx A1 B1 H1 A' H' → Jt p cl A' L B1 H' [.n .lst .own acc] [.ref D0] δ2 (L2.wipe σ ns) → wipeD δ2 ns = δ2 → Q (.ref D0) H'
      | _ => False
    have k0 : Fin (comp ns tg tst elt its [] (wipeD δ1 ns)) := by
      revert k
      cases comp ns tg tst elt its [] (wipeD δ1 ns) with
      | bad => exact id
      | exc c xs s => exact id
      | ok acc δ2 => exact fun k A' H' n' j' w' => k D0 A' H' (n1.trans (n'.weak hb1)) (j'.lower hb1 j.lb) w'
    refine ⟨fun i m Hi => ∃ Ai acc δi, m = its.length - i ∧ i ≤ its.length ∧ ItOk cl L B1 J its Ai Hi ∧ Nx A1 B1 H1 Ai Hi ∧ wipeD δi ns = δi ∧ Jt p cl Ai L B1 Hi [.n .lst .own acc] [.ref D0] δi (L2.wipe σ ns) ∧ Fin (comp ns tg tst elt (its.drop i) acc δi),
      ⟨its.length, _, [], _, by simp, Nat.zero_le _, hit.step n2, n2, wipeD_idem _ _, j2, by rw [List.drop_zero]; exact k0⟩, ?_⟩
    rintro i m Hi ⟨Ai, acc, δi, rfl, hi', hit', ni, wi', ji, ki⟩
    have tf := hit' Ai Hi (Nx.refl ji.ba)
    by_cases hlt : i < its.length
    · refine .inr ⟨tf.1 i hlt, fun H2 => ∃ A2 acc2 δ2, ItOk cl L B1 J its A2 H2 ∧ Nx A1 B1 H1 A2 H2 ∧ wipeD δ2 ns = δ2 ∧ Jt p cl A2 L B1 H2 [.n .lst .own acc2] [.ref D0] δ2 (L2.wipe σ ns) ∧ Fin (comp ns tg tst elt (its.drop (i + 1)) acc2 δ2),
        fun H2 ⟨A2, acc2, δ2, h1, h2, h3, h4, h5⟩ => ⟨its.length - (i + 1), by omega, A2, acc2, δ2, rfl, hlt, h1, h2, h3, h4, h5⟩, fun x H2 hy => ?_⟩
      have ed : its.drop i = its[i] :: its.drop (i + 1) := List.drop_eq_getElem_cons hlt
      rw [ed] at ki
      unfold comp at ki
      obtain ⟨B2, j3, hb2, hj⟩ := ji.seq2
      obtain ⟨A2, n3, j4⟩ := tf.2.2 i x H2 its[i] (List.getElem?_eq_getElem hlt) hy p B2 δi _ hb2 j3
      cases etg : tg its[i] δi with
      | none => rw [etg] at ki; exact ki.elim
      | some δ2 =>
        rw [etg] at ki
        simp only at ki
        refine hg p A2 L B2 H2 δi δ2 _ its[i] x _ j4 etg fun σ2 kp2 j5 => ⟨(wipe_kp kp2).trans (wipe_idem _ _), ?_⟩
        have hw2 : wipeD δ2 ns = δi := (hin _ _ _ etg).trans wi'
        have hb3 : noX (tst δ2) ≠ .bad := fun z => by rw [z] at ki; exact ki
        refine ht.run A2 L B2 H2 δ2 σ2 _ j5 (Post.w0 hb3 fun b δ3 e3 vs3 A3 H3 n4 j6 => ?_)
        rw [e3, noX_ok, bind_ok] at ki
        have hs3 : p = true → δ3 = δ2 := fun hp => by have := ht.pure hp δ2; rw [e3] at this; exact this
        cases b with
        | false =>
          rw [if_neg (by simp)]
          simp only at ki
          have j7 := j6.drop.wipe ns
          rw [(wipe_kp kp2).trans (wipe_idem _ _)] at j7
          have n5 := n3.trans n4
          have j8 := hj A3 H3 [] [] _ _ (fun hp => ⟨by rw [hs3 hp]; exact hw2, rfl⟩) n5 j7
          exact ⟨A3, acc, wipeD δ3 ns, (hit'.step (n5.weak hb2)), ni.trans (n5.weak hb2), wipeD_idem _ _, j8, ki⟩
        | true =>
          rw [if_pos rfl]
          simp only at ki
          have hb4 : noX (elt δ3) ≠ .bad := fun z => by rw [z] at ki; exact ki
          refine he.run A3 L B2 H3 δ3 σ2 _ j6.drop (Post.w0 hb4 fun y δ4 e4 vs4 A4 H4 n5 j7 v ev => ?_)
          subst ev
          rw [e4, noX_ok, bind_ok] at ki
          have hs4 : p = true → δ4 = δ3 := fun hp => by have := he.pure hp δ3; rw [e4] at this; exact this
          have j8 := j7.wipe ns
          rw [(wipe_kp kp2).trans (wipe_idem _ _)] at j8
          have n6 := (n3.trans n4).trans n5
          have j9 := hj A4 H4 [y] [v] _ _ (fun hp => ⟨by rw [hs4 hp, hs3 hp]; exact hw2, rfl⟩) n6 j8
          obtain ⟨a, us, A5, ea, h1, h2, n7, j10⟩ := j9.push
          cases ea
          split at ki
          · rename_i hl
            exact ⟨us, h1, by rw [h2]; exact sz_lt hl, A5, acc ++ [frz y], wipeD δ4 ns, (hit'.step (n6.weak hb2)).step n7, (ni.trans (n6.weak hb2)).trans n7, wipeD_idem _ _, j10, ki⟩
          · exact ki.elim
    · have ed : its.drop i = [] := List.drop_eq_nil_of_le (by omega)
      rw [ed] at ki
      exact .inl ⟨tf.2.1 i (by omega), ki Ai Hi ni ji wi'⟩
theorem Jt.ofPure2 {d : List D} {v : List V} {δ2 : Sl} {σ2 : L2.St} (j0 : Jt p cl A L B H [] [] δ σ) (x : Nx A A H A' H') (j : Jt true cl A' L A H' d v δ2 σ2) : Jt p cl A' L B H' d v δ σ := by
  obtain ⟨f0, g, h1, h2, h3, h4, h5⟩ := j0.ex
  obtain ⟨f2, g2, k1, k2, k3, k4, k5⟩ := j.ex
  have nd2 := List.nodup_append.mp k3
  have nd := List.nodup_append.mp h3
  have gA : ∀ a ∈ g, A a := fun a ha => (h2.inA a ha).1
  refine ⟨⟨f2, g, k1, h2.step x.both (fun a ha => x.prot a (gA a ha)) (fun a h => ⟨(x.prot a (j0.ba a (j0.lb a h))).1, h⟩), List.nodup_append.mpr ⟨nd2.1, nd.2.1, fun a ha c hc e => ?_⟩, fun a ha q => k4 a ha (j0.ba a q), fun hp a ha => h5 hp a ha⟩, j0.lb, fun a h => (x.prot a (j0.ba a h)).2, j.ad⟩
  subst e
  exact k4 a ha (gA a hc)
theorem se_comp {wi : TI} {di : DA} {g : TG} {tg : D → Sl → Option Sl} {tst : DT} {elt : DE} {ns : List Nat} (hi : SI cl xf W false wi di) (hg : SG cl (fun i => ns.contains i) g tg) (hin : TgIn ns tg) (ht : SB cl xf W0 false tt tst) (he : SE cl xf W0 false te elt) :
    SE cl xf W false (tLc wi g tt te ns) (dComp false ns di tg tst elt) := by
  refine ⟨fun z => (by cases z), fun A L B H δ σ Q j k => comp_run hi hg hin ht he j ?_⟩
  unfold dComp at k
  cases e : di δ with
  | bad => rw [e] at k; exact k
  | exc c xs s => rw [e] at k; exact k
  | ok its δ1 =>
    rw [e] at k
    simp only [Out.bind] at k ⊢
    revert k
    cases e2 : comp ns tg tst elt its [] (wipeD δ1 ns) with
    | bad => exact id
    | exc c xs s => exact fun k => absurd e2 (comp_noexc _ _ _ _ _ _)
    | ok acc δ2 => exact fun k D0 A' H' n' j' w' => k [.ref D0] A' H' n' (j'.unwipe w') _ rfl
theorem se_compP {wi : TI} {di : DA} {g : TG} {tg : D → Sl → Option Sl} {tst : DT} {elt : DE} {ns : List Nat} (hi : SI cl xf W true wi di) (hg : SG cl (fun i => ns.contains i) g tg) (hin : TgIn ns tg) (ht : SB cl xf W0 true tt tst) (he : SE cl xf W0 true te elt) :
    SE cl xf W true (tLc wi g tt te ns) (dComp true ns di tg tst elt) := by
  refine ⟨fun _ δ => Out.same_bind (hi.pure rfl δ) fun its => ?_, fun A L B H δ σ Q j k => comp_run hi hg hin ht he j.toPure ?_⟩
  · cases e2 : comp ns tg tst elt its [] (wipeD δ ns) with
    | bad => trivial
    | exc c xs s =>
      exact absurd e2 (comp_noexc _ _ _ _ _ _)
    | ok acc δ2 => rfl
  · unfold dComp at k
    have hs := hi.pure rfl δ
    cases e : di δ with
    | bad => rw [e] at k; exact k
    | exc c xs s =>
      rw [e] at k hs
      cases (show s = δ from hs)
      exact fun d vs A' H' n x j2 => k d vs A' H' (n.weak j.ba) x (j.ofPure n j2)
    | ok its δ1 =>
      rw [e] at k hs
      cases (show δ1 = δ from hs)
      simp only [Out.bind] at k ⊢
      revert k
      cases e2 : comp ns tg tst elt its [] (wipeD δ ns) with
      | bad => exact id
      | exc c xs s => exact fun k => absurd e2 (comp_noexc _ _ _ _ _ _)
      | ok acc δ2 => exact fun k D0 A' H' n' j' w' => k [.ref D0] A' H' (n'.weak j.ba) (j.ofPure2 n' j') _ rfl
end
end Fs
/-! G0 -/
set_option maxHeartbeats 2000000
/-! What a def promises where no display of a container is under way: needed for repr. -/
namespace Fs
open PySem PySem.Spec PyProof.Rows L2
/-- room for calls, and no repr under way -/
structure RoomG (k : Nat) (A : Around) : Prop where
  r : Room k A
  g : A.guards = some []
theorem RoomG.mono {j k : Nat} {A : Around} (x : RoomG k A) (h : j ≤ k) : RoomG j A := ⟨x.r.mono h, x.g⟩
theorem RoomG.units {k : Nat} {A : Around} (x : RoomG k A) : A.units + 64 < cLine := x.r.units
theorem RoomG.un {k : Nat} {A : Around} (x : RoomG k A) : A.units + 16 * k + 200 < cLine := x.r.un
theorem RoomG.make {k : Nat} {A : Around} (x : RoomG (k + 1) A) (C : Addr) (us : List Value) (kw : List (Str × Value)) : RoomG k (A.under (.builtin "type.__call__" ⟨.ref C :: us, kw⟩)) := ⟨x.r.make C us kw, by
  have e : (Code.builtin "type.__call__" ⟨.ref C :: us, kw⟩).guards = [] := rfl
  simp [Around.under, e, pushGuards, x.g]⟩
theorem huG {k : Nat} {A : Around} (x : RoomG k A) : A.units + 1 < cLine := by have := x.r.un; omega
/-- the promise -/
structure FnG (P : Program) (w : World) (K : PySem.W.Frag) (mg : Str → Option Value) (base : Heap) (CX : CXT) (k : Nat) (f : Addr) (fd : FuncData) (ps : List Str) (sp : Sp) : Prop where
  len : ∀ xs H Q E, sp xs H Q E → xs.length = ps.length
  go : ∀ A outer s H args us xs Q E, RoomG k A → Env0 P w K mg base A outer s H → BindsTo s fd args (ps.zip us) → Vals xs us → sp xs H Q E → codeAny (model P w) A (.call (.ref f) args) (CR CX outer P w H s Q E) s
theorem FnOk.g {P : Program} {w : World} {K : PySem.W.Frag} {mg : Str → Option Value} {base : Heap} {CX : CXT} {k : Nat} {f : Addr} {fd : FuncData} {ps : List Str} {sp : Sp} (F : FnOk P w K mg base CX k f fd ps sp) : FnG P w K mg base CX k f fd ps sp :=
  ⟨F.len, fun A outer s H args us xs Q E x e b v q => F.run A outer s H args us xs Q E x.r e b v q⟩
/-- a def's rule -/
theorem fnG {P : Program} {w : World} {K : PySem.W.Frag} {mg : Str → Option Value} {base : Heap} {x qual : Str} {params : Arguments} {body : List Stmt} {scope : Scope} {dvs : List V} {kws : List (Str × V)} {f : Addr} {fd : FuncData} {CX : CXT} {N ps : List Str} {k : Nat} {sp : Sp} (D : FunD K x qual params body scope dvs kws f fd) (S : FnScope N ps scope) (ln : ∀ xs H Q E, sp xs H Q E → xs.length = ps.length)
    (bd : ∀ cdv A outer s H xs Q E, RoomG k (A.deeper (envOfC qual scope s.heap.objs.size f cdv)) → sp xs H Q E → ∃ t, PSs (cxOf CX P w K mg base N qual scope f cdv A outer s H E) body t ∧ t { nx := fun _ G => Q .non G, rt := Q } (start N xs) H) : FnG P w K mg base CX (k + 1) f fd ps sp := by
  obtain ⟨oc, od, dV, kV, doc, pm, an, cdv, ct, osl, rfl, lk, hcd, _, _⟩ := D.ex
  refine ⟨ln, fun A outer s H args us xs Q E room at0 bnd rel want => ?_⟩
  have inK : K.In s.heap := at0.mod.kin.keeps fun c u z => (at0.bs c u z).1
  have noL : s.heap.NoLimit := at0.mod.nolimit.keeps fun c u z => (at0.bs c u z).1
  have kinds : ∀ y ∈ ps.zip us, scope.names.lookup y.1 = some .local ∨ (scope.names.lookup y.1 = some .cell ∧ ((cellsFrom (s.heap.objs.size + 1) scope.names []).lookup y.1).isSome = true) := by
    rintro ⟨n, v⟩ hy
    rcases S.par n (List.of_mem_zip hy).1 with z | z
    · left; exact z
    · right; exact ⟨z, PySem.W.cellsFrom_some _ _ _ (.inl z)⟩
  refine codeAny_call_function room.r.depth (inK _ _ lk) rfl S.co S.gen rfl (PySem.W.codeRec_of inK hcd) (bnd _ _ _ _ (wpAny_newFunctionEnv_cells S.kind kinds fun env he s1 cal => ?_))
  subst he
  obtain ⟨t, pt, wt⟩ := bd cdv A outer s H xs Q E ⟨room.r.deeper _, room.g⟩ want
  have J := inv_start (CX := CX) (P := P) (w := w) (mg := mg) (base := base) (qual := qual) (f := f) (cd := cdv) (E := E) S room.r.hd at0 (ln _ _ _ _ want) rel cal
  refine ⟨noL.keeps cal.toInCall.keep, codeAny_func (wpAny_mono (pt.run [] s1 (start N xs) H _ J wt) (fun fl s' got => ?_) fun _ _ z => z)⟩
  cases fl with
  | ret u => obtain ⟨v, τ, G, J', rv, q⟩ := got; exact ⟨v, G, J'.os, J'.bare, J'.base, J'.hok, rv, q⟩
  | next => obtain ⟨τ, G, J', q⟩ := got; exact ⟨.non, G, J'.os, J'.bare, J'.base, J'.hok, rfl, q⟩
  | brk => obtain ⟨_, _, _, q⟩ := got; cases q
  | cont => obtain ⟨_, _, _, q⟩ := got; cases q
section
variable {X : Cx} {CX : CXT} {k : Nat} {f C : Addr} {fd : FuncData} {ps : List Str} {sp : Sp} {E : L2.St → XK} {x m : Str} {p pos apos : Pos} {e o : Expr} {es : List Expr} {ta : TE} {t : TA}
theorem runG {pins : List (Addr × Obj)} {σ : L2.St} {H : Hp} {s : Shared} {Q : VK} {us : List Value} {xs : List V} (F : FnG X.prog X.w X.K X.mg X.base CX k f fd ps sp) (room : RoomG k X.A) (hb : Binds X.K fd ps []) (hx : PassesAt CX X σ (E σ)) (I : Inv X pins σ H s) (rel : Vals xs us) (want : sp xs H Q (E σ)) :
    wpAny (model X.prog X.w) X.A (call (.ref f) us) (EP X pins σ Q) X.xe s := by
  have n : (us ++ []).length = ps.length := by rw [List.append_nil, ← rel.length]; exact F.len _ _ _ _ want
  have b0 := hb s us I.kIn n
  rw [List.append_nil] at b0
  refine wpAny_call (codeAny_mono (F.go X.A X.stack s H ⟨us, []⟩ us xs Q (E σ) room I.env0 b0 rel want) fun res s2 got => ?_)
  match res, got with
  | .error u, got => exact hx pins H s u s2 I got
  | .ok (.ret u), got => exact I.after got
  | .ok .next, got => exact got.elim
  | .ok .brk, got => exact got.elim
  | .ok .cont, got => exact got.elim
theorem pe_callG (F : FnG X.prog X.w X.K X.mg X.base CX k f fd ps sp) (room : RoomG k X.A) (hg : Gl X x) (hm : X.mg x = some (.ref f)) (hk : PySem.W.keepIn X.K (.ref f) = true) (hb : Binds X.K fd ps []) (hx : ∀ σ, PassesAt CX X σ (E σ)) (ha : L2.PA X (e :: es) t) (hdb : (x == ("__debug__" : Str)) = false := by decide)
    (he : starEach (e :: es) X.env = (false, eval e X.env) :: starEach es X.env := by rfl) (hpl : (backTo pos (starEach es X.env)).any (·.1) = false := by rfl) : PE X (.Call (.Name x p) (e :: es) [] pos) (tCallS sp E t) := ⟨fun pins s σ H Q I h => by
  refine wpAny_Call_Name_kw (ld_glob I hg hm (PySem.W.callWith_K (h₀ := X.base) I.ok.mod.kin hk (thn (ha.run pos pins s σ H _ I h) fun args s2 fin => ?_) he hpl) hdb)
  obtain ⟨xs, G, J, rel, want⟩ := fin
  exact ⟨J.kIn, runG F room hb (hx σ) J rel want⟩⟩
end
end Fs
/-! F7 -/
/-! Functions: what a def's body makes of its arguments; calls. -/
namespace Fs
open PySem PySem.Spec PyProof.Rows L2
def ioF : List Bool → Sl → Sl
  | [], _ => []
  | b :: bs, [] => none :: ioF bs []
  | b :: bs, o :: δ => (if b then o else none) :: ioF bs δ
def runF (N : Nat) (io : List Bool) (ds : DS) : List D → Out D := fun args => if args.length = io.length then (match ds (args.map some ++ List.replicate (N - args.length) none) with
  | .ok .nx δ' => .ok .non (ioF io δ')
  | .ok (.rt d) δ' => .ok d (ioF io δ')
  | .ok .bk _ => .bad
  | .ok .ct _ => .bad
  | .exc c xs δ' => .exc c xs (ioF io δ')
  | .bad => .bad) else .bad
/-- the promise -/
def spF (cl : Ec) (xf : Nat → List Str) (np : Nat) (F : List D → Out D) : Sp := fun vs H Q E => ∃ A L B ds, Jt false cl A L B H [] [] (ds.map some) (vs.map some) ∧ vs.length = np ∧ match F ds with
  | .ok d ios => ∀ v A' H', Nx A B H A' H' → Jt false cl A' L B H' [d] [v] ios (vs.map some) → Q v H'
  | .exc c xs ios => ∀ dx us A' H', Nx A B H A' H' → XAt xf A' H' c us dx → Jt false cl A' L B H' xs us ios (vs.map some) → E (.ref (cl.c c)) dx H'
  | .bad => False
section
variable {cl : Ec} {xf : Nat → List Str} {W : WX} {ws : Nat → Bool} {A A' L B : Addr → Prop} {H H' : Hp} {δ δ' : Sl} {σ σ' : L2.St} {p q b : Bool} {te ta tb tc : TE} {tA : TA} {tt tu : TT} {t u : TS} {ts : List D} {vs : List V}
theorem Rpo.nones : ∀ (n : Nat), Rpo cl A L H (List.replicate n none) (List.replicate n none) []
  | 0 => by simp [Rpo]
  | n + 1 => by rw [List.replicate_succ, List.replicate_succ]; simp only [Rpo]; exact ⟨none, _, rfl, Rpo.nones n⟩
theorem Rpo.append : ∀ {δ δ2 : Sl} {σ σ2 : L2.St} {g g2 : List Addr}, Rpo cl A L H δ σ g → Rpo cl A L H δ2 σ2 g2 → Rpo cl A L H (δ ++ δ2) (σ ++ σ2) (g ++ g2)
  | [], δ2, σ, σ2, g, g2, h, h2 => by simp only [Rpo] at h; rw [h.1, h.2]; exact h2
  | none :: δ, δ2, σ, σ2, g, g2, h, h2 => by
    simp only [Rpo, List.cons_append] at h ⊢
    obtain ⟨x, σ', rfl, h3⟩ := h
    exact ⟨x, σ' ++ σ2, rfl, h3.append h2⟩
  | some d :: δ, δ2, σ, σ2, g, g2, h, h2 => by
    simp only [Rpo, List.cons_append] at h ⊢
    obtain ⟨v, σ', f1, f2, rfl, rfl, h3, h4⟩ := h
    exact ⟨v, σ' ++ σ2, f1, f2 ++ g2, rfl, by rw [List.append_assoc], h3, h4.append h2⟩
/-- at the end of a def: what the caller lent for changing -/
theorem Rpo.io : ∀ {io : List Bool} {δ : Sl} {σ σ0 : L2.St} {g : List Addr}, Rpo cl A L H δ σ g → g.Nodup → io.length = σ0.length → io.length ≤ δ.length → (∀ (i : Nat), io[i]? = some true → σ[i]? = σ0[i]?) → ∃ g', Rpo cl A L H (ioF io δ) σ0 g' ∧ g'.Nodup ∧ ∀ a ∈ g', a ∈ g
  | [], δ, σ, σ0, g, h, nd, hl, _, _ => by
    have : σ0 = [] := List.length_eq_zero_iff.mp hl.symm
    subst this
    exact ⟨[], by simp [ioF, Rpo], List.nodup_nil, by simp⟩
  | b :: bs, [], σ, σ0, g, h, nd, hl, hl2, _ => by simp at hl2
  | b :: bs, o :: δ, σ, [], g, h, nd, hl, _, _ => by simp at hl
  | b :: bs, o :: δ, σ, x0 :: σ0, g, h, nd, hl, hl2, hs => by
    simp only [List.length_cons, Nat.add_right_cancel_iff] at hl
    simp only [List.length_cons, Nat.add_le_add_iff_right] at hl2
    cases o with
    | none =>
      simp only [Rpo] at h
      obtain ⟨x, σ', rfl, h2⟩ := h
      obtain ⟨g', k1, k2, k3⟩ := Rpo.io (io := bs) h2 nd hl hl2 (fun i hi => by simpa using hs (i + 1) (by simpa using hi))
      exact ⟨g', by simp only [ioF, ite_self, Rpo]; exact ⟨x0, σ0, rfl, k1⟩, k2, k3⟩
    | some d =>
      simp only [Rpo] at h
      obtain ⟨v, σ', f1, f2, rfl, rfl, h3, h4⟩ := h
      have nd2 := List.nodup_append.mp nd
      obtain ⟨g', k1, k2, k3⟩ := Rpo.io (io := bs) h4 nd2.2.1 hl hl2 (fun i hi => by simpa using hs (i + 1) (by simpa using hi))
      cases b with
      | false => exact ⟨g', by simp only [ioF, Bool.false_eq_true, if_false, Rpo]; exact ⟨x0, σ0, rfl, k1⟩, k2, fun a ha => List.mem_append_right _ (k3 a ha)⟩
      | true =>
        have e0 : some v = x0 := by simpa using hs 0 (by simp)
        subst e0
        refine ⟨f1 ++ g', by simp only [ioF, if_true, Rpo]; exact ⟨v, σ0, f1, g', rfl, rfl, h3, k1⟩, List.nodup_append.mpr ⟨nd2.1, k2, fun a ha c hc => nd2.2.2 a ha c (k3 c hc)⟩, fun a ha => ?_⟩
        rcases List.mem_append.mp ha with ha | ha
        · exact List.mem_append_left _ ha
        · exact List.mem_append_right _ (k3 a ha)
theorem Jt.io {io : List Bool} {σ0 : L2.St} (j : Jt false cl A L B H ts vs δ σ) (hl : io.length = σ0.length) (hl2 : io.length ≤ δ.length) (hs : ∀ (i : Nat), io[i]? = some true → σ[i]? = σ0[i]?) : Jt false cl A L B H ts vs (ioF io δ) σ0 := by
  obtain ⟨f, g, h1, h2, h3, h4, h5⟩ := j.ex
  have nd := List.nodup_append.mp h3
  obtain ⟨g', k1, k2, k3⟩ := h2.io nd.2.1 hl hl2 hs
  exact ⟨⟨f, g', h1, k1, List.nodup_append.mpr ⟨nd.1, k2, fun a ha c hc => nd.2.2 a ha c (k3 c hc)⟩, h4, fun hp a ha => h5 hp a (k3 a ha)⟩, j.lb, j.ba, j.ad⟩
theorem Jt.slots (j : Jt p cl A L B H ts vs δ σ) : δ.length = σ.length := by
  obtain ⟨g, h2, _, _⟩ := j.drop0
  exact h2.length
/-- a block and what it makes of the state -/
def PRSs (cl : Ec) (xf : Nat → List Str) (X : Cx) (W : WX) (ws : Nat → Bool) (sts : List Stmt) (ds : DS) : Prop := ∃ t, PSs X sts t ∧ SS cl xf W ws t ds
theorem fn_ok {P : Program} {w : World} {K : PySem.W.Frag} {mg : Str → Option Value} {base : Heap} {x qual : Str} {params : Arguments} {body : List Stmt} {scope : Scope} {dvs : List V} {kws : List (Str × V)} {f : Addr} {fd : FuncData} {N ps : List Str} {k : Nat} {ds : DS} {io : List Bool}
    (Fd : FunD K x qual params body scope dvs kws f fd) (S : FnScope N ps scope) (hp : ps.length = io.length) (hN : ps.length ≤ N.length) (hio : ∀ (i : Nat), io[i]? = some true → ws i = false)
    (hb : ∀ (cdv : Value) (A : Around) (outer : List Env) (s : Shared) (H : Hp) (E : XK), RoomG k (A.deeper (envOfC qual scope s.heap.objs.size f cdv)) →
      PRSs cl xf (cxOf (L2.CX P w) P w K mg base N qual scope f cdv A outer s H E) (fun c d _ H' => E c d H') ws body ds) :
    FnG P w K mg base (L2.CX P w) (k + 1) f fd ps (spF cl xf io.length (runF N.length io ds)) := by
  refine fnG Fd S (fun vs H Q E h => ?_) (fun cdv A outer s H vs Q E hr h => ?_)
  · obtain ⟨_, _, _, _, _, h, _⟩ := h
    rw [h, hp]
  · obtain ⟨t, ht, hs⟩ := hb cdv A outer s H E hr
    refine ⟨t, ht, ?_⟩
    obtain ⟨A0, L0, B0, args, j, hl, k0⟩ := h
    have hla : args.length = vs.length := by have := j.slots; simpa using this
    have j0 : Jt false cl A0 L0 B0 H [] [] (args.map some ++ List.replicate (N.length - args.length) none) (L2.start N vs) := by
      obtain ⟨f, g, h1, h2, h3, h4, h5⟩ := j.ex
      refine ⟨⟨f, g ++ [], h1, ?_, by simpa using h3, h4, by simpa using h5⟩, j.lb, j.ba, j.ad⟩
      unfold L2.start
      rw [hla]
      exact h2.append (Rpo.nones _)
    refine hs A0 L0 B0 H _ _ _ j0 ?_
    unfold runF at k0
    rw [if_pos (by rw [hla, hl])] at k0
    have hlen0 : (L2.start N vs).length = N.length := by unfold L2.start; simp; omega
    have hio2 : ∀ σ' : L2.St, Kp ws (L2.start N vs) σ' → ∀ (i : Nat), io[i]? = some true → σ'[i]? = (vs.map some)[i]? := fun σ' kp i hi => by
      have hi2 : i < io.length := (List.getElem?_eq_some_iff.mp hi).1
      rw [kp.2 i (hio i hi)]
      unfold L2.start
      rw [List.getElem?_append_left (by simp; omega)]
    revert k0
    cases e : ds (args.map some ++ List.replicate (N.length - args.length) none) with
    | bad => exact id
    | exc c xs δ' =>
      intro k0 d us A' H' σ' n' kp x j'
      have hlσ : δ'.length = N.length := by rw [j'.slots, kp.1, hlen0]
      exact k0 d us A' H' n' x (j'.io (by simp; omega) (by omega) (hio2 σ' kp))
    | ok fl δ' =>
      cases fl with
      | bk => exact fun k0 => k0.elim
      | ct => exact fun k0 => k0.elim
      | nx =>
        intro k0 A' H' σ' n' kp j'
        have hlσ : δ'.length = N.length := by rw [j'.slots, kp.1, hlen0]
        exact k0 .non A' H' n' ((j'.io (by simp; omega) (by omega) (hio2 σ' kp)).leaf rfl)
      | rt d =>
        intro k0 v A' H' σ' n' kp j'
        have hlσ : δ'.length = N.length := by rw [j'.slots, kp.1, hlen0]
        exact k0 v A' H' n' (j'.io (by simp; omega) (by omega) (hio2 σ' kp))
/-! ### calls that change nothing of the caller's -/
structure SC (cl : Ec) (xf : Nat → List Str) (W : WX) (ta : TA) (da : DA) : Prop where
  pure : ∀ δ, (da δ).same δ
  run : ∀ A L H δ σ g (R : List V → Hp → Prop), Rpo cl A L H δ σ g → g.Nodup → (∀ a, L a → A a) → (∀ a, A a → H a ≠ none) → (match da δ with
    | .ok ds _ => ∀ us A' H' f, Nx A A H A' H' → Rps cl A' (fun a => L a ∨ a ∈ g) H' true ds us f → f.Nodup → (∀ a ∈ f, ¬ A a) → (∀ a, A' a → H' a ≠ none) → R us H'
    | .exc c xs δ' => PostX cl xf W true c xs δ' A L A H σ
    | .bad => False) → ta σ H R
theorem sc_nil : SC cl xf W tNil daNil := ⟨fun δ => rfl, fun A L H δ σ g R h nd la ad k => k [] A H [] (Nx.refl fun _ h => h) (by simp [Rps]) List.nodup_nil (by simp) ad⟩
theorem Jt.pure0 {g : List Addr} (h : Rpo cl A L H δ σ g) (nd : g.Nodup) (la : ∀ a, L a → A a) (ad : ∀ a, A a → H a ≠ none) : Jt true cl A L A H [] [] δ σ := ⟨⟨[], g, by simp [Rps], h, by simpa using nd, by simp, by simp⟩, la, fun _ h => h, ad⟩
theorem sc_val {a : DE} {r : DA} (ha : SE cl xf W true te a) (hr : SC cl xf W tA r) : SC cl xf W (tCons te tA) (daCons a r) := by
  refine ⟨fun δ => Out.same_bind (ha.pure rfl δ) fun x => Out.same_bind (hr.pure δ) fun xs => rfl, fun A L H δ σ g R h nd la ad k => ?_⟩
  have j := Jt.pure0 h nd la ad
  have hs := ha.pure rfl δ
  unfold daCons at k
  refine ha.run A L A H δ σ _ j ?_
  cases e : a δ with
  | bad => rw [e] at k; exact k.elim
  | exc c xs s => rw [e] at k; exact k
  | ok x s =>
    rw [e] at k hs
    cases (show s = δ from hs)
    simp only [Out.bind] at k
    intro vs A1 H1 n1 j1 v ev
    subst ev
    obtain ⟨fx, g1, h1, h2, h3, h4, _⟩ := j1.ex
    simp only [Rps] at h1
    obtain ⟨v0, vs0, f1, f2, e0, rfl, h6, rfl, rfl⟩ := h1
    cases e0
    rw [List.append_nil] at h3 h4
    have gA : ∀ a ∈ g, A a := fun a ha => (h.inA a ha).1
    have hg := h.step (A' := A1) (L' := L) (H' := H1) n1.both (fun a ha => n1.prot a (gA a ha)) (fun a hl => ⟨(n1.prot a (la a hl)).1, hl⟩)
    refine hr.run A1 L H1 δ σ g _ hg nd (fun a hl => (n1.prot a (la a hl)).2) j1.ad ?_
    have hs2 := hr.pure δ
    cases e2 : r δ with
    | bad => rw [e2] at k; exact k.elim
    | exc c xs s =>
      rw [e2] at k hs2
      cases (show s = δ from hs2)
      intro d us A2 H2 n2 x2 j2
      exact k d us A2 H2 (n1.trans (n2.weak fun a ha => (n1.prot a ha).2)) x2 (j.ofPure2 (n1.trans (n2.weak fun a ha => (n1.prot a ha).2)) (j2.lower (fun a ha => (n1.prot a ha).2) la))
    | ok xs s =>
      rw [e2] at k
      simp only [Out.bind] at k
      intro us A2 H2 f n2 r2 nf hf ad2
      have n3 : Nx A A H A2 H2 := n1.trans (n2.weak fun a ha => (n1.prot a ha).2)
      refine k (v :: us) A2 H2 (f1 ++ f) n3 ?_ ?_ ?_ ad2
      · simp only [Rps]
        refine ⟨v, us, f1, f, rfl, rfl, (h6.step n2.both (fun a ha => n2.prot a (h6.inA a ha).1) (by simp)).weak, r2⟩
      · exact List.nodup_append.mpr ⟨(List.nodup_append.mp h3).1, nf, fun a ha c hc e => by subst e; exact hf a hc (h6.inA a ha).1⟩
      · intro a ha
        rcases List.mem_append.mp ha with ha | ha
        · exact h4 a ha
        · exact fun q => hf a ha (n1.prot a q).2
/-- a thing lent -/
def daLend (a : PP) (r : DA) : DA := fun δ => match a δ with
  | some d => (r δ).bind fun xs δ2 => .ok (lend d :: xs) δ2
  | none => .bad
theorem sc_lend {a : PP} {r : DA} (ha : SP cl te a) (hr : SC cl xf W tA r) : SC cl xf W (tCons te tA) (daLend a r) := by
  refine ⟨fun δ => ?_, fun A L H δ σ g R h nd la ad k => ?_⟩
  · unfold daLend
    split
    · exact Out.same_bind (hr.pure δ) fun xs => rfl
    · trivial
  · unfold daLend at k
    cases e : a δ with
    | none => rw [e] at k; exact k.elim
    | some d =>
      rw [e] at k
      simp only at k
      refine ha A L H δ σ g d _ h e fun v fp h1 n1 => ?_
      refine hr.run A L H δ σ g _ h nd la ad ?_
      cases e2 : r δ with
      | bad => rw [e2] at k; exact k.elim
      | exc c xs s => rw [e2] at k; exact k
      | ok xs s =>
        rw [e2] at k
        simp only [Out.bind] at k
        intro us A2 H2 f n2 r2 nf hf ad2
        refine k (v :: us) A2 H2 f n2 ?_ nf hf ad2
        simp only [Rps]
        have h2 := (h1.lend (L' := fun a => L a ∨ a ∈ g) (fun a ha => .inr (n1 a ha)) (fun a hl => .inl hl))
        refine ⟨v, us, [], f, rfl, rfl, h2.step n2.both (by simp) (fun _ a hl => ⟨?_, hl⟩), r2⟩
        rcases hl with hl | hl
        · exact (n2.prot a (la a hl)).1
        · exact (n2.prot a (h.inA a hl).1).1
theorem Rps.rpo : ∀ {ds : List D} {us : List V} {f : List Addr}, Rps cl A L H true ds us f → Rpo cl A L H (ds.map some) (us.map some) f
  | [], us, f, h => by simp only [Rps] at h; rw [h.1, h.2]; simp [Rpo]
  | d :: ds, us, f, h => by
    simp only [Rps] at h
    obtain ⟨v, vs', f1, f2, rfl, rfl, h3, h4⟩ := h
    simp only [List.map_cons, Rpo]
    exact ⟨v, _, f1, f2, rfl, rfl, h3, Rps.rpo h4⟩
/-- a call of a promised def -/
def dCall (F : List D → Out D) (r : DA) : DE := fun δ => (r δ).bind fun ds δ1 => match F ds with
  | .ok d _ => .ok d δ1
  | .exc c xs _ => .exc c xs δ1
  | .bad => .bad
theorem se_callG {r : DA} {F : List D → Out D} {np : Nat} {sp : Sp} (hsp : ∀ vs H Q E, spF cl xf np F vs H Q E → sp vs H Q E) (hr : SC cl xf W tA r) (hn : ∀ δ ds s, r δ = .ok ds s → ds.length = np) : SE cl xf W true (tCallS sp (WE W) tA) (dCall F r) := by
  refine ⟨fun _ δ => Out.same_bind (hr.pure δ) fun ds => ?_, fun A L B H δ σ Q j k => ?_⟩
  · split <;> first | rfl | trivial
  · obtain ⟨g, hg, nd, _⟩ := j.drop0
    refine hr.run A L H δ σ g _ hg nd (fun a h => j.ba a (j.lb a h)) j.ad ?_
    unfold dCall at k
    have hs := hr.pure δ
    cases e : r δ with
    | bad => rw [e] at k; exact k.elim
    | exc c xs s =>
      rw [e] at k hs
      cases (show s = δ from hs)
      exact fun d us A2 H2 n2 x2 j2 => k d us A2 H2 (n2.weak j.ba) x2 (j.ofPure2 n2 j2)
    | ok ds s =>
      rw [e] at k hs
      cases (show s = δ from hs)
      simp only [Out.bind] at k
      intro us A1 H1 f n1 r1 nf hf ad1
      have gA : ∀ a ∈ g, A a := fun a ha => (hg.inA a ha).1
      have LgA : ∀ a, (L a ∨ a ∈ g) → A a := fun a h => h.elim (fun h => j.ba a (j.lb a h)) (gA a)
      let Bc : Addr → Prop := fun a => A1 a ∧ a ∉ f
      have jc : Jt false cl A1 Bc Bc H1 [] [] (ds.map some) (us.map some) := by
        refine ⟨⟨[], f, by simp [Rps], (r1.step (L' := Bc) (fun a o h n => ⟨h, n⟩) (fun a ha => ⟨rfl, (r1.inA a ha).1⟩) (fun _ a hl => ⟨rfl, (n1.prot a (LgA a hl)).2, fun q => hf a q (LgA a hl)⟩)).rpo, by simpa using nf, by simp, fun _ a ha q => q.2 ha⟩, fun _ h => h, fun a h => h.1, ad1⟩
      refine hsp _ _ _ _ ⟨A1, Bc, Bc, ds, jc, by rw [← r1.length]; exact hn δ ds δ e, ?_⟩
      have fin : ∀ (d : List D) (v : List V) A2 H2 δ2 σ2, Nx A1 Bc H1 A2 H2 → Jt false cl A2 Bc Bc H2 d v δ2 σ2 → Nx A B H A2 H2 ∧ Jt true cl A2 L B H2 d v δ σ := by
        intro d v A2 H2 δ2 σ2 n2 j2
        have n3 : Nx A A H A2 H2 := n1.trans (n2.weak fun a ha => ⟨(n1.prot a ha).2, fun q => hf a q ha⟩)
        obtain ⟨f2, g2, k1, k2, k3, k4, k5⟩ := j2.ex
        refine ⟨n3.weak j.ba, j.ofPure2 n3 (δ2 := []) (σ2 := []) ⟨⟨f2, [], k1.step (L' := L) (fun a o h n => ⟨h, n⟩) (fun a ha => ⟨rfl, (k1.inA a ha).1⟩) (by simp), by simp [Rpo], by simpa using (List.nodup_append.mp k3).1, fun a ha q => k4 a ha ⟨(n1.prot a q).2, fun z => hf a z q⟩, by simp⟩, fun a h => j.ba a (j.lb a h), fun a h => (n3.prot a h).2, j2.ad⟩⟩
      cases e2 : F ds with
      | bad => rw [e2] at k; exact k.elim
      | exc c xs ios =>
        rw [e2] at k
        intro dx ws A2 H2 n2 x2 j2
        obtain ⟨n3, j3⟩ := fin _ _ _ _ _ _ n2 j2
        exact k dx ws A2 H2 n3 x2 j3
      | ok d ios =>
        rw [e2] at k
        intro v A2 H2 n2 j2
        obtain ⟨n3, j3⟩ := fin _ _ _ _ _ _ n2 j2
        exact k [v] A2 H2 n3 j3 v rfl
theorem se_call {r : DA} {F : List D → Out D} {np : Nat} (hr : SC cl xf W tA r) (hn : ∀ δ ds s, r δ = .ok ds s → ds.length = np) : SE cl xf W true (tCallS (spF cl xf np F) (WE W) tA) (dCall F r) := se_callG (fun _ _ _ _ h => h) hr hn
end
end Fs
/-! F8 -/
/-! Calls that change things of the caller's. -/
namespace Fs
open PySem PySem.Spec PyProof.Rows L2
/-- an argument: a value, a name that is lent, a name that is lent for changing -/
inductive AK | v (e : DE) | l (i : Nat) | o (i : Nat)
def dArgs : List AK → Sl → Out (List D)
  | [], δ => .ok [] δ
  | .v e :: ks, δ => (e δ).bind fun x δ1 => (dArgs ks δ1).bind fun xs δ2 => .ok (x :: xs) δ2
  | .l i :: ks, δ => if (δ[i]?).join.isSome then dArgs ks δ else .bad
  | .o i :: ks, δ => if (δ[i]?).join.isSome then dArgs ks δ else .bad
/-- the values in the arguments' order -/
def WV (σ : L2.St) : List AK → List V → List V → Prop
  | [], tv, vs => tv = [] ∧ vs = []
  | .v _ :: ks, tv, vs => ∃ t tv' vs', tv = t :: tv' ∧ vs = t :: vs' ∧ WV σ ks tv' vs'
  | .l i :: ks, tv, vs => ∃ v vs', σ[i]? = some (some v) ∧ vs = v :: vs' ∧ WV σ ks tv vs'
  | .o i :: ks, tv, vs => ∃ v vs', σ[i]? = some (some v) ∧ vs = v :: vs' ∧ WV σ ks tv vs'
def tk : List AK → List D → Sl → Option (List (Option D × Nat) × Sl)
  | [], [], δ => some ([], δ)
  | .v _ :: ks, t :: ts, δ => (tk ks ts δ).map fun r => ((some t, 0) :: r.1, r.2)
  | .l i :: ks, ts, δ => (tk ks ts δ).map fun r => ((none, i) :: r.1, r.2)
  | .o i :: ks, ts, δ => ((δ[i]?).join).bind fun d => if d.free then (tk ks ts (δ.set i none)).map fun r => ((some d, 0) :: r.1, r.2) else none
  | _, _, _ => none
def res (δ : Sl) : List (Option D × Nat) → Option (List D)
  | [] => some []
  | (some d, _) :: r => (res δ r).map fun ds => d :: ds
  | (none, i) :: r => ((δ[i]?).join).bind fun d => (res δ r).map fun ds => lend d :: ds
def putB : List AK → Sl → Sl → Option Sl
  | [], [], δ => some δ
  | .o i :: ks, some d :: ios, δ => if d.free then putB ks ios (δ.set i (some d)) else none
  | _ :: ks, _ :: ios, δ => putB ks ios δ
  | _, _, _ => none
section
variable {cl : Ec} {xf : Nat → List Str} {W : WX} {ws : Nat → Bool} {A A' L L' B : Addr → Prop} {H H' : Hp} {δ δ' : Sl} {σ σ' : L2.St} {p q b : Bool} {te ta tb tc : TE} {tA : TA} {tt tu : TT} {t u : TS} {ts : List D} {vs : List V}
def SQ (cl : Ec) (xf : Nat → List Str) (W : WX) (ta : TA) (ks : List AK) : Prop := ∀ A L B H δ σ R, Jt false cl A L B H [] [] δ σ → (match dArgs ks δ with
  | .ok ts δ1 => ∀ tv vs A' H', Nx A B H A' H' → Jt false cl A' L B H' ts tv δ1 σ → WV σ ks tv vs → R vs H'
  | .exc c xs δ' => PostX cl xf W false c xs δ' A L B H σ
  | .bad => False) → ta σ H R
theorem sq_nil : SQ cl xf W tNil [] := fun A L B H δ σ R j k => k [] [] A H (Nx.refl j.ba) j ⟨rfl, rfl⟩
theorem sq_val {a : DE} {ks : List AK} (ha : SE cl xf W false te a) (hr : SQ cl xf W tA ks) : SQ cl xf W (tCons te tA) (.v a :: ks) := fun A L B H δ σ R j k => by
  unfold dArgs at k
  refine ha.run A L B H δ σ _ j ?_
  cases e : a δ with
  | bad => rw [e] at k; exact k.elim
  | exc c xs s => rw [e] at k; exact k
  | ok x s =>
    rw [e] at k
    simp only [Out.bind] at k
    intro vs A1 H1 n1 j1 v ev
    subst ev
    obtain ⟨B', j2, hb, hj⟩ := j1.seq
    refine hr A1 L B' H1 s σ _ j2 ?_
    cases e2 : dArgs ks s with
    | bad => rw [e2] at k; exact k.elim
    | exc c xs s2 => rw [e2] at k; exact (PostX.step (show PostX cl xf W false c xs s2 A L B H σ from k) n1).under hb j1.lb
    | ok xs s2 =>
      rw [e2] at k
      simp only [Out.bind] at k
      intro tv us A2 H2 n2 j3 w
      exact k (v :: tv) (v :: us) A2 H2 (n1.trans (n2.weak hb)) (hj A2 H2 _ _ _ (by simp) n2 j3) ⟨v, tv, us, rfl, rfl, w⟩
theorem slot_some {i : Nat} (j : Jt p cl A L B H ts vs δ σ) (h : (δ[i]?).join.isSome = true) : ∃ v, σ[i]? = some (some v) := by
  obtain ⟨d, e⟩ := Option.isSome_iff_exists.mp h
  obtain ⟨g, h2, _⟩ := j.drop0
  obtain ⟨v, f1, g1, _⟩ := h2.get (join_some e)
  exact ⟨v, g1⟩
theorem sq_l {i : Nat} {ks : List AK} (hr : SQ cl xf W tA ks) : SQ cl xf W (tCons (tVar i) tA) (.l i :: ks) := fun A L B H δ σ R j k => by
  unfold dArgs at k
  by_cases h : (δ[i]?).join.isSome = true
  · rw [if_pos h] at k
    obtain ⟨v, hv⟩ := slot_some j h
    refine ⟨v, hv, hr A L B H δ σ _ j ?_⟩
    cases e2 : dArgs ks δ with
    | bad => rw [e2] at k; exact k.elim
    | exc c xs s2 => rw [e2] at k; exact k
    | ok xs s2 =>
      rw [e2] at k
      intro tv us A2 H2 n2 j3 w
      exact k tv (v :: us) A2 H2 n2 j3 ⟨v, us, hv, rfl, w⟩
  · rw [if_neg h] at k
    exact k.elim
theorem sq_o {i : Nat} {ks : List AK} (hr : SQ cl xf W tA ks) : SQ cl xf W (tCons (tVar i) tA) (.o i :: ks) := fun A L B H δ σ R j k => by
  unfold dArgs at k
  by_cases h : (δ[i]?).join.isSome = true
  · rw [if_pos h] at k
    obtain ⟨v, hv⟩ := slot_some j h
    refine ⟨v, hv, hr A L B H δ σ _ j ?_⟩
    cases e2 : dArgs ks δ with
    | bad => rw [e2] at k; exact k.elim
    | exc c xs s2 => rw [e2] at k; exact k
    | ok xs s2 =>
      rw [e2] at k
      intro tv us A2 H2 n2 j3 w
      exact k tv (v :: us) A2 H2 n2 j3 ⟨v, us, hv, rfl, w⟩
  · rw [if_neg h] at k
    exact k.elim
/-- the things in hand, and places that are lent -/
def PA (cl : Ec) (A L : Addr → Prop) (H : Hp) (σ : L2.St) : List (Option D × Nat) → List V → List Addr → Prop
  | [], vs, f => vs = [] ∧ f = []
  | (some d, _) :: r, vs, f => ∃ v vs' f1 f2, vs = v :: vs' ∧ f = f1 ++ f2 ∧ Rp cl A L H false d v f1 ∧ PA cl A L H σ r vs' f2
  | (none, i) :: r, vs, f => ∃ v vs', vs = v :: vs' ∧ σ[i]? = some (some v) ∧ PA cl A L H σ r vs' f
theorem nodup_mid {α : Type} {a b c : List α} : (a ++ (b ++ c)).Nodup → (b ++ (a ++ c)).Nodup := fun h => by
  have h1 := List.nodup_append.mp h
  have h2 := List.nodup_append.mp h1.2.1
  refine List.nodup_append.mpr ⟨h2.1, List.nodup_append.mpr ⟨h1.1, h2.2.1, fun x hx y hy => h1.2.2 x hx y (List.mem_append_right _ hy)⟩, fun x hx y hy e => ?_⟩
  subst e
  rcases List.mem_append.mp hy with hy | hy
  · exact h1.2.2 x hy x (List.mem_append_left _ hx) rfl
  · exact h2.2.2 x hx x hy rfl
theorem tk_ok : ∀ {ks : List AK} {ts : List D} {tv vs : List V} {δ δr : Sl} {f g : List Addr} {es : List (Option D × Nat)}, Rps cl A L H false ts tv f → Rpo cl A L H δ σ g → (f ++ g).Nodup → WV σ ks tv vs → tk ks ts δ = some (es, δr) →
    ∃ f' gr, PA cl A L H σ es vs f' ∧ Rpo cl A L H δr σ gr ∧ (f' ++ gr).Nodup ∧ ∀ a ∈ f' ++ gr, a ∈ f ++ g
  | [], [], tv, vs, δ, δr, f, g, es, h1, h2, nd, w, e => by
    simp only [tk, Option.some.injEq, Prod.mk.injEq] at e
    obtain ⟨rfl, rfl⟩ := e
    simp only [Rps] at h1
    simp only [WV] at w
    obtain ⟨_, rfl⟩ := h1
    exact ⟨[], g, by simp only [PA]; exact ⟨w.2, trivial⟩, h2, nd, fun a ha => ha⟩
  | [], t :: ts, tv, vs, δ, δr, f, g, es, h1, h2, nd, w, e => by simp [tk] at e
  | .v x :: ks, [], tv, vs, δ, δr, f, g, es, h1, h2, nd, w, e => by simp [tk] at e
  | .v x :: ks, t :: ts, tv, vs, δ, δr, f, g, es, h1, h2, nd, w, e => by
    simp only [tk] at e
    obtain ⟨⟨es', δr'⟩, e1, e2⟩ := Option.map_eq_some_iff.mp e
    simp only [Prod.mk.injEq] at e2
    obtain ⟨rfl, rfl⟩ := e2
    simp only [Rps] at h1
    obtain ⟨v, tv', f1, f2, rfl, rfl, h3, h4⟩ := h1
    simp only [WV] at w
    obtain ⟨t0, tv0, vs', e3, rfl, w⟩ := w
    cases e3
    rw [List.append_assoc] at nd
    have nd2 := List.nodup_append.mp nd
    obtain ⟨f', gr, k1, k2, k3, k4⟩ := tk_ok h4 h2 nd2.2.1 w e1
    refine ⟨f1 ++ f', gr, by simp only [PA]; exact ⟨v, vs', f1, f', rfl, rfl, h3, k1⟩, k2, ?_, fun a ha => ?_⟩
    · rw [List.append_assoc]
      exact List.nodup_append.mpr ⟨nd2.1, k3, fun a ha c hc => nd2.2.2 a ha c (k4 c hc)⟩
    · rw [List.append_assoc] at ha ⊢
      rcases List.mem_append.mp ha with ha | ha
      · exact List.mem_append_left _ ha
      · exact List.mem_append_right _ (k4 a ha)
  | .l i :: ks, ts, tv, vs, δ, δr, f, g, es, h1, h2, nd, w, e => by
    simp only [tk] at e
    obtain ⟨⟨es', δr'⟩, e1, e2⟩ := Option.map_eq_some_iff.mp e
    simp only [Prod.mk.injEq] at e2
    obtain ⟨rfl, rfl⟩ := e2
    simp only [WV] at w
    obtain ⟨v, vs', e3, rfl, w⟩ := w
    obtain ⟨f', gr, k1, k2, k3, k4⟩ := tk_ok h1 h2 nd w e1
    exact ⟨f', gr, by simp only [PA]; exact ⟨v, vs', rfl, e3, k1⟩, k2, k3, k4⟩
  | .o i :: ks, ts, tv, vs, δ, δr, f, g, es, h1, h2, nd, w, e => by
    simp only [tk] at e
    obtain ⟨d, e0, e⟩ := Option.bind_eq_some_iff.mp e
    split at e
    · rename_i hf
      obtain ⟨⟨es', δr'⟩, e1, e2⟩ := Option.map_eq_some_iff.mp e
      simp only [Prod.mk.injEq] at e2
      obtain ⟨rfl, rfl⟩ := e2
      simp only [WV] at w
      obtain ⟨v, vs', e3, rfl, w⟩ := w
      have nd1 := List.nodup_append.mp nd
      obtain ⟨v2, g1, g2, q1, q2, q3, q4, q5⟩ := h2.take (join_some e0) nd1.2.1
      rw [e3] at q1
      cases q1
      have q4' := List.nodup_append.mp q4
      have nd2 : (f ++ g2).Nodup := List.nodup_append.mpr ⟨nd1.1, q4'.2.1, fun a ha c hc => nd1.2.2 a ha c ((q5 c).mp (List.mem_append_right _ hc))⟩
      obtain ⟨f', gr, k1, k2, k3, k4⟩ := tk_ok h1 q3 nd2 w e1
      refine ⟨g1 ++ f', gr, by simp only [PA]; exact ⟨v, vs', g1, f', rfl, rfl, q2.free hf, k1⟩, k2, ?_, fun a ha => ?_⟩
      · rw [List.append_assoc]
        refine List.nodup_append.mpr ⟨q4'.1, k3, fun a ha c hc e => ?_⟩
        subst e
        rcases List.mem_append.mp (k4 a hc) with z | z
        · exact nd1.2.2 a z a ((q5 a).mp (List.mem_append_left _ ha)) rfl
        · exact q4'.2.2 a ha a z rfl
      · rw [List.append_assoc] at ha
        rcases List.mem_append.mp ha with ha | ha
        · exact List.mem_append_right _ ((q5 a).mp (List.mem_append_left _ ha))
        · rcases List.mem_append.mp (k4 a ha) with z | z
          · exact List.mem_append_left _ z
          · exact List.mem_append_right _ ((q5 a).mp (List.mem_append_right _ z))
    · cases e
theorem res_ok : ∀ {es : List (Option D × Nat)} {vs : List V} {f gr : List Addr} {δr : Sl} {ds : List D}, PA cl A L H σ es vs f → Rpo cl A L H δr σ gr → res δr es = some ds → Rps cl A (fun a => L a ∨ a ∈ gr) H true ds vs f
  | [], vs, f, gr, δr, ds, h, h2, e => by
    simp only [res, Option.some.injEq] at e
    subst e
    simp only [PA] at h
    simp only [Rps]
    exact h
  | (some d, n) :: es, vs, f, gr, δr, ds, h, h2, e => by
    simp only [res] at e
    obtain ⟨ds', e1, rfl⟩ := Option.map_eq_some_iff.mp e
    simp only [PA] at h
    obtain ⟨v, vs', f1, f2, rfl, rfl, h3, h4⟩ := h
    simp only [Rps]
    exact ⟨v, vs', f1, f2, rfl, rfl, (h3.step (fun a o q n => ⟨q, n⟩) (fun a ha => ⟨rfl, (h3.inA a ha).1⟩) (by simp)).weak, res_ok h4 h2 e1⟩
  | (none, i) :: es, vs, f, gr, δr, ds, h, h2, e => by
    simp only [res] at e
    obtain ⟨d, e0, e⟩ := Option.bind_eq_some_iff.mp e
    obtain ⟨ds', e1, rfl⟩ := Option.map_eq_some_iff.mp e
    simp only [PA] at h
    obtain ⟨v, vs', rfl, e2, h4⟩ := h
    obtain ⟨v2, f1, g1, g2, g3⟩ := h2.get (join_some e0)
    rw [e2] at g1
    cases g1
    simp only [Rps]
    exact ⟨v, vs', [], f, rfl, rfl, g2.lend (fun a ha => .inr (g3 a ha)) (fun a hl => .inl hl), res_ok h4 h2 e1⟩
theorem putB_ok : ∀ {ks : List AK} {tv vs : List V} {ios δr δ2 : Sl} {gi gr : List Addr}, WV σ ks tv vs → Rpo cl A L' H ios (vs.map some) gi → Rpo cl A L H δr σ gr → (gi ++ gr).Nodup → putB ks ios δr = some δ2 → ∃ g2, Rpo cl A L H δ2 σ g2 ∧ g2.Nodup ∧ ∀ a ∈ g2, a ∈ gi ++ gr
  | [], tv, vs, [], δr, δ2, gi, gr, w, h1, h2, nd, e => by
    simp only [putB, Option.some.injEq] at e
    subst e
    exact ⟨gr, h2, (List.nodup_append.mp nd).2.1, fun a ha => List.mem_append_right _ ha⟩
  | [], tv, vs, _ :: _, δr, δ2, gi, gr, w, h1, h2, nd, e => by simp [putB] at e
  | .v x :: ks, tv, vs, [], δr, δ2, gi, gr, w, h1, h2, nd, e => by simp [putB] at e
  | .l i :: ks, tv, vs, [], δr, δ2, gi, gr, w, h1, h2, nd, e => by simp [putB] at e
  | .o i :: ks, tv, vs, [], δr, δ2, gi, gr, w, h1, h2, nd, e => by simp [putB] at e
  | .v x :: ks, tv, vs, o :: ios, δr, δ2, gi, gr, w, h1, h2, nd, e => by
    simp only [putB] at e
    simp only [WV] at w
    obtain ⟨t0, tv0, vs', rfl, rfl, w⟩ := w
    obtain ⟨g', q1, q2⟩ : ∃ g', Rpo cl A L' H ios (vs'.map some) g' ∧ (g' ++ gr).Nodup ∧ ∀ a ∈ g', a ∈ gi := by
      cases o with
      | none => simp only [List.map_cons, Rpo] at h1; obtain ⟨x, σ', e, h⟩ := h1; cases e; exact ⟨gi, h, nd, fun a ha => ha⟩
      | some d =>
        simp only [List.map_cons, Rpo] at h1
        obtain ⟨v, σ', f1, f2, e, rfl, h3, h4⟩ := h1
        cases e
        rw [List.append_assoc] at nd
        exact ⟨f2, h4, (List.nodup_append.mp nd).2.1, fun a ha => List.mem_append_right _ ha⟩
    obtain ⟨g2, k1, k2, k3⟩ := putB_ok w q1 h2 q2.1 e
    exact ⟨g2, k1, k2, fun a ha => (List.mem_append.mp (k3 a ha)).elim (fun z => List.mem_append_left _ (q2.2 a z)) (fun z => List.mem_append_right _ z)⟩
  | .l i :: ks, tv, vs, o :: ios, δr, δ2, gi, gr, w, h1, h2, nd, e => by
    simp only [putB] at e
    simp only [WV] at w
    obtain ⟨v0, vs', e0, rfl, w⟩ := w
    obtain ⟨g', q1, q2⟩ : ∃ g', Rpo cl A L' H ios (vs'.map some) g' ∧ (g' ++ gr).Nodup ∧ ∀ a ∈ g', a ∈ gi := by
      cases o with
      | none => simp only [List.map_cons, Rpo] at h1; obtain ⟨x, σ', e, h⟩ := h1; cases e; exact ⟨gi, h, nd, fun a ha => ha⟩
      | some d =>
        simp only [List.map_cons, Rpo] at h1
        obtain ⟨v, σ', f1, f2, e, rfl, h3, h4⟩ := h1
        cases e
        rw [List.append_assoc] at nd
        exact ⟨f2, h4, (List.nodup_append.mp nd).2.1, fun a ha => List.mem_append_right _ ha⟩
    obtain ⟨g2, k1, k2, k3⟩ := putB_ok w q1 h2 q2.1 e
    exact ⟨g2, k1, k2, fun a ha => (List.mem_append.mp (k3 a ha)).elim (fun z => List.mem_append_left _ (q2.2 a z)) (fun z => List.mem_append_right _ z)⟩
  | .o i :: ks, tv, vs, none :: ios, δr, δ2, gi, gr, w, h1, h2, nd, e => by
    simp only [putB] at e
    simp only [WV] at w
    obtain ⟨v0, vs', e0, rfl, w⟩ := w
    simp only [List.map_cons, Rpo] at h1
    obtain ⟨x, σ', e3, h⟩ := h1
    cases e3
    exact putB_ok w h h2 nd e
  | .o i :: ks, tv, vs, some d :: ios, δr, δ2, gi, gr, w, h1, h2, nd, e => by
    simp only [putB] at e
    by_cases hfr : d.free = true
    case neg => rw [if_neg hfr] at e; cases e
    rw [if_pos hfr] at e
    simp only [WV] at w
    obtain ⟨v0, vs', e0, rfl, w⟩ := w
    simp only [List.map_cons, Rpo] at h1
    obtain ⟨v, σ', f1, f2, e3, rfl, h3, h4⟩ := h1
    cases e3
    have h3f := h3.free hfr
    replace h3 := (h3f.step (L' := L) (fun a o q n => ⟨q, n⟩) (fun a ha => ⟨rfl, (h3f.inA a ha).1⟩) (by simp)).weak (b := true)
    rw [List.append_assoc] at nd
    have nd1 := List.nodup_append.mp nd
    have nd2 := List.nodup_append.mp nd1.2.1
    have hlen : i < δr.length := by rw [h2.length]; exact (List.getElem?_eq_some_iff.mp e0).1
    obtain ⟨g3, q1, q2, q3⟩ := h2.put hlen h3 (List.nodup_append.mpr ⟨nd1.1, nd2.2.1, fun a ha c hc => nd1.2.2 a ha c (List.mem_append_right _ hc)⟩)
    rw [set_set_eq e0] at q1
    have nd3 : (f2 ++ g3).Nodup := List.nodup_append.mpr ⟨nd2.1, q2, fun a ha c hc e => by
      subst e
      rcases List.mem_append.mp (q3 a hc) with z | z
      · exact nd1.2.2 a z a (List.mem_append_left _ ha) rfl
      · exact nd2.2.2 a ha a z rfl⟩
    obtain ⟨g2, k1, k2, k3⟩ := putB_ok w h4 q1 nd3 e
    refine ⟨g2, k1, k2, fun a ha => ?_⟩
    rw [List.append_assoc]
    rcases List.mem_append.mp (k3 a ha) with z | z
    · exact List.mem_append_right _ (List.mem_append_left _ z)
    · rcases List.mem_append.mp (q3 a z) with z | z
      · exact List.mem_append_left _ z
      · exact List.mem_append_right _ (List.mem_append_right _ z)
def dCallIO (F : List D → Out D) (ks : List AK) : DE := fun δ => (dArgs ks δ).bind fun ts δ1 => match tk ks ts δ1 with
  | none => .bad
  | some r => match res r.2 r.1 with
    | none => .bad
    | some ds => match F ds with
      | .ok d ios => (match putB ks ios r.2 with | some δ2 => .ok d δ2 | none => .bad)
      | .exc c xs ios => (match putB ks ios r.2 with | some δ2 => .exc c xs δ2 | none => .bad)
      | .bad => .bad
theorem WV.len : ∀ {ks : List AK} {tv vs : List V}, WV σ ks tv vs → vs.length = ks.length
  | [], tv, vs, w => by simp only [WV] at w; simp [w.2]
  | .v x :: ks, tv, vs, w => by simp only [WV] at w; obtain ⟨_, _, vs', _, rfl, w⟩ := w; simp [WV.len w]
  | .l i :: ks, tv, vs, w => by simp only [WV] at w; obtain ⟨_, vs', _, rfl, w⟩ := w; simp [WV.len w]
  | .o i :: ks, tv, vs, w => by simp only [WV] at w; obtain ⟨_, vs', _, rfl, w⟩ := w; simp [WV.len w]
/-- a call that asks something of the state first -/
def dG (g : Sl → Bool) (e : DE) : DE := fun δ => if g δ then e δ else .bad
def SQg (cl : Ec) (xf : Nat → List Str) (W : WX) (g : Sl → Bool) (ta : TA) (ks : List AK) : Prop := ∀ A L B H δ σ R, g δ = true → Jt false cl A L B H [] [] δ σ → (match dArgs ks δ with
  | .ok ts δ1 => ∀ tv vs A' H', Nx A B H A' H' → Jt false cl A' L B H' ts tv δ1 σ → WV σ ks tv vs → R vs H'
  | .exc c xs δ' => PostX cl xf W false c xs δ' A L B H σ
  | .bad => False) → ta σ H R
theorem se_callIOG {ks : List AK} {F : List D → Out D} {np : Nat} {g : Sl → Bool} {sp : Sp} (hsp : ∀ vs H Q E, spF cl xf np F vs H Q E → sp vs H Q E) (hr : SQg cl xf W g tA ks) (hn : ks.length = np) : SE cl xf W false (tCallS sp (WE W) tA) (dG g (dCallIO F ks)) := by
  refine ⟨fun z => (by cases z), fun A L B H δ σ Q j k => ?_⟩
  unfold dG at k
  by_cases hgd : g δ = true
  case neg => rw [if_neg hgd] at k; exact k.elim
  rw [if_pos hgd] at k
  refine hr A L B H δ σ _ hgd j ?_
  unfold dCallIO at k
  cases e : dArgs ks δ with
  | bad => rw [e] at k; exact k.elim
  | exc c xs s => rw [e] at k; exact k
  | ok ts s =>
    rw [e] at k
    simp only [Out.bind] at k
    intro tv vs A1 H1 n1 j1 w
    cases e1 : tk ks ts s with
    | none => rw [e1] at k; exact k.elim
    | some r =>
      obtain ⟨es, δr⟩ := r
      rw [e1] at k
      simp only at k
      cases e2 : res δr es with
      | none => rw [e2] at k; exact k.elim
      | some ds =>
        rw [e2] at k
        simp only at k
        obtain ⟨f0, g0, h1, h2, h3, h4, h5⟩ := j1.ex
        obtain ⟨f, gr, q1, q2, q3, q4⟩ := tk_ok h1 h2 h3 w e1
        have r1 := res_ok q1 q2 e2
        have nB : ∀ a ∈ f ++ gr, ¬ B a := fun a ha => (List.mem_append.mp (q4 a ha)).elim (h4 a) (h5 rfl a)
        have nd := List.nodup_append.mp q3
        have grA : ∀ a ∈ gr, A1 a := fun a ha => (q2.inA a ha).1
        let Bc : Addr → Prop := fun a => A1 a ∧ a ∉ f
        have grB : ∀ a ∈ gr, Bc a := fun a ha => ⟨grA a ha, fun z => nd.2.2 a z a ha rfl⟩
        have bB : ∀ a, B a → Bc a := fun a h => ⟨j1.ba a h, fun z => nB a (List.mem_append_left _ z) h⟩
        have jc : Jt false cl A1 Bc Bc H1 [] [] (ds.map some) (vs.map some) := by
          refine ⟨⟨[], f, by simp [Rps], (r1.step (L' := Bc) (fun a o h n => ⟨h, n⟩) (fun a ha => ⟨rfl, (r1.inA a ha).1⟩) (fun _ a hl => ⟨rfl, hl.elim (fun h => bB a (j1.lb a h)) (grB a)⟩)).rpo, by simpa using nd.1, by simp, fun _ a ha q => q.2 ha⟩, fun _ h => h, fun a h => h.1, j1.ad⟩
        refine hsp _ _ _ _ ⟨A1, Bc, Bc, ds, jc, by rw [w.len, hn], ?_⟩
        have fin : ∀ (d : List D) (v : List V) A2 H2 ios δ2, Nx A1 Bc H1 A2 H2 → Jt false cl A2 Bc Bc H2 d v ios (vs.map some) → putB ks ios δr = some δ2 → Nx A B H A2 H2 ∧ Jt false cl A2 L B H2 d v δ2 σ := by
          intro d v A2 H2 ios δ2 n2 j2 ep
          obtain ⟨f2, gi, k1, k2, k3, k4, k5⟩ := j2.ex
          have k3' := List.nodup_append.mp k3
          have hgr := q2.step (A' := A2) (L' := L) (H' := H2) n2.both (fun a ha => n2.prot a (grB a ha)) (fun a hl => ⟨(n2.prot a (bB a (j1.lb a hl))).1, hl⟩)
          have ndg : (gi ++ gr).Nodup := List.nodup_append.mpr ⟨k3'.2.1, nd.2.1, fun a ha c hc e => by subst e; exact k5 rfl a ha (grB a hc)⟩
          obtain ⟨g2, m1, m2, m3⟩ := putB_ok w k2 hgr ndg ep
          refine ⟨n1.trans (n2.weak bB), ⟨⟨f2, g2, k1.step (L' := L) (fun a o h n => ⟨h, n⟩) (fun a ha => ⟨rfl, (k1.inA a ha).1⟩) (by simp), m1, List.nodup_append.mpr ⟨k3'.1, m2, fun a ha c hc e => ?_⟩, fun a ha q => k4 a ha (bB a q), fun _ a ha q => ?_⟩, j1.lb, fun a h => (n2.prot a (bB a h)).2, j2.ad⟩⟩
          · subst e
            rcases List.mem_append.mp (m3 a hc) with z | z
            · exact k3'.2.2 a ha a z rfl
            · exact k4 a ha (grB a z)
          · rcases List.mem_append.mp (m3 a ha) with z | z
            · exact k5 rfl a z (bB a q)
            · exact nB a (List.mem_append_right _ z) q
        cases e3 : F ds with
        | bad => rw [e3] at k; exact k.elim
        | exc c xs ios =>
          rw [e3] at k
          simp only at k
          intro dx us A2 H2 n2 x2 j2
          cases e4 : putB ks ios δr with
          | none => rw [e4] at k; exact k.elim
          | some δ2 =>
            rw [e4] at k
            obtain ⟨n3, j3⟩ := fin _ _ _ _ _ _ n2 j2 e4
            exact k dx us A2 H2 n3 x2 j3
        | ok d ios =>
          rw [e3] at k
          simp only at k
          intro v A2 H2 n2 j2
          cases e4 : putB ks ios δr with
          | none => rw [e4] at k; exact k.elim
          | some δ2 =>
            rw [e4] at k
            obtain ⟨n3, j3⟩ := fin _ _ _ _ _ _ n2 j2 e4
            exact k [v] A2 H2 n3 j3 v rfl
theorem se_callIO {ks : List AK} {F : List D → Out D} {np : Nat} (hr : SQ cl xf W tA ks) (hn : ks.length = np) : SE cl xf W false (tCallS (spF cl xf np F) (WE W) tA) (dCallIO F ks) := by
  have h := se_callIOG (g := fun _ => true) (sp := spF cl xf np F) (fun _ _ _ _ h => h) (fun A L B H δ σ R _ => hr A L B H δ σ R) hn
  exact ⟨fun z => (by cases z), fun A L B H δ σ Q j k => h.run A L B H δ σ Q j k⟩
end
end Fs
/-! F9 -/
/-! Operations however their operands come; built-in functions; what is walked. -/
namespace Fs
open PySem PySem.Spec PyProof.Rows L2
section
variable {cl : Ec} {xf : Nat → List Str} {W : WX} {ws : Nat → Bool} {A A' L B : Addr → Prop} {H H' : Hp} {δ δ' : Sl} {σ σ' : L2.St} {p q b : Bool} {te ta tb tc : TE} {tA : TA} {tt tu : TT} {t u : TS} {ts : List D} {vs : List V}
def GOp (cl : Ec) (r : R2) (f : D → D → Option D) : Prop := ∀ p A L B H ts ws δ σ x y u w f1 f2 z Q, Jt p cl A L B H ts ws δ σ → Rp cl A L H true x u f1 → Rp cl A L H true y w f2 → f x y = some z → (∀ v A' H', Nx A B H A' H' → Jt p cl A' L B H' [z] [v] δ σ → Q v H') → r u w H Q
def GUn (cl : Ec) (r : V → Hp → VK → Prop) (f : D → Option D) : Prop := ∀ p A L B H ts ws δ σ x u f1 z Q, Jt p cl A L B H ts ws δ σ → Rp cl A L H true x u f1 → f x = some z → (∀ v A' H', Nx A B H A' H' → Jt p cl A' L B H' [z] [v] δ σ → Q v H') → r u H Q
theorem POp.g {r : R2} {f : D → D → Option D} (ho : POp cl r f) : GOp cl r (fun x y => (f x y).filter D.kept) := by
  intro p A L B H ts ws δ σ x y u w f1 f2 z Q j h1 h2 e k
  obtain ⟨e1, e2⟩ := Option.filter_eq_some_iff.mp e
  exact ho A L H x y u w f1 f2 z Q h1 h2 e1 fun v fp h7 _ => k v A H (Nx.refl j.ba) (j.kept e2 h7)
theorem POp.gs {r : R2} {f : D → D → Option D} (ho : POp cl r f) (hk : ∀ x y z, f x y = some z → z.kept = true) : GOp cl r f := by
  intro p A L B H ts ws δ σ x y u w f1 f2 z Q j h1 h2 e k
  exact ho A L H x y u w f1 f2 z Q h1 h2 e fun v fp h7 _ => k v A H (Nx.refl j.ba) (j.kept (hk x y z e) h7)
theorem PUn.g {r : V → Hp → VK → Prop} {f : D → Option D} (ho : PUn cl r f) (hk : ∀ x z, f x = some z → z.kept = true) : GUn cl r f := by
  intro p A L B H ts ws δ σ x u f1 z Q j h1 e k
  exact ho A L H x u f1 z Q h1 e fun v fp h7 _ => k v A H (Nx.refl j.ba) (j.kept (hk x z e) h7)
theorem GOp.r {r : R2} {f : D → D → Option D} (ho : GOp cl r f) : ROp cl r f := by
  intro p A L B H δ σ x y u w z Q j e k
  obtain ⟨u', w', f1, f2, e0, h1, h2⟩ := j.pair
  cases e0
  exact ho p A L B H _ _ δ σ x y u w f1 f2 z Q j h1.weak h2.weak e k
theorem GUn.r {r : V → Hp → VK → Prop} {f : D → Option D} (ho : GUn cl r f) : RUn cl r f := by
  intro p A L B H δ σ x u z Q j e k
  obtain ⟨u', f1, e0, h1⟩ := j.one
  cases e0
  exact ho p A L B H _ _ δ σ x u f1 z Q j h1.weak e k
def dPP (f : D → D → Option D) (a b : PP) : DE := fun δ => Out.ofO ((a δ).bind fun x => (b δ).bind fun y => f x y) δ
def dP1 (f : D → Option D) (a : PP) : DE := fun δ => Out.ofO ((a δ).bind f) δ
def dPD (f : D → D → Option D) (a : PP) (b : DE) : DE := fun δ => match a δ with
  | some x => (b δ).bind fun y δ2 => Out.ofO (f x y) δ2
  | none => .bad
def dDP (f : D → D → Option D) (a : DE) (b : PP) : DE := fun δ => (a δ).bind fun x δ1 => Out.ofO ((b δ1).bind fun y => f x y) δ1
/-- a name's thing, looked at behind the second operand -/
def dVD (f : D → D → Option D) (i : Nat) (b : DE) : DE := fun δ => if (δ[i]?).join.isSome then (b δ).bind fun y δ2 => Out.ofO (((δ2[i]?).join).bind fun x => f x y) δ2 else .bad
theorem se_dd {r : R2} {f : D → D → Option D} {a b : DE} (ho : GOp cl r f) (ha : SE cl xf W p ta a) (hb : SE cl xf W p tb b) : SE cl xf W p (tOp r ta tb) (d2 f a b) := se_rop ho.r ha hb
theorem se_1d {r : V → Hp → VK → Prop} {f : D → Option D} {a : DE} (ho : GUn cl r f) (ha : SE cl xf W p ta a) : SE cl xf W p (tUn r ta) (d1 f a) := se_run ho.r ha
theorem se_pp {r : R2} {f : D → D → Option D} {a b : PP} (ho : GOp cl r f) (ha : SP cl ta a) (hb : SP cl tb b) : SE cl xf W p (tOp r ta tb) (dPP f a b) := by
  refine ⟨fun _ δ => Out.same_ofO, fun A L B H δ σ Q j k => ?_⟩
  obtain ⟨z, e, k2⟩ := Post.ofO k
  obtain ⟨x, e1, e⟩ := Option.bind_eq_some_iff.mp e
  obtain ⟨y, e2, e⟩ := Option.bind_eq_some_iff.mp e
  obtain ⟨g, hg, _, _⟩ := j.drop0
  exact ha A L H δ σ g x _ hg e1 fun u f1 h1 _ => hb A L H δ σ g y _ hg e2 fun w f2 h2 _ => ho p A L B H _ _ δ σ x y u w f1 f2 z Q j h1 h2 e fun v A' H' n' j' => k2 [v] A' H' n' j' v rfl
theorem se_1p {r : V → Hp → VK → Prop} {f : D → Option D} {a : PP} (ho : GUn cl r f) (ha : SP cl ta a) : SE cl xf W p (tUn r ta) (dP1 f a) := by
  refine ⟨fun _ δ => Out.same_ofO, fun A L B H δ σ Q j k => ?_⟩
  obtain ⟨z, e, k2⟩ := Post.ofO k
  obtain ⟨x, e1, e⟩ := Option.bind_eq_some_iff.mp e
  obtain ⟨g, hg, _, _⟩ := j.drop0
  exact ha A L H δ σ g x _ hg e1 fun u f1 h1 _ => ho p A L B H _ _ δ σ x u f1 z Q j h1 e fun v A' H' n' j' => k2 [v] A' H' n' j' v rfl
theorem se_dp {r : R2} {f : D → D → Option D} {a : DE} {b : PP} (ho : GOp cl r f) (ha : SE cl xf W p ta a) (hb : SP cl tb b) : SE cl xf W p (tOp r ta tb) (dDP f a b) := by
  refine ⟨fun hp δ => Out.same_bind (ha.pure hp δ) fun x => Out.same_ofO, fun A L B H δ σ Q j k => ?_⟩
  refine ha.run A L B H δ σ _ j (Post.bind (γ := D) k fun x δ1 vs A1 H1 e1 n1 j1 k1 u ev => ?_)
  subst ev
  obtain ⟨z, e, k2⟩ := Post.ofO k1
  obtain ⟨y, e2, e⟩ := Option.bind_eq_some_iff.mp e
  obtain ⟨g, hg, _, _⟩ := j1.drop0
  obtain ⟨u', f1, e0, h1⟩ := j1.one
  cases e0
  exact hb A1 L H1 δ1 σ g y _ hg e2 fun w f2 h2 _ => ho p A1 L B H1 _ _ δ1 σ x y u w f1 f2 z Q j1 h1.weak h2 e fun v A' H' n' j' => k2 [v] A' H' (n1.trans n') j' v rfl
theorem se_pd {r : R2} {f : D → D → Option D} {a : PP} {b : DE} (ho : GOp cl r f) (ha : SP cl ta a) (hb : SE cl xf W true tb b) : SE cl xf W p (tOp r ta tb) (dPD f a b) := by
  refine SE.to ⟨fun _ δ => ?_, fun A L B H δ σ Q j k => ?_⟩
  · unfold dPD
    split
    · exact Out.same_bind (hb.pure rfl δ) fun x => Out.same_ofO
    · trivial
  · unfold dPD at k
    split at k
    · rename_i x e1
      obtain ⟨g0, hg0, _, _⟩ := j.drop0
      refine ha A L H δ σ g0 x _ hg0 e1 fun u f1 h1 _ => ?_
      have hs := hb.pure rfl δ
      refine hb.run A L A H δ σ _ j.toPure ?_
      cases e2 : b δ with
      | bad => rw [e2] at k; exact k
      | exc c xs s =>
        rw [e2] at k hs
        cases (show s = δ from hs)
        exact fun d vs A' H' n x j2 => k d vs A' H' (n.weak j.ba) x (j.ofPure n j2)
      | ok y s =>
        rw [e2] at k hs
        cases (show s = δ from hs)
        intro vs A' H' n j2 w ew
        subst ew
        obtain ⟨z, e, k2⟩ := Post.ofO k
        obtain ⟨w', f2, ew, h2⟩ := j2.one
        cases ew
        have h1' := h1.step (A' := A') (L' := L) (H' := H') n.both (fun a ha => n.prot a (h1.inA a ha).1) (fun _ a hl => ⟨(n.prot a (j.ba a (j.lb a hl))).1, hl⟩)
        exact ho true A' L B H' _ _ δ σ x y u w f1 f2 z Q (j.ofPure n j2) h1' h2.weak e fun v A2 H2 n2 j3 => k2 [v] A2 H2 ((n.weak j.ba).trans n2) j3 v rfl
    · exact k.elim
theorem se_vd {r : R2} {f : D → D → Option D} {i : Nat} {b : DE} (ho : GOp cl r f) (hb : SE cl xf W false tb b) : SE cl xf W false (tOp r (tVar i) tb) (dVD f i b) := by
  refine ⟨fun z => (by cases z), fun A L B H δ σ Q j k => ?_⟩
  unfold dVD at k
  by_cases hi : (δ[i]?).join.isSome = true
  · rw [if_pos hi] at k
    obtain ⟨v0, hv0⟩ := slot_some j hi
    refine ⟨v0, hv0, hb.run A L B H δ σ _ j (Post.bind (γ := D) k fun y δ1 vs A1 H1 e1 n1 j1 k1 w ev => ?_)⟩
    subst ev
    obtain ⟨z, e, k2⟩ := Post.ofO k1
    obtain ⟨x, e2, e⟩ := Option.bind_eq_some_iff.mp e
    obtain ⟨g, hg, _, _⟩ := j1.drop0
    obtain ⟨v2, f1, q1, q2, _⟩ := hg.get (join_some e2)
    rw [hv0] at q1
    cases q1
    obtain ⟨w', f2, e0, h2⟩ := j1.one
    cases e0
    exact ho false A1 L B H1 _ _ δ1 σ x y v0 w f1 f2 z Q j1 q2 h2.weak e fun v A' H' n' j' => k2 [v] A' H' (n1.trans n') j' v rfl
  · rw [if_neg hi] at k
    exact k.elim
/-! sums -/
theorem gop_add {K : PySem.W.Frag} : GOp cl (rAddA K) addD := by
  intro p A L B H ts ws δ σ x y u w f1 f2 z Q j h1 h2 e k
  unfold addD at e
  split at e
  · rename_i i j'
    cases e
    obtain ⟨rfl, rfl, _⟩ := h1.leafv
    obtain ⟨rfl, rfl, _⟩ := h2.leafv
    exact .inl (.inl ⟨i, j', rfl, rfl, k _ A H (Nx.refl j.ba) (j.leaf rfl)⟩)
  · rename_i s t
    split at e
    · rename_i hl
      cases e
      obtain ⟨rfl, rfl, _⟩ := h1.leafv
      obtain ⟨rfl, rfl, _⟩ := h2.leafv
      exact .inl (.inr ⟨s, t, rfl, rfl, sz_of hl, k _ A H (Nx.refl j.ba) (j.leaf rfl)⟩)
    · cases e
  · rename_i fl xs fl' ys
    split at e
    · rename_i hl
      cases e
      obtain ⟨a, o, vs, fp', rfl, ho, hs, hr, hf⟩ := h1.node
      obtain ⟨a', o', vs', fp'', rfl, ho', hs', hr', hf'⟩ := h2.node
      cases hs
      cases hs'
      refine .inr (.inl ⟨a, a', vs, vs', rfl, rfl, ho, ho', by rw [← hr.length, ← hr'.length]; exact sz_of hl.1, fun p0 hp => ?_⟩)
      have hk : (xs ++ ys).all D.kept = true := by rw [List.all_append, hl.2.1, hl.2.2]; rfl
      have j2 := j.keptL hk (hr.append hr')
      have h := j2.alloc (k := .lst) (o := .lst (vs ++ vs')) hp rfl
      exact k _ _ _ h.1 h.2
    · cases e
  · rename_i fl x0 xs fl' y0 ys
    split at e
    · rename_i hl
      cases e
      obtain ⟨a, o, vs, fp', rfl, ho, hs, hr, hf⟩ := h1.node
      obtain ⟨a', o', vs', fp'', rfl, ho', hs', hr', hf'⟩ := h2.node
      cases hs
      cases hs'
      have l1 := hr.length
      have l2 := hr'.length
      have hk : ((x0 :: xs) ++ (y0 :: ys)).all D.kept = true := by rw [List.all_append, hl.2.1, hl.2.2]; rfl
      refine .inr (.inr ⟨a, a', vs, vs', rfl, rfl, SqT.of ho, SqT.of ho', by intro z; rw [z] at l1; simp at l1, ?_, ?_⟩)
      · rw [← l1, ← l2]
        simp only [List.length_cons]
        exact Nat.le_trans (Nat.add_le_add_right (Nat.add_le_add_right (Nat.le_refl _) _) _) (by have := hl.1; have h16 := PySem.sizeLine_eq; omega)
      · refine ⟨fun z => by rw [z] at l2; simp at l2, fun _ p0 hp => ?_⟩
        have j2 := j.keptL hk (hr.append hr')
        have h := j2.allocS (k := .tup) (o := .tup (vs ++ vs')) hk hp rfl
        exact k _ _ _ h.1 h.2
    · cases e
  · cases e
/-! len -/
def rLenA (K : PySem.W.Frag) : V → Hp → VK → Prop := fun x H Q => (∃ x' n, [x] = [x'] ∧ LenV K x' H n ∧ Q (.int n) H) ∨ ∃ a kvs, [x] = [V.ref a] ∧ H a = some (.dK kvs) ∧ Q (.int kvs.length) H
def lenD : D → Option D
  | .v (.str s) => if s.length ≤ 100000 then some (.int s.length) else none
  | .n .lst _ xs => some (.int xs.length)
  | .s ns => some (.int ns.length)
  | .n .tup _ xs => some (.int xs.length)
  | .n (.dct ks) _ xs => some (.int xs.length)
  | _ => none
theorem lenD_kept : ∀ x z, lenD x = some z → z.kept = true := by
  intro x z e
  unfold lenD at e
  split at e
  · split at e
    · cases e; rfl
    · cases e
  all_goals (cases e; try rfl)
theorem pun_len : PUn cl (rLenA cl.K) lenD := by
  intro A L H x u f1 z Q h1 e k
  unfold lenD at e
  split at e
  · rename_i s
    split at e
    · rename_i hl
      cases e
      obtain ⟨rfl, rfl, _⟩ := h1.leafv
      exact .inl ⟨_, s.length, rfl, ⟨sz_of hl, rfl⟩, k _ [] (Rp.leaf rfl) (by simp)⟩
    · cases e
  · rename_i w xs
    cases e
    obtain ⟨a, o, vs, fp', rfl, ho, hs, hr, hf⟩ := h1.node
    cases hs
    exact .inl ⟨_, xs.length, rfl, .inl ⟨vs, SqL.of ho, hr.length⟩, k _ [] (Rp.leaf rfl) (by simp)⟩
  · rename_i ns
    cases e
    obtain ⟨a, rfl, hs, rfl, _⟩ := h1.scr
    exact .inl ⟨_, ns.length, rfl, .inl ⟨ns.map V.int, hs, by simp⟩, k _ [] (Rp.leaf rfl) (by simp)⟩
  · rename_i w xs
    cases e
    obtain ⟨a, o, vs, fp', rfl, ho, hs, hr, hf⟩ := h1.node
    cases hs
    exact .inl ⟨_, xs.length, rfl, .inr ⟨vs, SqT.of ho, hr.length⟩, k _ [] (Rp.leaf rfl) (by simp)⟩
  · rename_i ks w xs
    cases e
    obtain ⟨a, o, vs, fp', rfl, ho, ⟨hl, hs⟩, hr, hf⟩ := h1.node
    subst hs
    have e1 : (ks.zip vs).length = xs.length := by rw [List.length_zip, hl, Nat.min_self, hr.length]
    exact .inr ⟨a, _, rfl, ho, by rw [e1]; exact k _ [] (Rp.leaf rfl) (by simp)⟩
  · cases e
/-! isinstance of a built-in class -/
def tyD : D → Option String
  | .v .non => some "NoneType"
  | .v (.bl _) => some "bool"
  | .v (.int _) => some "int"
  | .v (.str _) => some "str"
  | .n .lst _ _ => some "list"
  | .n .tup _ _ => some "tuple"
  | .n (.dct _) _ _ => some "dict"
  | _ => none
theorem Rp.ty {K : PySem.W.Frag} {x : D} {v : V} {fp : List Addr} {s : String} (h : Rp cl A L H true x v fp) (e : tyD x = some s) : TyX K H v (.type s) := by
  unfold tyD at e
  split at e
  · obtain ⟨rfl, _, _⟩ := h.leafv; cases e; exact .base .non
  · obtain ⟨rfl, _, _⟩ := h.leafv; cases e; exact .base (.bl _)
  · obtain ⟨rfl, _, _⟩ := h.leafv; cases e; exact .base (.int _)
  · obtain ⟨rfl, _, _⟩ := h.leafv; cases e; exact .base (.str _)
  · obtain ⟨a, o, vs, fp', rfl, ho, hs, _⟩ := h.node; cases hs; cases e; exact .base (.lst ho)
  · obtain ⟨a, o, vs, fp', rfl, ho, hs, _⟩ := h.node; cases hs; cases e; exact .base (.tup ho)
  · obtain ⟨a, o, vs, fp', rfl, ho, ⟨_, hs⟩, _⟩ := h.node; subst hs; cases e; exact .base (.dK ho)
  · cases e
/-- isinstance's answer for the built-in classes met here -/
def isTy (s c : String) : Bool := s == c || (s == "bool" && c == "int")
def isiD (c : String) (x : D) : Option D := (tyD x).map fun s => .bl (isTy s c)
def tyNames : List String := ["NoneType", "bool", "int", "str", "list", "tuple", "dict"]
theorem tyD_mem {x : D} {s : String} (e : tyD x = some s) : s ∈ tyNames := by
  unfold tyD at e
  split at e <;> first | (cases e; decide) | cases e
theorem kitB_ok : ∀ c ∈ ["bool", "int", "str", "list", "tuple", "dict"], ∀ s ∈ tyNames, kitB s c = some (isTy s c) := by decide +kernel
theorem pun_isi {K : PySem.W.Frag} {c : String} (hc : c ∈ ["bool", "int", "str", "list", "tuple", "dict"]) : PUn cl (fun x H Q => rIsi K [x, .ty c] H Q) (isiD c) := by
  intro A L H x u f1 z Q h1 e k
  unfold isiD at e
  obtain ⟨s, e1, rfl⟩ := Option.map_eq_some_iff.mp e
  exact ⟨u, .ty c, .type s, .type c, isTy s c, rfl, .ty c, h1.ty e1, kit_ty (kitB_ok c hc s (tyD_mem e1)), k _ [] (Rp.leaf rfl) (by simp)⟩
theorem isiD_kept {c : String} : ∀ x z, isiD c x = some z → z.kept = true := by
  intro x z e
  unfold isiD at e
  obtain ⟨s, e1, rfl⟩ := Option.map_eq_some_iff.mp e
  rfl
/-! max, min of two ints; int of an int, a truth, a text -/
abbrev maxD := f2I fun i j => some (.int (if j > i then j else i))
abbrev minD := f2I fun i j => some (.int (if j < i then j else i))
theorem pop_2 {g : Int → Int → V} {r : R2} (hr : ∀ i j H Q, Q (g i j) H → r (.int i) (.int j) H Q) (hg : ∀ i j, sc (g i j) = true) : POp cl r (f2I fun i j => some (g i j)) := by
  intro A L H x y u w f1 f2 z Q h1 h2 e k
  unfold f2I at e
  split at e
  · rename_i i j
    cases e
    obtain ⟨rfl, rfl, _⟩ := h1.leafv
    obtain ⟨rfl, rfl, _⟩ := h2.leafv
    exact hr i j H Q (k _ [] (Rp.leaf (hg i j)) (by simp))
  · cases e
def rIntA : V → Hp → VK → Prop := fun x H Q => ((∃ i, [x] = [V.int i] ∧ Q (.int i) H) ∨ ∃ k, [x] = [V.bl k] ∧ Q (.int (if k then 1 else 0)) H) ∨ ∃ a n, [x] = [V.str a] ∧ PySem.intText? a = some n ∧ a.length ≤ 640 ∧ Q (.int n) H
def intD : D → Option D
  | .v (.int i) => some (.int i)
  | .v (.bl k) => some (.int (if k then 1 else 0))
  | .v (.str s) => if s.length ≤ 640 then (PySem.intText? s).map fun n => D.int n else none
  | _ => none
theorem pun_int : PUn cl rIntA intD := by
  intro A L H x u f1 z Q h1 e k
  unfold intD at e
  split at e
  · cases e; obtain ⟨rfl, rfl, _⟩ := h1.leafv; exact .inl (.inl ⟨_, rfl, k _ [] (Rp.leaf rfl) (by simp)⟩)
  · cases e; obtain ⟨rfl, rfl, _⟩ := h1.leafv; exact .inl (.inr ⟨_, rfl, k _ [] (Rp.leaf rfl) (by simp)⟩)
  · split at e
    · rename_i hl
      obtain ⟨n, e1, rfl⟩ := Option.map_eq_some_iff.mp e
      obtain ⟨rfl, rfl, _⟩ := h1.leafv
      exact .inr ⟨_, n, rfl, e1, hl, k _ [] (Rp.leaf rfl) (by simp)⟩
    · cases e
  · cases e
theorem intD_kept : ∀ x z, intD x = some z → z.kept = true := by
  intro x z e
  unfold intD at e
  split at e
  · cases e; rfl
  · cases e; rfl
  · split at e
    · obtain ⟨n, _, rfl⟩ := Option.map_eq_some_iff.mp e; rfl
    · cases e
  · cases e
/-! all of a list of truths -/
def allB : List D → Option Bool
  | [] => some true
  | .v (.bl b) :: ds => (allB ds).map fun c => b && c
  | _ => none
theorem allB_ok : ∀ {ds : List D} {vs : List V} {fp : List Addr} {c : Bool}, Rps cl A L H true ds vs fp → allB ds = some c → ∃ bs : List Bool, vs = bs.map V.bl ∧ c = bs.all id
  | [], vs, fp, c, h, e => by
    simp only [Rps] at h
    simp only [allB, Option.some.injEq] at e
    exact ⟨[], by simp [h.1], by simp [← e]⟩
  | .v (.bl x) :: ds, vs, fp, c, h, e => by
    simp only [Rps] at h
    obtain ⟨v, vs', f1, f2, rfl, rfl, h3, h4⟩ := h
    simp only [allB] at e
    obtain ⟨c', e1, rfl⟩ := Option.map_eq_some_iff.mp e
    obtain ⟨bs, rfl, rfl⟩ := allB_ok h4 e1
    obtain ⟨rfl, _, _⟩ := h3.leafv
    exact ⟨x :: bs, by simp, by simp⟩
  | .v .non :: ds, vs, fp, c, h, e => by simp [allB] at e
  | .v (.int _) :: ds, vs, fp, c, h, e => by simp [allB] at e
  | .v (.str _) :: ds, vs, fp, c, h, e => by simp [allB] at e
  | .v (.byt _) :: ds, vs, fp, c, h, e => by simp [allB] at e
  | .v (.flt _) :: ds, vs, fp, c, h, e => by simp [allB] at e
  | .v (.ref _) :: ds, vs, fp, c, h, e => by simp [allB] at e
  | .v (.ty _) :: ds, vs, fp, c, h, e => by simp [allB] at e
  | .s _ :: ds, vs, fp, c, h, e => by simp [allB] at e
  | .n _ _ _ :: ds, vs, fp, c, h, e => by simp [allB] at e
def allD : D → Option D | .n .lst _ xs => (allB xs).map fun c => .bl c | _ => none
theorem pun_all {K : PySem.W.Frag} : PUn cl (fun x H Q => rAll K [x] H Q) allD := by
  intro A L H x u f1 z Q h1 e k
  unfold allD at e
  split at e
  · obtain ⟨c, e1, rfl⟩ := Option.map_eq_some_iff.mp e
    obtain ⟨a, o, vs, fp', rfl, ho, hs, hr, hf⟩ := h1.node
    cases hs
    obtain ⟨bs, rfl, rfl⟩ := allB_ok hr e1
    exact ⟨a, bs, rfl, SqL.of ho, k _ [] (Rp.leaf rfl) (by simp)⟩
  · cases e
theorem allD_kept : ∀ x z, allD x = some z → z.kept = true := by
  intro x z e
  unfold allD at e
  split at e
  · obtain ⟨c, _, rfl⟩ := Option.map_eq_some_iff.mp e; rfl
  · cases e
/-! join of a list of texts -/
def txts : List D → Option (List Str)
  | [] => some []
  | .v (.str s) :: ds => (txts ds).map fun r => s :: r
  | _ => none
theorem txts_ok : ∀ {ds : List D} {vs : List V} {fp : List Addr} {ss : List Str}, Rps cl A L H true ds vs fp → txts ds = some ss → vs = ss.map V.str
  | [], vs, fp, ss, h, e => by
    simp only [Rps] at h
    simp only [txts, Option.some.injEq] at e
    simp [h.1, ← e]
  | .v (.str x) :: ds, vs, fp, c, h, e => by
    simp only [Rps] at h
    obtain ⟨v, vs', f1, f2, rfl, rfl, h3, h4⟩ := h
    simp only [txts] at e
    obtain ⟨c', e1, rfl⟩ := Option.map_eq_some_iff.mp e
    obtain ⟨rfl, _, _⟩ := h3.leafv
    rw [txts_ok h4 e1]
    rfl
  | .v .non :: ds, vs, fp, c, h, e => by simp [txts] at e
  | .v (.int _) :: ds, vs, fp, c, h, e => by simp [txts] at e
  | .v (.bl _) :: ds, vs, fp, c, h, e => by simp [txts] at e
  | .v (.byt _) :: ds, vs, fp, c, h, e => by simp [txts] at e
  | .v (.flt _) :: ds, vs, fp, c, h, e => by simp [txts] at e
  | .v (.ref _) :: ds, vs, fp, c, h, e => by simp [txts] at e
  | .v (.ty _) :: ds, vs, fp, c, h, e => by simp [txts] at e
  | .s _ :: ds, vs, fp, c, h, e => by simp [txts] at e
  | .n _ _ _ :: ds, vs, fp, c, h, e => by simp [txts] at e
def joinD (a : Str) : D → Option D
  | .n .lst _ xs => (txts xs).bind fun ss => if (ss.map (·.length)).sum + ss.length * a.length ≤ 100000 then some (.str (Txt.join a ss)) else none
  | _ => none
theorem pun_join {K : PySem.W.Frag} {a : Str} : PUn cl (fun y H Q => ∃ a' p, ∃ ys : List Str, V.str a = .str a' ∧ [y] = [V.ref p] ∧ (SqL K H p (ys.map V.str) ∨ SqT K H p (ys.map V.str)) ∧ (ys.map (·.length)).sum + ys.length * a'.length ≤ 16777216 ∧ Q (.str (Txt.join a' ys)) H) (joinD a) := by
  intro A L H x u f1 z Q h1 e k
  unfold joinD at e
  split at e
  · obtain ⟨ss, e1, e⟩ := Option.bind_eq_some_iff.mp e
    split at e
    · rename_i hl
      cases e
      obtain ⟨p, o, vs, fp', rfl, ho, hs, hr, hf⟩ := h1.node
      cases hs
      have := txts_ok hr e1
      subst this
      exact ⟨a, p, ss, rfl, rfl, .inl (SqL.of ho), Nat.le_trans hl (by decide), k _ [] (Rp.leaf rfl) (by simp)⟩
    · cases e
  · cases e
theorem joinD_kept {a : Str} : ∀ x z, joinD a x = some z → z.kept = true := by
  intro x z e
  unfold joinD at e
  split at e
  · obtain ⟨ss, _, e⟩ := Option.bind_eq_some_iff.mp e
    split at e
    · cases e; rfl
    · cases e
  · cases e
/-! a sign in a text -/
def inSD : D → D → Option D
  | .v (.str ⟨⟨[c]⟩⟩), .v (.str z) => some (.bl (decide (c ∈ z.cps.toList)))
  | _, _ => none
def notinSD : D → D → Option D
  | .v (.str ⟨⟨[c]⟩⟩), .v (.str z) => some (.bl (!decide (c ∈ z.cps.toList)))
  | _, _ => none
theorem pop_inS : POp cl (fun x y H Q => ∃ (c : Nat) (z : Str), x = .str ⟨#[c]⟩ ∧ y = .str z ∧ Q (.bl (decide (c ∈ z.cps.toList))) H) inSD := by
  intro A L H x y u w f1 f2 z Q h1 h2 e k
  unfold inSD at e
  split at e
  · cases e
    obtain ⟨rfl, rfl, _⟩ := h1.leafv
    obtain ⟨rfl, rfl, _⟩ := h2.leafv
    exact ⟨_, _, rfl, rfl, k _ [] (Rp.leaf rfl) (by simp)⟩
  · cases e
theorem pop_notinS : POp cl (fun x y H Q => ∃ (c : Nat) (z : Str), x = .str ⟨#[c]⟩ ∧ y = .str z ∧ Q (.bl (!decide (c ∈ z.cps.toList))) H) notinSD := by
  intro A L H x y u w f1 f2 z Q h1 h2 e k
  unfold notinSD at e
  split at e
  · cases e
    obtain ⟨rfl, rfl, _⟩ := h1.leafv
    obtain ⟨rfl, rfl, _⟩ := h2.leafv
    exact ⟨_, _, rfl, rfl, k _ [] (Rp.leaf rfl) (by simp)⟩
  · cases e
theorem inSD_kept : ∀ x y z, inSD x y = some z → z.kept = true := by
  intro x y z e; unfold inSD at e; split at e
  · cases e; rfl
  · cases e
theorem notinSD_kept : ∀ x y z, notinSD x y = some z → z.kept = true := by
  intro x y z e; unfold notinSD at e; split at e
  · cases e; rfl
  · cases e
theorem isND_kept : ∀ x z, isND x = some z → z.kept = true := by
  intro x z e; unfold isND at e; split at e <;> (cases e; rfl)
theorem notND_kept : ∀ x z, notND x = some z → z.kept = true := by
  intro x z e
  unfold notND isND at e
  split at e <;> (simp [notD] at e; subst e; rfl)
end
end Fs
/-! F10 -/
/-! What is walked; a piece of the program's text with what it makes of data. -/
namespace Fs
open PySem PySem.Spec PyProof.Rows L2
section
variable {cl : Ec} {xf : Nat → List Str} {W : WX} {ws : Nat → Bool} {A A' L B : Addr → Prop} {H H' : Hp} {δ δ' : Sl} {σ σ' : L2.St} {p q b : Bool} {te ta tb tc : TE} {tA : TA} {tt tu : TT} {t u : TS} {ts : List D} {vs : List V}
theorem it_list {K : PySem.W.Frag} {a : Addr} {us : List V} {ds : List D} {fp : List Addr} (lb : ∀ a, L a → B a) (hst : ∀ A1 H1, Nx A B H A1 H1 → SqL K H1 a us) (hr : Rps cl A L H b ds us fp) (hk : ds.all D.kept = true) : ItOk cl L B (Itl K a) ds A H := by
  intro A1 H1 n1
  have hs := hst A1 H1 n1
  have hl := hr.length
  refine ⟨fun i hi => ⟨us, us[i]'(by omega), hs, List.getElem?_eq_getElem (by omega)⟩, fun i hi => ⟨us, hs, by omega⟩, fun i x H2 d e hy p B1 δ σ hb j => ?_⟩
  obtain ⟨rfl, hy⟩ := hy
  obtain ⟨v, f1, g1, g2, _⟩ := (hr.keptS hk).get e
  rw [hy us hs] at g1
  cases g1
  have hkd : d.kept = true := List.all_eq_true.mp hk d (List.mem_of_getElem? e)
  have g3 := (g2.strong hkd)
  obtain ⟨g3, rfl⟩ := g3
  exact ⟨A1, Nx.refl j.ba, j.kept hkd (g3.step (L' := L) n1.both (by simp) (by simp))⟩
theorem it_tup {K : PySem.W.Frag} {a : Addr} {us : List V} {ds : List D} {fp : List Addr} (lb : ∀ a, L a → B a) (hst : ∀ A1 H1, Nx A B H A1 H1 → SqT K H1 a us) (hr : Rps cl A L H b ds us fp) (hk : ds.all D.kept = true) : ItOk cl L B (Itt K a) ds A H := by
  intro A1 H1 n1
  have hs := hst A1 H1 n1
  have hl := hr.length
  refine ⟨fun i hi => ⟨us, us[i]'(by omega), hs, List.getElem?_eq_getElem (by omega)⟩, fun i hi => ⟨us, hs, by omega⟩, fun i x H2 d e hy p B1 δ σ hb j => ?_⟩
  obtain ⟨rfl, hy⟩ := hy
  obtain ⟨v, f1, g1, g2, _⟩ := (hr.keptS hk).get e
  rw [hy us hs] at g1
  cases g1
  have hkd : d.kept = true := List.all_eq_true.mp hk d (List.mem_of_getElem? e)
  have g3 := (g2.strong hkd)
  obtain ⟨g3, rfl⟩ := g3
  exact ⟨A1, Nx.refl j.ba, j.kept hkd (g3.step (L' := L) n1.both (by simp) (by simp))⟩
theorem Rps.ints : ∀ {ns : List Int}, Rps cl A L H b (ns.map D.int) (ns.map V.int) []
  | [] => by simp [Rps]
  | n :: ns => by simp only [List.map_cons, Rps]; exact ⟨_, _, [], [], rfl, rfl, Rp.leaf rfl, Rps.ints⟩
theorem it_scr {a : Addr} {ns : List Int} (h : (∃ ob, H a = some (.frz ob (.lst (ns.map V.int))) ∧ ¬ A a) ∨ cl.Wr a (ns.map V.int)) (lb : ∀ a, L a → B a := by assumption) : ItOk cl L B (Itl cl.K a) (ns.map D.int) A H := by
  refine it_list lb (fun A1 H1 n => ?_) (Rps.ints (b := true)) (by simp [List.all_eq_true, D.kept])
  rcases h with ⟨ob, h1, h2⟩ | h
  · exact .inl (.inr ⟨ob, n.keep a _ h1 h2⟩)
  · exact .inr h
/-- what a peek finds, to be walked: kept items; own things only where nothing changes -/
def itL (p : Bool) : D → Option (List D)
  | .n .lst w xs => if xs.all D.kept = true ∧ (p = true ∨ w ≠ .own) then some xs else none
  | .s ns => some (ns.map D.int)
  | _ => none
def itT (p : Bool) : D → Option (List D)
  | .n .tup w xs => if xs.all D.kept = true ∧ (p = true ∨ w ≠ .own) then some xs else none
  | _ => none
def diP (f : D → Option (List D)) (a : PP) : DA := fun δ => Out.ofO ((a δ).bind f) δ
/-- a node that stands as long as B does -/
theorem Rp.stands {k : Kd} {w : Fl} {ds : List D} {v : V} {fp : List Addr} (lb : ∀ a, L a → B a) (hw : w = .own → ∀ a ∈ fp, B a) (h : Rp cl A L H true (.n k w ds) v fp) : ∃ a o us fp', v = .ref a ∧ Shape cl k us o ∧ (∀ A1 H1, Nx A B H A1 H1 → H1 a = some o) ∧ Rps cl A L H true ds us fp' := by
  cases w with
  | shr =>
    simp only [Rp] at h
    obtain ⟨a, o, vs, h1, h2, h3, h4, h5, h6⟩ := h
    exact ⟨a, o, vs, [], h1, h3, fun A1 H1 n => n.keep a o h2 h4, h6.weak⟩
  | own =>
    simp only [Rp] at h
    obtain ⟨a, o, vs, h1, h2, h3, h4, fp', h5, h6⟩ := h
    exact ⟨a, o, vs, fp', h1, h3, fun A1 H1 n => (n.prot a (hw rfl a (by rw [h5]; exact List.mem_cons_self))).1.trans h2, h6.weak⟩
  | bor =>
    simp only [Rp] at h
    obtain ⟨a, o, vs, h1, h2, h3, h4, h5, h6, h7⟩ := h
    exact ⟨a, o, vs, [], h1, h3, fun A1 H1 n => (n.prot a (lb a h5)).1.trans h2, h7⟩
theorem si_listP {a : PP} (ha : SP cl ta a) : SI cl xf W p (iList cl.K ta) (diP (itL p) a) := by
  refine ⟨fun _ δ => Out.same_ofO, fun A L B H δ σ R j k => ?_⟩
  unfold diP at k
  cases e : (a δ).bind (itL p) with
  | none => rw [e] at k; exact k.elim
  | some its =>
    rw [e] at k
    obtain ⟨d, e1, e2⟩ := Option.bind_eq_some_iff.mp e
    obtain ⟨g, hg, _, _⟩ := j.drop0
    refine ha A L H δ σ g d _ hg e1 fun v fp h1 n1 => ?_
    have key : ∃ B', (∀ a, B a → B' a) ∧ Jt p cl A L B' H [] [] δ σ ∧ ∀ w : Fl, (p = true ∨ w ≠ .own) → w = .own → ∀ a ∈ fp, B' a := by
      cases p with
      | true => exact ⟨A, j.ba, j.toPure, fun w _ _ a ha => (h1.inA a ha).1⟩
      | false => exact ⟨B, fun _ h => h, j, fun w hw e => absurd e (hw.resolve_left (by simp))⟩
    obtain ⟨B', hb, j', hw⟩ := key
    unfold itL at e2
    split at e2
    · split at e2
      · rename_i w xs hk
        cases e2
        obtain ⟨a0, o, us, fp', rfl, hs, hst, hr⟩ := h1.stands (B := B') j'.lb (hw w hk.2)
        cases hs
        exact ⟨a0, rfl, ⟨us, SqL.of (hst A H (Nx.refl j'.ba))⟩, k _ A H B' (Nx.refl j.ba) hb j' (it_list j'.lb (fun A1 H1 n => SqL.of (hst A1 H1 n)) hr hk.1)⟩
      · cases e2
    · cases e2
      obtain ⟨a0, rfl, hs, rfl, hor⟩ := h1.scr
      exact ⟨a0, rfl, ⟨_, hs⟩, k _ A H B' (Nx.refl j.ba) hb j' (it_scr hor j'.lb)⟩
    · cases e2
theorem si_tupP {K : PySem.W.Frag} {a : PP} (ha : SP cl ta a) : SI cl xf W p (iTup K ta) (diP (itT p) a) := by
  refine ⟨fun _ δ => Out.same_ofO, fun A L B H δ σ R j k => ?_⟩
  unfold diP at k
  cases e : (a δ).bind (itT p) with
  | none => rw [e] at k; exact k.elim
  | some its =>
    rw [e] at k
    obtain ⟨d, e1, e2⟩ := Option.bind_eq_some_iff.mp e
    obtain ⟨g, hg, _, _⟩ := j.drop0
    refine ha A L H δ σ g d _ hg e1 fun v fp h1 n1 => ?_
    have key : ∃ B', (∀ a, B a → B' a) ∧ Jt p cl A L B' H [] [] δ σ ∧ ∀ w : Fl, (p = true ∨ w ≠ .own) → w = .own → ∀ a ∈ fp, B' a := by
      cases p with
      | true => exact ⟨A, j.ba, j.toPure, fun w _ _ a ha => (h1.inA a ha).1⟩
      | false => exact ⟨B, fun _ h => h, j, fun w hw e => absurd e (hw.resolve_left (by simp))⟩
    obtain ⟨B', hb, j', hw⟩ := key
    unfold itT at e2
    split at e2
    · split at e2
      · rename_i w xs hk
        cases e2
        obtain ⟨a0, o, us, fp', rfl, hs, hst, hr⟩ := h1.stands (B := B') j'.lb (hw w hk.2)
        cases hs
        exact ⟨a0, rfl, ⟨us, SqT.of (hst A H (Nx.refl j'.ba))⟩, k _ A H B' (Nx.refl j.ba) hb j' (it_tup j'.lb (fun A1 H1 n => SqT.of (hst A1 H1 n)) hr hk.1)⟩
      · cases e2
    · cases e2
/-- a text, sign by sign -/
def itS : D → Option (List D)
  | .v (.str s) => some (s.cps.toList.map fun c => D.str ⟨#[c]⟩)
  | _ => none
theorem si_strP {a : PP} (ha : SP cl ta a) : SI cl xf W p (iStr ta) (diP itS a) := by
  refine ⟨fun _ δ => Out.same_ofO, fun A L B H δ σ R j k => ?_⟩
  unfold diP at k
  cases e : (a δ).bind itS with
  | none => rw [e] at k; exact k.elim
  | some its =>
    rw [e] at k
    obtain ⟨d, e1, e2⟩ := Option.bind_eq_some_iff.mp e
    obtain ⟨g, hg, _, _⟩ := j.drop0
    refine ha A L H δ σ g d _ hg e1 fun v fp h1 n1 => ?_
    unfold itS at e2
    split at e2
    · rename_i s
      cases e2
      obtain ⟨rfl, rfl, _⟩ := h1.leafv
      refine ⟨s, rfl, k _ A H B (Nx.refl j.ba) (fun _ h => h) j ?_⟩
      intro A1 H1 n1
      refine ⟨fun i hi => by simpa [Its] using hi, fun i hi => by simpa [Its] using hi, fun i x H2 d e hy p B1 δ σ hb j => ?_⟩
      obtain ⟨rfl, c, hc, rfl⟩ := hy
      have ed : d = D.str ⟨#[c]⟩ := by
        rw [List.getElem?_map] at e
        have : s.cps.toList[i]? = some c := by rw [Array.getElem?_toList]; exact hc
        rw [this] at e
        simpa using e.symm
      subst ed
      exact ⟨A1, Nx.refl j.ba, j.leaf rfl⟩
    · cases e2
/-- range(n) -/
def itR : D → Option (List D)
  | .v (.int n) => if n.natAbs < 2 ^ 62 then some ((List.range n.toNat).map fun (k : Nat) => D.int (k : Int)) else none
  | _ => none
def diD (f : D → Option (List D)) (a : DE) : DA := fun δ => (a δ).bind fun d δ1 => Out.ofO (f d) δ1
theorem it_range {lo : Int} {n : Nat} : ItOk cl L B (Itr lo n) ((List.range n).map fun (k : Nat) => D.int (lo + (k : Int))) A H := by
  intro A1 H1 n1
  refine ⟨fun i hi => by simpa [Itr] using hi, fun i hi => by simpa [Itr] using hi, fun i x H2 d e hy p B1 δ σ hb j => ?_⟩
  obtain ⟨rfl, rfl⟩ := hy
  have ed : d = D.int (lo + (i : Int)) := by
    rw [List.getElem?_map] at e
    obtain ⟨k, hk, rfl⟩ := Option.map_eq_some_iff.mp e
    obtain ⟨_, hk⟩ := List.getElem?_eq_some_iff.mp hk
    rw [List.getElem_range] at hk
    rw [hk]
  subst ed
  exact ⟨A1, Nx.refl j.ba, j.leaf rfl⟩
theorem si_range1 {a : DE} (ha : SE cl xf W p ta a) : SI cl xf W p (iRng1 (tCons ta tNil)) (diD itR a) := by
  refine ⟨fun hp δ => Out.same_bind (ha.pure hp δ) fun x => Out.same_ofO, fun A L B H δ σ R j k => ?_⟩
  unfold diD at k
  refine ha.run A L B H δ σ _ j ?_
  cases e : a δ with
  | bad => rw [e] at k; exact k
  | exc c xs s => rw [e] at k; exact k
  | ok d s =>
    rw [e] at k
    simp only [Out.bind] at k
    intro us A1 H1 n1 j1 v ev
    subst ev
    cases e2 : itR d with
    | none => rw [e2] at k; exact k.elim
    | some its =>
      rw [e2] at k
      unfold itR at e2
      split at e2
      · rename_i n
        split at e2
        · rename_i hn
          cases e2
          obtain ⟨v', f1, e0, h1⟩ := j1.one
          cases e0
          obtain ⟨rfl, _, _⟩ := h1.leafv
          refine ⟨n, rfl, by omega, by omega, k _ A1 H1 B n1 (fun _ h => h) j1.drop ?_⟩
          have h := it_range (cl := cl) (L := L) (B := B) (A := A1) (H := H1) (lo := 0) (n := n.toNat)
          simpa using h
        · cases e2
      · cases e2
/-- a value that is walked -/
theorem si_listD {a : DE} (ha : SE cl xf W p ta a) : SI cl xf W p (iList cl.K ta) (diD (itL true) a) := by
  refine ⟨fun hp δ => Out.same_bind (ha.pure hp δ) fun x => Out.same_ofO, fun A L B H δ σ R j k => ?_⟩
  unfold diD at k
  refine ha.run A L B H δ σ _ j ?_
  cases e : a δ with
  | bad => rw [e] at k; exact k
  | exc c xs s => rw [e] at k; exact k
  | ok d s =>
    rw [e] at k
    simp only [Out.bind] at k
    intro us A1 H1 n1 j1 v ev
    subst ev
    cases e2 : itL true d with
    | none => rw [e2] at k; exact k.elim
    | some its =>
      rw [e2] at k
      have key : ∃ B' fp, (∀ a, B a → B' a) ∧ Jt p cl A1 L B' H1 [] [] s σ ∧ Rp cl A1 L H1 true d v fp ∧ ∀ a ∈ fp, B' a := by
        obtain ⟨v', f1, e0, h1⟩ := j1.one
        cases e0
        cases p with
        | true => exact ⟨A1, f1, j1.ba, j1.drop.toPure, h1.weak, fun a ha => (h1.inA a ha).1⟩
        | false =>
          obtain ⟨f, q1, q2, q3, q4⟩ := j1.hide
          simp only [Rps] at q1
          obtain ⟨v0, vs0, f2, f3, e1, rfl, q1, rfl, rfl⟩ := q1
          cases e1
          exact ⟨_, f2, fun a h => .inl h, q4, q1.weak, fun a ha => .inr (by simpa using ha)⟩
      obtain ⟨B', fp, hb, j', h1, hfp⟩ := key
      unfold itL at e2
      split at e2
      · split at e2
        · rename_i w xs hk
          cases e2
          obtain ⟨a0, o, us, fp', rfl, hs, hst, hr⟩ := h1.stands (B := B') j'.lb (fun _ => hfp)
          cases hs
          exact ⟨a0, rfl, ⟨us, SqL.of (hst A1 H1 (Nx.refl j'.ba))⟩, k _ A1 H1 B' n1 hb j' (it_list j'.lb (fun A1 H1 n => SqL.of (hst A1 H1 n)) hr hk.1)⟩
        · cases e2
      · cases e2
        obtain ⟨a0, rfl, hs, rfl, hor⟩ := h1.scr
        exact ⟨a0, rfl, ⟨_, hs⟩, k _ A1 H1 B' n1 hb j' (it_scr hor j'.lb)⟩
      · cases e2
/-- append to a name's list -/
def dApp (i : Nat) (a : DE) : DE := fun δ => match (δ[i]?).join with
  | some (.n .lst _ _) => (a δ).bind fun y δ1 => (match (δ1[i]?).join with
    | some (.n .lst .own xs) => if xs.length < 100000 then .ok .non (δ1.set i (some (.n .lst .own (xs ++ [frz y])))) else .bad
    | _ => .bad)
  | _ => .bad
theorem Jt.take {i : Nat} {d : D} (j : Jt false cl A L B H ts vs δ σ) (e : (δ[i]?).join = some d) (hf : d.free = true) : ∃ v, σ[i]? = some (some v) ∧ Jt false cl A L B H (d :: ts) (v :: vs) (δ.set i none) σ := by
  obtain ⟨f, g, h1, h2, h3, h4, h5⟩ := j.ex
  have nd := List.nodup_append.mp h3
  obtain ⟨v, f1, f2, k1, k2, k3, k4, k5⟩ := h2.take (join_some e) nd.2.1
  have k4' := List.nodup_append.mp k4
  refine ⟨v, k1, ⟨⟨f1 ++ f, f2, by simp only [Rps]; exact ⟨v, vs, f1, f, rfl, rfl, k2.free hf, h1⟩, k3, ?_, fun a ha => ?_, fun _ a ha => h5 rfl a ((k5 a).mp (List.mem_append_right _ ha))⟩, j.lb, j.ba, j.ad⟩⟩
  · rw [List.append_assoc]
    refine nodup_mid (List.nodup_append.mpr ⟨nd.1, k4, fun a ha c hc => nd.2.2 a ha c ((k5 c).mp hc)⟩)
  · rcases List.mem_append.mp ha with ha | ha
    · exact h5 rfl a ((k5 a).mp (List.mem_append_left _ ha))
    · exact h4 a ha
theorem se_app {K : PySem.W.Frag} {i : Nat} {a : DE} (ha : SE cl xf W false ta a) : SE cl xf W false (tBM K "list" rAppend (tVar i) (tCons ta tNil)) (dApp i a) := by
  refine ⟨fun z => (by cases z), fun A L B H δ σ Q j k => ?_⟩
  unfold dApp at k
  split at k
  · rename_i w0 xs0 e0
    obtain ⟨g, hg, _, _⟩ := j.drop0
    obtain ⟨v0, f0, q1, q2, _⟩ := hg.get (join_some e0)
    obtain ⟨a0, o0, us0, fp0, rfl, ho0, hs0, _⟩ := q2.node
    cases hs0
    refine ⟨_, q1, .inl ⟨rfl, _, SqL.of ho0⟩, ha.run A L B H δ σ _ j (Post.bind (γ := D) k fun y δ1 vs A1 H1 e1 n1 j1 k1 w ev => ?_)⟩
    subst ev
    split at k1
    · rename_i xs e2
      split at k1
      · rename_i hl
        obtain ⟨v, hv, j2⟩ := j1.take e2 rfl
        rw [q1] at hv
        cases hv
        obtain ⟨D0, us, A2, ev, hD, hlen, n2, j3⟩ := j2.push
        cases ev
        have j4 := j3.put (i := i)
        rw [set_set_eq q1, List.set_set] at j4
        exact ⟨a0, us, w, rfl, rfl, hD, by rw [hlen]; exact sz_lt hl, k1 _ A2 _ (n1.trans n2) (j4.leaf rfl) _ rfl⟩
      · exact k1.elim
    · exact k1.elim
  · exact k.elim
/-- x[k] = e, x a name's list -/
def dsSetL (i : Nat) (ix : DE) (e : DE) : DS := fun δ => (e δ).bind fun y δ1 => if (δ1[i]?).join.isSome then (ix δ1).bind fun k δ2 => (match (δ2[i]?).join, k with
  | some (.n .lst .own xs), .v (.int n) => (match ixN xs.length n with | some m => .ok .nx (δ2.set i (some (.n .lst .own (xs.set m (frz y))))) | none => .bad)
  | _, _ => .bad) else .bad
theorem Rps.set : ∀ {ds : List D} {us : List V} {f : List Addr} {m : Nat} {d : D} {v : V}, Rps cl A L H false ds us f → Rp cl A L H false d v [] → f.Nodup → ∃ f', Rps cl A L H false (ds.set m d) (us.set m v) f' ∧ f'.Nodup ∧ ∀ a ∈ f', a ∈ f
  | [], us, f, m, d, v, h, hd, nd => by simp only [Rps] at h; rw [h.1, h.2]; exact ⟨[], by simp [Rps], List.nodup_nil, by simp⟩
  | d0 :: ds, us, f, m, d, v, h, hd, nd => by
    simp only [Rps] at h
    obtain ⟨v0, us', f1, f2, rfl, rfl, h3, h4⟩ := h
    have nd' := List.nodup_append.mp nd
    cases m with
    | zero => exact ⟨f2, by simp only [List.set_cons_zero, Rps]; exact ⟨v, us', [], f2, rfl, rfl, hd, h4⟩, nd'.2.1, fun a ha => List.mem_append_right _ ha⟩
    | succ m =>
      obtain ⟨f', k1, k2, k3⟩ := Rps.set (m := m) h4 hd nd'.2.1
      refine ⟨f1 ++ f', by simp only [List.set_cons_succ, Rps]; exact ⟨v0, _, f1, f', rfl, rfl, h3, k1⟩, List.nodup_append.mpr ⟨nd'.1, k2, fun a ha c hc => nd'.2.2 a ha c (k3 c hc)⟩, fun a ha => ?_⟩
      rcases List.mem_append.mp ha with ha | ha
      · exact List.mem_append_left _ ha
      · exact List.mem_append_right _ (k3 a ha)
theorem PostS.seq {α : Type} {ts : List D} {ws' : List V} {o : Out α} {f : α → Sl → Out Flow} {E : Ends} {den0 : α → List D} {Q0 : α → List V → Hp → Prop} {B' : Addr → Prop} (h : PostS cl xf W ws (o.bind f) A L B H σ E) (lb : ∀ a, L a → B a) (hb : ∀ a, B a → B' a)
    (hj : ∀ A2 H2 us xs δ2, (false = true → δ2 = δ) → Nx A B' H A2 H2 → Jt false cl A2 L B' H2 us xs δ2 σ → Jt false cl A2 L B H2 (ts ++ us) (ws' ++ xs) δ2 σ)
    (k : ∀ a δ1 vs A' H', o = .ok a δ1 → Nx A B H A' H' → Jt false cl A' L B H' (ts ++ den0 a) (ws' ++ vs) δ1 σ → PostS cl xf W ws (f a δ1) A L B H σ E → Q0 a vs H') : Post cl xf W false o den0 A L B' H σ Q0 := by
  cases o with
  | ok a s => exact fun vs A' H' n j => k a s vs A' H' rfl (n.weak hb) (hj A' H' _ _ _ (by simp) n j) h
  | exc c xs s => exact fun d vs A' H' n x j => h d vs A' H' σ (n.weak hb) (Kp.refl σ) x (j.lower hb lb)
  | bad => exact h
theorem ss_setL {i : Nat} {ix e : DE} (he : SE cl xf W false te e) (hi : SE cl xf W false ta ix) : SS cl xf W ws (tAsg te (gSub (tVar i) ta rSetL)) (dsSetL i ix e) := fun A L B H δ σ E j k => by
  refine he.run A L B H δ σ _ j (PostS.bind k fun y δ1 vs A1 H1 e1 n1 j1 k1 v ev => ?_)
  subst ev
  by_cases hsl : (δ1[i]?).join.isSome = true
  case neg => rw [if_neg hsl] at k1; exact k1.elim
  rw [if_pos hsl] at k1
  obtain ⟨v0, hv0⟩ := slot_some j1 hsl
  obtain ⟨B', j2, hb, hj⟩ := j1.seq
  refine ⟨v0, hv0, hi.run A1 L B' H1 δ1 σ _ j2 (PostS.seq (ts := [y]) (ws' := [v]) (PostS.step k1 n1 (Kp.refl σ)) j1.lb hb hj fun kk δ2 ks A2 H2 e2 n2 j3 k2 kv ek => ?_)⟩
  subst ek
  split at k2
  · rename_i xs n es
    split at k2
    · rename_i m em
      obtain ⟨v1, hv1, j4⟩ := j3.take es rfl
      rw [hv0] at hv1
      cases hv1
      have hk := j4.tailK
      obtain ⟨A3, n3, j5⟩ := j4.freezeTail
      obtain ⟨a, o, us, f, rfl, ho, hs, hr, ht, nf, hm⟩ := j5.look hk
      cases hs
      simp only [frzs, List.cons_append, List.nil_append, Rps] at ht
      obtain ⟨w1, ws1, g1, g2, e3, e4, h5, w2, ws2, g3, g4, e5, e6, h6, e7, e8⟩ := ht
      cases e3
      cases e5
      have e4' := List.append_eq_nil_iff.mp e4.symm
      have e6' := List.append_eq_nil_iff.mp (e4'.2.symm.trans e6).symm
      obtain ⟨rfl, _⟩ := e4'
      obtain ⟨rfl, _⟩ := e6'
      simp only [frz] at h6
      obtain ⟨rfl, _, _⟩ := h6.leafv
      obtain ⟨f', r1, r2, r3⟩ := hr.set (m := m) h5 nf
      have h := hm .lst (us.set m v) (.lst (us.set m v)) (xs.set m (frz y)) f' rfl r1 r2 r3
      have j6 := h.2.put (i := i)
      rw [set_set_eq hv0, List.set_set] at j6
      exact ⟨a, us, n, m, rfl, rfl, ho, by rw [← hr.length]; exact em, k2 A3 _ σ (n2.trans (n3.trans h.1)) (Kp.refl σ) j6⟩
    · exact k2.elim
  · exact k2.elim
end
end Fs
/-! F11 -/
/-! A piece of the program's text with what it makes of data. -/
namespace Fs
open PySem PySem.Spec PyProof.Rows L2
section
variable (cl : Ec) (xf : Nat → List Str) (X : Cx) (W : WX) (ws : Nat → Bool)
def Rd (p : Bool) (e : Expr) (de : DE) : Prop := ∃ te, PE X e te ∧ SE cl xf W p te de
def Rk (e : Expr) (pp : PP) : Prop := ∃ te, PE X e te ∧ SP cl te pp
def Rt (p : Bool) (e : Expr) (dt : DT) : Prop := ∃ tt, L2.PT X e tt ∧ SB cl xf W p tt dt
def Rw (p : Bool) (e : Expr) (dt : DT) : Prop := ∃ tt, PW X e tt ∧ SB cl xf W p tt dt
def Ra (p : Bool) (es : List Expr) (da : DA) : Prop := ∃ ta, L2.PA X es ta ∧ SA cl xf W p ta da
def Rc (es : List Expr) (da : DA) : Prop := ∃ ta, L2.PA X es ta ∧ SC cl xf W ta da
def Rq (es : List Expr) (ks : List AK) : Prop := ∃ ta, L2.PA X es ta ∧ SQ cl xf W ta ks
def Ri (p : Bool) (tg e : Expr) (di : DA) : Prop := ∃ wi, PI X tg e wi ∧ SI cl xf W p wi di
def Rg (tg : Expr) (t : D → Sl → Option Sl) : Prop := ∃ g, PG X tg g ∧ SG cl ws g t
def Rgs (tg : List Expr) (t : List (D → Sl → Option Sl)) : Prop := ∃ g, PGs X tg g ∧ SGs cl ws g t
def Rs (st : Stmt) (ds : DS) : Prop := ∃ t, PS X st t ∧ SS cl xf W ws t ds
def Rb (sts : List Stmt) (ds : DS) : Prop := ∃ t, PSs X sts t ∧ SS cl xf W ws t ds
/-- an operation on two expressions, on one, as the text says it -/
def B2 (e a b : Expr) (r : R2) : Prop := ∀ ta tb, PE X a ta → PE X b tb → PE X e (tOp r ta tb)
def B1 (e a : Expr) (r : V → Hp → VK → Prop) : Prop := ∀ ta, PE X a ta → PE X e (tUn r ta)
end
section
variable {cl : Ec} {xf : Nat → List Str} {X : Cx} {W : WX} {ws : Nat → Bool} {p : Bool} {e a b c : Expr} {es : List Expr} {da db dc : DE} {pa pb : PP} {r : R2} {r1 : V → Hp → VK → Prop} {f : D → D → Option D} {f1 : D → Option D} {pos pos' : Pos}
/-! peeks -/
theorem k_var (i : Nat) {x : Str} (hN : X.N[i]? = some x := by rfl) (hv : Vis X.env.scope x := by first | exact Or.inl rfl | exact Or.inr (Or.inl rfl) | exact Or.inr (Or.inr rfl)) (hd : (x == ("__debug__" : Str)) = false := by decide) (hcd : (x == ("__classdict__" : Str)) = false := by decide) : Rk cl X (.Name x pos) (pVar i) := ⟨_, pe_var hN hv hd hcd, sp_var⟩
theorem k_int {i : Int} {j : Nat} : Rk cl X (.Constant (.int i) j pos) (pC (.int i)) := ⟨_, pe_int, sp_c rfl⟩
theorem k_bl {i : Bool} {j : Nat} : Rk cl X (.Constant (.bool i) j pos) (pC (.bl i)) := ⟨_, pe_bl, sp_c rfl⟩
theorem k_non {j : Nat} : Rk cl X (.Constant .none j pos) (pC .non) := ⟨_, pe_non, sp_c rfl⟩
theorem k_str {s : Str} {j : Nat} : Rk cl X (.Constant (.str s) j pos) (pC (.str s)) := ⟨_, pe_str, sp_c rfl⟩
theorem k_glob {x : Str} {v : V} {u : Value} (hm : X.mg x = some u) (rv : RelV v u) (hs : sc v = true := by rfl) (hg : Gl X x := by rfl) (hd : (x == ("__debug__" : Str)) = false := by decide) : Rk cl X (.Name x pos) (pC v) := ⟨_, pe_glob hg hm rv hd, sp_c hs⟩
theorem k_op (o : B2 X e a b r) (h : POp cl r f) (ha : Rk cl X a pa) (hb : Rk cl X b pb) : Rk cl X e (pOp f pa pb) := by
  obtain ⟨ta, h1, h2⟩ := ha
  obtain ⟨tb, h3, h4⟩ := hb
  exact ⟨_, o _ _ h1 h3, sp_op h h2 h4⟩
theorem k_un (o : B1 X e a r1) (h : PUn cl r1 f1) (ha : Rk cl X a pa) : Rk cl X e (pUn f1 pa) := by
  obtain ⟨ta, h1, h2⟩ := ha
  exact ⟨_, o _ h1, sp_un h h2⟩
/-! values -/
theorem d_p (ha : Rk cl X a pa) : Rd cl xf X W p a (dP pa) := by obtain ⟨ta, h1, h2⟩ := ha; exact ⟨_, h1, se_p h2⟩
theorem Rd.to (ha : Rd cl xf X W true a da) : Rd cl xf X W p a da := by obtain ⟨ta, h1, h2⟩ := ha; exact ⟨_, h1, h2.to⟩
theorem d_dd (o : B2 X e a b r) (h : GOp cl r f) (ha : Rd cl xf X W p a da) (hb : Rd cl xf X W p b db) : Rd cl xf X W p e (d2 f da db) := by
  obtain ⟨ta, h1, h2⟩ := ha
  obtain ⟨tb, h3, h4⟩ := hb
  exact ⟨_, o _ _ h1 h3, se_dd h h2 h4⟩
theorem d_pp (o : B2 X e a b r) (h : GOp cl r f) (ha : Rk cl X a pa) (hb : Rk cl X b pb) : Rd cl xf X W p e (dPP f pa pb) := by
  obtain ⟨ta, h1, h2⟩ := ha
  obtain ⟨tb, h3, h4⟩ := hb
  exact ⟨_, o _ _ h1 h3, se_pp h h2 h4⟩
theorem d_pd (o : B2 X e a b r) (h : GOp cl r f) (ha : Rk cl X a pa) (hb : Rd cl xf X W true b db) : Rd cl xf X W p e (dPD f pa db) := by
  obtain ⟨ta, h1, h2⟩ := ha
  obtain ⟨tb, h3, h4⟩ := hb
  exact ⟨_, o _ _ h1 h3, se_pd h h2 h4⟩
theorem d_dp (o : B2 X e a b r) (h : GOp cl r f) (ha : Rd cl xf X W p a da) (hb : Rk cl X b pb) : Rd cl xf X W p e (dDP f da pb) := by
  obtain ⟨ta, h1, h2⟩ := ha
  obtain ⟨tb, h3, h4⟩ := hb
  exact ⟨_, o _ _ h1 h3, se_dp h h2 h4⟩
theorem d_vd (i : Nat) {x : Str} (o : B2 X e (.Name x pos) b r) (h : GOp cl r f) (hb : Rd cl xf X W false b db) (hN : X.N[i]? = some x := by rfl) (hv : Vis X.env.scope x := by first | exact Or.inl rfl | exact Or.inr (Or.inl rfl) | exact Or.inr (Or.inr rfl)) (hd : (x == ("__debug__" : Str)) = false := by decide) (hcd : (x == ("__classdict__" : Str)) = false := by decide) : Rd cl xf X W false e (dVD f i db) := by
  obtain ⟨tb, h3, h4⟩ := hb
  exact ⟨_, o _ _ (pe_var hN hv hd hcd) h3, se_vd h h4⟩
theorem d_1d (o : B1 X e a r1) (h : GUn cl r1 f1) (ha : Rd cl xf X W p a da) : Rd cl xf X W p e (d1 f1 da) := by
  obtain ⟨ta, h1, h2⟩ := ha
  exact ⟨_, o _ h1, se_1d h h2⟩
theorem d_1p (o : B1 X e a r1) (h : GUn cl r1 f1) (ha : Rk cl X a pa) : Rd cl xf X W p e (dP1 f1 pa) := by
  obtain ⟨ta, h1, h2⟩ := ha
  exact ⟨_, o _ h1, se_1p h h2⟩
theorem d_mv (i : Nat) {x : Str} (hN : X.N[i]? = some x := by rfl) (hv : Vis X.env.scope x := by first | exact Or.inl rfl | exact Or.inr (Or.inl rfl) | exact Or.inr (Or.inr rfl)) (hd : (x == ("__debug__" : Str)) = false := by decide) (hcd : (x == ("__classdict__" : Str)) = false := by decide) : Rd cl xf X W false (.Name x pos) (dMv i) := ⟨_, pe_var hN hv hd hcd, se_mv⟩
theorem d_fz (i : Nat) {x : Str} (hN : X.N[i]? = some x := by rfl) (hv : Vis X.env.scope x := by first | exact Or.inl rfl | exact Or.inr (Or.inl rfl) | exact Or.inr (Or.inr rfl)) (hd : (x == ("__debug__" : Str)) = false := by decide) (hcd : (x == ("__classdict__" : Str)) = false := by decide) : Rd cl xf X W false (.Name x pos) (dFz i) := ⟨_, pe_var hN hv hd hcd, se_fz⟩
theorem a_nil : Ra cl xf X W p [] daNil := ⟨_, pa_nil, sa_nil⟩
theorem a_cons {da' : DA} (ha : Rd cl xf X W p e da) (hr : Ra cl xf X W p es da') (hs : starEach (e :: es) X.env = (false, eval e X.env) :: starEach es X.env := by rfl) : Ra cl xf X W p (e :: es) (daCons da da') := by
  obtain ⟨ta, h1, h2⟩ := ha
  obtain ⟨tb, h3, h4⟩ := hr
  exact ⟨_, pa_cons h1 h3 hs, sa_cons h2 h4⟩
theorem d_lst {da' : DA} (h : Ra cl xf X W p es da') : Rd cl xf X W p (.List es pos) (dF mkLst da') := by obtain ⟨ta, h1, h2⟩ := h; exact ⟨_, pe_lst h1, se_lst h2⟩
theorem d_tup {x1} {da' : DA} (h : Ra cl xf X W p es da') : Rd cl xf X W p (.Tuple es x1 pos) (dF mkTup da') := by obtain ⟨ta, h1, h2⟩ := h; exact ⟨_, pe_tup h1, se_tup h2⟩
theorem d_and {rest : List Expr} (ha : Rd cl xf X W p a da) (hb : Rd cl xf X W p (.BoolOp .And (b :: rest) pos) db) : Rd cl xf X W p (.BoolOp .And (a :: b :: rest) pos) (dAnd da db) := by
  obtain ⟨ta, h1, h2⟩ := ha
  obtain ⟨tb, h3, h4⟩ := hb
  exact ⟨_, pe_and h1 h3, se_and h2 h4⟩
theorem d_or {rest : List Expr} (ha : Rd cl xf X W p a da) (hb : Rd cl xf X W p (.BoolOp .Or (b :: rest) pos) db) : Rd cl xf X W p (.BoolOp .Or (a :: b :: rest) pos) (dOr da db) := by
  obtain ⟨ta, h1, h2⟩ := ha
  obtain ⟨tb, h3, h4⟩ := hb
  exact ⟨_, pe_or h1 h3, se_or h2 h4⟩
theorem d_one {op} (ha : Rd cl xf X W p a da) : Rd cl xf X W p (.BoolOp op [a] pos) da := by obtain ⟨ta, h1, h2⟩ := ha; exact ⟨_, pe_one h1, h2⟩
theorem d_not (ha : Rd cl xf X W p a da) : Rd cl xf X W p (.UnaryOp .Not a pos) (d1S notD da) := by obtain ⟨ta, h1, h2⟩ := ha; exact ⟨_, pe_not h1, se_not h2⟩
theorem d_if {dt : DT} (hc : Rt cl xf X W p c dt) (ha : Rd cl xf X W p a da) (hb : Rd cl xf X W p b db) : Rd cl xf X W p (.IfExp c a b pos) (dIf dt da db) := by
  obtain ⟨tc, h5, h6⟩ := hc
  obtain ⟨ta, h1, h2⟩ := ha
  obtain ⟨tb, h3, h4⟩ := hb
  exact ⟨_, pe_ifExp h5 h1 h3, se_if h6 h2 h4⟩
theorem d_ch {op op' : CmpOp} {r r' : R2} {f g : D → D → Option D} (ho : OpR X (compareOp op) r) (ho' : OpR X (compareOp op') r') (hf : POp cl r f) (hg : POp cl r' g) (ha : Rd cl xf X W p a da) (hb : Rd cl xf X W p b db) (hc : Rd cl xf X W p c dc) (hm : lastMarks [op, op'] [b, c] = false := by with_unfolding_all rfl) :
    Rd cl xf X W p (.Compare a [op, op'] [b, c] pos) (dCh f g da db dc) := by
  obtain ⟨ta, h1, h2⟩ := ha
  obtain ⟨tb, h3, h4⟩ := hb
  obtain ⟨tc, h5, h6⟩ := hc
  exact ⟨_, pe_chain ho ho' h1 h3 h5 hm, se_ch hf hg h2 h4 h6⟩
/-! tests -/
theorem t_v (ha : Rd cl xf X W p a da) (he : ∀ whole, isTrue a X.env whole = (do let v ← whole; standAt a.pos; holding [v] (truthy v)) := by intro _; rfl) : Rt cl xf X W p a (dtV da) := by obtain ⟨ta, h1, h2⟩ := ha; exact ⟨_, pt_val h1 he, sb_v h2⟩
/-- a comparison as a test: o2 says it as a value and as a test -/
def C2 (X : Cx) (e a b : Expr) (r : R2) : Prop := ∀ ta tb, PE X a ta → PE X b tb → L2.PT X e (tTest (tOp r ta tb))
theorem t_cmp (o : ∃ op pos, e = .Compare a [op] [b] pos ∧ OpR X (compareOp op) r ∧ behindInMarks op b = false) {de : DE} (h : ∀ o2 : B2 X e a b r, Rd cl xf X W p e de) : True := trivial
theorem t_dd (o : C2 X e a b r) (h : GOp cl r f) (ha : Rd cl xf X W p a da) (hb : Rd cl xf X W p b db) : Rt cl xf X W p e (dtV (d2 f da db)) := by
  obtain ⟨ta, h1, h2⟩ := ha
  obtain ⟨tb, h3, h4⟩ := hb
  exact ⟨_, o _ _ h1 h3, sb_v (se_dd h h2 h4)⟩
theorem t_pp (o : C2 X e a b r) (h : GOp cl r f) (ha : Rk cl X a pa) (hb : Rk cl X b pb) : Rt cl xf X W p e (dtV (dPP f pa pb)) := by
  obtain ⟨ta, h1, h2⟩ := ha
  obtain ⟨tb, h3, h4⟩ := hb
  exact ⟨_, o _ _ h1 h3, sb_v (se_pp h h2 h4)⟩
theorem t_pd (o : C2 X e a b r) (h : GOp cl r f) (ha : Rk cl X a pa) (hb : Rd cl xf X W true b db) : Rt cl xf X W p e (dtV (dPD f pa db)) := by
  obtain ⟨ta, h1, h2⟩ := ha
  obtain ⟨tb, h3, h4⟩ := hb
  exact ⟨_, o _ _ h1 h3, sb_v (se_pd h h2 h4)⟩
theorem t_dp (o : C2 X e a b r) (h : GOp cl r f) (ha : Rd cl xf X W p a da) (hb : Rk cl X b pb) : Rt cl xf X W p e (dtV (dDP f da pb)) := by
  obtain ⟨ta, h1, h2⟩ := ha
  obtain ⟨tb, h3, h4⟩ := hb
  exact ⟨_, o _ _ h1 h3, sb_v (se_dp h h2 h4)⟩
theorem t_vd (i : Nat) {x : Str} (o : C2 X e (.Name x pos) b r) (h : GOp cl r f) (hb : Rd cl xf X W false b db) (hN : X.N[i]? = some x := by rfl) (hv : Vis X.env.scope x := by first | exact Or.inl rfl | exact Or.inr (Or.inl rfl) | exact Or.inr (Or.inr rfl)) (hd : (x == ("__debug__" : Str)) = false := by decide) (hcd : (x == ("__classdict__" : Str)) = false := by decide) : Rt cl xf X W false e (dtV (dVD f i db)) := by
  obtain ⟨tb, h3, h4⟩ := hb
  exact ⟨_, o _ _ (pe_var hN hv hd hcd) h3, sb_v (se_vd h h4)⟩
theorem t_ch {op op' : CmpOp} {r r' : R2} {f g : D → D → Option D} (ho : OpR X (compareOp op) r) (ho' : OpR X (compareOp op') r') (hf : POp cl r f) (hg : POp cl r' g) (ha : Rd cl xf X W p a da) (hb : Rd cl xf X W p b db) (hc : Rd cl xf X W p c dc) (hm : lastMarks [op, op'] [b, c] = false := by with_unfolding_all rfl) :
    Rt cl xf X W p (.Compare a [op, op'] [b, c] pos) (dtV (dCh f g da db dc)) := by
  obtain ⟨ta, h1, h2⟩ := ha
  obtain ⟨tb, h3, h4⟩ := hb
  obtain ⟨tc, h5, h6⟩ := hc
  exact ⟨_, pt_chain ho ho' h1 h3 h5 hm, sb_v (se_ch hf hg h2 h4 h6)⟩
theorem t_not {dt : DT} (ha : Rt cl xf X W p a dt) : Rt cl xf X W p (.UnaryOp .Not a pos) (dtNot dt) := by obtain ⟨ta, h1, h2⟩ := ha; exact ⟨_, pt_not h1, sb_not h2⟩
theorem t_w {dt : DT} (ha : Rw cl xf X W p a dt) : Rt cl xf X W p a dt := by obtain ⟨ta, h1, h2⟩ := ha; exact ⟨_, PW.pt h1, h2⟩
theorem w_and1 {dt : DT} (ha : Rt cl xf X W p a dt) : Rw cl xf X W p (.BoolOp .And [a] pos) dt := by obtain ⟨ta, h1, h2⟩ := ha; exact ⟨_, pw_and1 h1, h2⟩
theorem w_or1 {dt : DT} (ha : Rt cl xf X W p a dt) : Rw cl xf X W p (.BoolOp .Or [a] pos) dt := by obtain ⟨ta, h1, h2⟩ := ha; exact ⟨_, pw_or1 h1, h2⟩
theorem w_and {rest : List Expr} {dt du : DT} (ha : Rt cl xf X W p a dt) (hb : Rw cl xf X W p (.BoolOp .And (b :: rest) pos) du) : Rw cl xf X W p (.BoolOp .And (a :: b :: rest) pos) (dtAnd dt du) := by
  obtain ⟨ta, h1, h2⟩ := ha
  obtain ⟨tb, h3, h4⟩ := hb
  exact ⟨_, pw_and h1 h3, sb_and h2 h4⟩
theorem w_or {rest : List Expr} {dt du : DT} (ha : Rt cl xf X W p a dt) (hb : Rw cl xf X W p (.BoolOp .Or (b :: rest) pos) du) : Rw cl xf X W p (.BoolOp .Or (a :: b :: rest) pos) (dtOr dt du) := by
  obtain ⟨ta, h1, h2⟩ := ha
  obtain ⟨tb, h3, h4⟩ := hb
  exact ⟨_, pw_or h1 h3, sb_or h2 h4⟩
/-! calls of the program's own defs -/
structure Fn (cl : Ec) (xf : Nat → List Str) (P : Program) (w : World) (K : PySem.W.Frag) (mg : Str → Option Value) (base : Heap) (x : Str) (k np : Nat) (F : List D → Out D) : Prop where
  ex : ∃ f fd ps, FnG P w K mg base (L2.CX P w) k f fd ps (spF cl xf np F) ∧ mg x = some (.ref f) ∧ PySem.W.keepIn K (.ref f) = true ∧ Binds K fd ps []
theorem c_nil : Rc cl xf X W [] daNil := ⟨_, pa_nil, sc_nil⟩
theorem c_val {da' : DA} (ha : Rd cl xf X W true e da) (hr : Rc cl xf X W es da') (hs : starEach (e :: es) X.env = (false, eval e X.env) :: starEach es X.env := by rfl) : Rc cl xf X W (e :: es) (daCons da da') := by
  obtain ⟨ta, h1, h2⟩ := ha
  obtain ⟨tb, h3, h4⟩ := hr
  exact ⟨_, pa_cons h1 h3 hs, sc_val h2 h4⟩
theorem c_lend {da' : DA} (ha : Rk cl X e pa) (hr : Rc cl xf X W es da') (hs : starEach (e :: es) X.env = (false, eval e X.env) :: starEach es X.env := by rfl) : Rc cl xf X W (e :: es) (daLend pa da') := by
  obtain ⟨ta, h1, h2⟩ := ha
  obtain ⟨tb, h3, h4⟩ := hr
  exact ⟨_, pa_cons h1 h3 hs, sc_lend h2 h4⟩
/-- how many arguments -/
def DL (n : Nat) (da : DA) : Prop := ∀ δ ds s, da δ = .ok ds s → ds.length = n
theorem dl_nil : DL 0 daNil := fun δ ds s e => by cases e; rfl
theorem dl_cons {n : Nat} {da' : DA} (h : DL n da') : DL (n + 1) (daCons da da') := fun δ ds s e => by
  unfold daCons at e
  cases e1 : da δ with
  | bad => rw [e1] at e; cases e
  | exc c xs s => rw [e1] at e; cases e
  | ok x s1 =>
    rw [e1] at e
    simp only [Out.bind] at e
    cases e2 : da' s1 with
    | bad => rw [e2] at e; cases e
    | exc c xs s => rw [e2] at e; cases e
    | ok xs s2 => rw [e2] at e; cases e; simp [h _ _ _ e2]
theorem dl_lend {n : Nat} {da' : DA} (h : DL n da') : DL (n + 1) (daLend pa da') := fun δ ds s e => by
  unfold daLend at e
  split at e
  · cases e2 : da' δ with
    | bad => rw [e2] at e; cases e
    | exc c xs s => rw [e2] at e; cases e
    | ok xs s2 => rw [e2] at e; cases e; simp [h _ _ _ e2]
  · cases e
theorem d_call {F : List D → Out D} {x : Str} {k m np : Nat} {da' : DA} {pp : Pos} (Fk : Fn cl xf X.prog X.w X.K X.mg X.base x k np F) (hr : RoomG m X.A) (hkm : k ≤ m) (tk : Takes X W) (ha : Rc cl xf X W (e :: es) da') (hn : DL np da') (hg : Gl X x := by rfl)
    (hdb : (x == ("__debug__" : Str)) = false := by decide) (he : starEach (e :: es) X.env = (false, eval e X.env) :: starEach es X.env := by rfl) (hpl : (backTo pos (starEach es X.env)).any (·.1) = false := by rfl) : Rd cl xf X W p (.Call (.Name x pp) (e :: es) [] pos) (dCall F da') := by
  obtain ⟨ta, h1, h2⟩ := ha
  obtain ⟨f, fd, ps, hF, hm, hk, hb⟩ := Fk.ex
  exact ⟨_, pe_callG hF (hr.mono hkm) hg hm hk hb (fun σ => passAt tk σ) h1 hdb he hpl, (se_call h2 hn).to⟩
theorem q_nil : Rq cl xf X W [] [] := ⟨_, pa_nil, sq_nil⟩
theorem q_val {ks : List AK} (ha : Rd cl xf X W false e da) (hr : Rq cl xf X W es ks) (hs : starEach (e :: es) X.env = (false, eval e X.env) :: starEach es X.env := by rfl) : Rq cl xf X W (e :: es) (.v da :: ks) := by
  obtain ⟨ta, h1, h2⟩ := ha
  obtain ⟨tb, h3, h4⟩ := hr
  exact ⟨_, pa_cons h1 h3 hs, sq_val h2 h4⟩
theorem q_l (i : Nat) {x : Str} {ks : List AK} (hr : Rq cl xf X W es ks) (hN : X.N[i]? = some x := by rfl) (hv : Vis X.env.scope x := by first | exact Or.inl rfl | exact Or.inr (Or.inl rfl) | exact Or.inr (Or.inr rfl)) (hd : (x == ("__debug__" : Str)) = false := by decide) (hcd : (x == ("__classdict__" : Str)) = false := by decide)
    (hs : starEach (.Name x pos :: es) X.env = (false, eval (.Name x pos) X.env) :: starEach es X.env := by rfl) : Rq cl xf X W (.Name x pos :: es) (.l i :: ks) := by
  obtain ⟨tb, h3, h4⟩ := hr
  exact ⟨_, pa_cons (pe_var hN hv hd hcd) h3 hs, sq_l h4⟩
theorem q_o (i : Nat) {x : Str} {ks : List AK} (hr : Rq cl xf X W es ks) (hN : X.N[i]? = some x := by rfl) (hv : Vis X.env.scope x := by first | exact Or.inl rfl | exact Or.inr (Or.inl rfl) | exact Or.inr (Or.inr rfl)) (hd : (x == ("__debug__" : Str)) = false := by decide) (hcd : (x == ("__classdict__" : Str)) = false := by decide)
    (hs : starEach (.Name x pos :: es) X.env = (false, eval (.Name x pos) X.env) :: starEach es X.env := by rfl) : Rq cl xf X W (.Name x pos :: es) (.o i :: ks) := by
  obtain ⟨tb, h3, h4⟩ := hr
  exact ⟨_, pa_cons (pe_var hN hv hd hcd) h3 hs, sq_o h4⟩
theorem d_io {F : List D → Out D} {x : Str} {k m np : Nat} {ks : List AK} {pp : Pos} (Fk : Fn cl xf X.prog X.w X.K X.mg X.base x k np F) (hr : RoomG m X.A) (hkm : k ≤ m) (tk : Takes X W) (ha : Rq cl xf X W (e :: es) ks) (hn : ks.length = np) (hg : Gl X x := by rfl)
    (hdb : (x == ("__debug__" : Str)) = false := by decide) (he : starEach (e :: es) X.env = (false, eval e X.env) :: starEach es X.env := by rfl) (hpl : (backTo pos (starEach es X.env)).any (·.1) = false := by rfl) : Rd cl xf X W false (.Call (.Name x pp) (e :: es) [] pos) (dCallIO F ks) := by
  obtain ⟨ta, h1, h2⟩ := ha
  obtain ⟨f, fd, ps, hF, hm, hk, hb⟩ := Fk.ex
  exact ⟨_, pe_callG hF (hr.mono hkm) hg hm hk hb (fun σ => passAt tk σ) h1 hdb he hpl, se_callIO h2 hn⟩
/-! what is walked -/
theorem i_listP {tg : Expr} (hK : X.K = cl.K) (ha : Rk cl X a pa) : Ri cl xf X W p tg a (diP (itL p) pa) := by obtain ⟨ta, h1, h2⟩ := ha; exact ⟨_, pi_list h1, by rw [hK]; exact si_listP h2⟩
theorem i_tupP {tg : Expr} (ha : Rk cl X a pa) : Ri cl xf X W p tg a (diP (itT p) pa) := by obtain ⟨ta, h1, h2⟩ := ha; exact ⟨_, pi_tup h1, si_tupP h2⟩
theorem i_strP {tg : Expr} (ha : Rk cl X a pa) : Ri cl xf X W p tg a (diP itS pa) := by obtain ⟨ta, h1, h2⟩ := ha; exact ⟨_, pi_str h1, si_strP h2⟩
theorem i_listD {tg : Expr} (hK : X.K = cl.K) (ha : Rd cl xf X W p a da) : Ri cl xf X W p tg a (diD (itL true) da) := by obtain ⟨ta, h1, h2⟩ := ha; exact ⟨_, pi_list h1, by rw [hK]; exact si_listD h2⟩
theorem i_range1 {tg : Expr} {pp : Pos} (hm : X.mg "range" = none) (ha : Rd cl xf X W p a da) (hg : Gl X "range" := by rfl) (hs : starEach [a] X.env = [(false, eval a X.env)] := by rfl) (hs2 : starEach (a :: []) X.env = (false, eval a X.env) :: starEach [] X.env := by rfl) : Ri cl xf X W p tg (.Call (.Name "range" pp) [a] [] pos) (diD itR da) := by
  obtain ⟨ta, h1, h2⟩ := ha
  exact ⟨_, pi_range1 hg hm (pa_cons h1 pa_nil hs2) hs, si_range1 h2⟩
/-! targets -/
theorem g_name (i : Nat) {x : Str} (hN : X.N.Nodup) (hw : ws i = true := by rfl) (hi : X.N[i]? = some x := by rfl) (hx : Loc X.env.scope x := by first | exact Or.inl rfl | exact Or.inr rfl) (hf : X.fn x = true ∨ X.env.scope.names.lookup x = some .local := by first | exact .inl rfl | exact .inr rfl) : Rg cl X ws (.Name x pos) (tgN i) := ⟨_, pg_name hN hi hx hf, sg_name hw⟩
theorem gs_nil : Rgs cl X ws [] [] := ⟨_, pgs_nil, sgs_nil⟩
end
end Fs
/-! F12 -/
/-! The same of statements, comprehensions, built-in functions. -/
namespace Fs
open PySem PySem.Spec PyProof.Rows L2
section
variable {cl : Ec} {xf : Nat → List Str} {X : Cx} {W : WX} {ws : Nat → Bool} {p : Bool} {e a b c tg : Expr} {es : List Expr} {da db dc : DE} {pa pb : PP} {r : R2} {r1 : V → Hp → VK → Prop} {f : D → D → Option D} {f1 : D → Option D} {pos pos' pp : Pos}
theorem gs_cons {tgs' : List (D → Sl → Option Sl)} {t : D → Sl → Option Sl} (h1 : Rg cl X ws e t) (h2 : Rgs cl X ws es tgs') (hs : (assignEach (e :: es) X.env).map (·.2) = assign e X.env :: (assignEach es X.env).map (·.2) := by rfl) : Rgs cl X ws (e :: es) (t :: tgs') := by
  obtain ⟨g, q1, q2⟩ := h1
  obtain ⟨g', q3, q4⟩ := h2
  exact ⟨_, pgs_cons q1 q3 hs, sgs_cons q2 q4⟩
theorem g_tup {k : Nat} {tgs' : List (D → Sl → Option Sl)} (h : Rgs cl X ws es tgs') (hc : X.calm = true := by rfl) (hn : (assignEach es X.env).length = tgs'.length := by rfl) (hst : (assignEach es X.env).findIdx? (·.1) = none := by rfl) : Rg cl X ws (.Tuple es k pos) (tgT tgs') := by
  obtain ⟨g, q1, q2⟩ := h
  exact ⟨_, pg_tup hc q1 hn hst, sg_tup rfl q2⟩
/-! comprehensions -/
theorem d_lcP {elt iter : Expr} {ifs : List Expr} {scope : Scope} {own : List (Str × Nat)} {di : DA} {t : D → Sl → Option Sl} {tst : DT} {elt' : DE} (hi : Ri cl xf X W true tg iter di) (ok : BlkOk X.N X.env.scope scope own) (hin : TgIn (own.map (·.2)) t)
    (hg : ∃ g, (∀ (s : Shared) (H : Hp) (C : Addr) (cl' : List (Str × Addr)) (fp : List Addr), PG (X.blk s H scope (compEnvC scope cl' C X.env) fp) tg g) ∧ SG cl (fun i => (own.map (·.2)).contains i) g t)
    (ht : ∃ tt, (∀ (s : Shared) (H : Hp) (C : Addr) (cl' : List (Str × Addr)) (fp : List Addr), PTs (X.blk s H scope (compEnvC scope cl' C X.env) fp) ifs tt) ∧ SB cl xf W0 true tt tst)
    (he : ∃ te, (∀ (s : Shared) (H : Hp) (C : Addr) (cl' : List (Str × Addr)) (fp : List Addr), PE (X.blk s H scope (compEnvC scope cl' C X.env) fp) elt te) ∧ SE cl xf W0 true te elt')
    (hN : X.N.Nodup) (hc : X.calm = true := by rfl) (hs : ∀ x, foldedSetIterable iter X.env x = pure x := by intro _; rfl) :
    Rd cl xf X W p (.ListComp elt [⟨tg, iter, ifs, 0⟩] scope pos) (dComp true (own.map (·.2)) di t tst elt') := by
  obtain ⟨wi, q1, q2⟩ := hi
  obtain ⟨g, q3, q4⟩ := hg
  obtain ⟨tt, q5, q6⟩ := ht
  obtain ⟨te, q7, q8⟩ := he
  exact ⟨_, pe_lc hc hN q1 ok q3 q5 q7 hs, (se_compP q2 q4 hin q6 q8).to⟩
theorem d_lc {elt iter : Expr} {ifs : List Expr} {scope : Scope} {own : List (Str × Nat)} {di : DA} {t : D → Sl → Option Sl} {tst : DT} {elt' : DE} (hi : Ri cl xf X W false tg iter di) (ok : BlkOk X.N X.env.scope scope own) (hin : TgIn (own.map (·.2)) t)
    (hg : ∃ g, (∀ (s : Shared) (H : Hp) (C : Addr) (cl' : List (Str × Addr)) (fp : List Addr), PG (X.blk s H scope (compEnvC scope cl' C X.env) fp) tg g) ∧ SG cl (fun i => (own.map (·.2)).contains i) g t)
    (ht : ∃ tt, (∀ (s : Shared) (H : Hp) (C : Addr) (cl' : List (Str × Addr)) (fp : List Addr), PTs (X.blk s H scope (compEnvC scope cl' C X.env) fp) ifs tt) ∧ SB cl xf W0 false tt tst)
    (he : ∃ te, (∀ (s : Shared) (H : Hp) (C : Addr) (cl' : List (Str × Addr)) (fp : List Addr), PE (X.blk s H scope (compEnvC scope cl' C X.env) fp) elt te) ∧ SE cl xf W0 false te elt')
    (hN : X.N.Nodup) (hc : X.calm = true := by rfl) (hs : ∀ x, foldedSetIterable iter X.env x = pure x := by intro _; rfl) :
    Rd cl xf X W false (.ListComp elt [⟨tg, iter, ifs, 0⟩] scope pos) (dComp false (own.map (·.2)) di t tst elt') := by
  obtain ⟨wi, q1, q2⟩ := hi
  obtain ⟨g, q3, q4⟩ := hg
  obtain ⟨tt, q5, q6⟩ := ht
  obtain ⟨te, q7, q8⟩ := he
  exact ⟨_, pe_lc hc hN q1 ok q3 q5 q7 hs, se_comp q2 q4 hin q6 q8⟩
/-- y = [..] -/
theorem s_lcP (i : Nat) {y : Str} {py : Pos} {elt iter : Expr} {ifs : List Expr} {scope : Scope} {own : List (Str × Nat)} {di : DA} {t : D → Sl → Option Sl} {tst : DT} {elt' : DE} (hi : Ri cl xf X W true tg iter di) (ok : BlkOk X.N X.env.scope scope own) (hin : TgIn (own.map (·.2)) t)
    (hg : ∃ g, (∀ (s : Shared) (H : Hp) (C : Addr) (cl' : List (Str × Addr)) (fp : List Addr), PG (X.blk s H scope (compEnvC scope cl' C X.env) fp) tg g) ∧ SG cl (fun i => (own.map (·.2)).contains i) g t)
    (ht : ∃ tt, (∀ (s : Shared) (H : Hp) (C : Addr) (cl' : List (Str × Addr)) (fp : List Addr), PTs (X.blk s H scope (compEnvC scope cl' C X.env) fp) ifs tt) ∧ SB cl xf W0 true tt tst)
    (he : ∃ te, (∀ (s : Shared) (H : Hp) (C : Addr) (cl' : List (Str × Addr)) (fp : List Addr), PE (X.blk s H scope (compEnvC scope cl' C X.env) fp) elt te) ∧ SE cl xf W0 true te elt')
    (hN : X.N.Nodup) (hsw : swapsWith (.ListComp elt [⟨tg, iter, ifs, 0⟩] scope pos) (some (.Name y py)) pos'.line X.env = pure true) (hw : ws i = true := by rfl) (hy : X.N[i]? = some y := by rfl) (hyl : X.env.scope.names.lookup y = some .local := by rfl) (hc : X.calm = true := by rfl) (hs : ∀ x, foldedSetIterable iter X.env x = pure x := by intro _; rfl) :
    Rs cl xf X W ws (.Assign [.Name y py] (.ListComp elt [⟨tg, iter, ifs, 0⟩] scope pos) pos') (dsAsg (dComp true (own.map (·.2)) di t tst elt') (tgN i)) := by
  obtain ⟨wi, q1, q2⟩ := hi
  obtain ⟨g, q3, q4⟩ := hg
  obtain ⟨tt, q5, q6⟩ := ht
  obtain ⟨te, q7, q8⟩ := he
  exact ⟨_, ps_setLc hc hN hy hyl hsw q1 ok q3 q5 q7 hs, ss_asg (se_compP q2 q4 hin q6 q8).to (sg_name hw)⟩
theorem s_lc (i : Nat) {y : Str} {py : Pos} {elt iter : Expr} {ifs : List Expr} {scope : Scope} {own : List (Str × Nat)} {di : DA} {t : D → Sl → Option Sl} {tst : DT} {elt' : DE} (hi : Ri cl xf X W false tg iter di) (ok : BlkOk X.N X.env.scope scope own) (hin : TgIn (own.map (·.2)) t)
    (hg : ∃ g, (∀ (s : Shared) (H : Hp) (C : Addr) (cl' : List (Str × Addr)) (fp : List Addr), PG (X.blk s H scope (compEnvC scope cl' C X.env) fp) tg g) ∧ SG cl (fun i => (own.map (·.2)).contains i) g t)
    (ht : ∃ tt, (∀ (s : Shared) (H : Hp) (C : Addr) (cl' : List (Str × Addr)) (fp : List Addr), PTs (X.blk s H scope (compEnvC scope cl' C X.env) fp) ifs tt) ∧ SB cl xf W0 false tt tst)
    (he : ∃ te, (∀ (s : Shared) (H : Hp) (C : Addr) (cl' : List (Str × Addr)) (fp : List Addr), PE (X.blk s H scope (compEnvC scope cl' C X.env) fp) elt te) ∧ SE cl xf W0 false te elt')
    (hN : X.N.Nodup) (hsw : swapsWith (.ListComp elt [⟨tg, iter, ifs, 0⟩] scope pos) (some (.Name y py)) pos'.line X.env = pure true) (hw : ws i = true := by rfl) (hy : X.N[i]? = some y := by rfl) (hyl : X.env.scope.names.lookup y = some .local := by rfl) (hc : X.calm = true := by rfl) (hs : ∀ x, foldedSetIterable iter X.env x = pure x := by intro _; rfl) :
    Rs cl xf X W ws (.Assign [.Name y py] (.ListComp elt [⟨tg, iter, ifs, 0⟩] scope pos) pos') (dsAsg (dComp false (own.map (·.2)) di t tst elt') (tgN i)) := by
  obtain ⟨wi, q1, q2⟩ := hi
  obtain ⟨g, q3, q4⟩ := hg
  obtain ⟨tt, q5, q6⟩ := ht
  obtain ⟨te, q7, q8⟩ := he
  exact ⟨_, ps_setLc hc hN hy hyl hsw q1 ok q3 q5 q7 hs, ss_asg (se_comp q2 q4 hin q6 q8) (sg_name hw)⟩
def dtYes : DT := fun δ => .ok true δ
theorem sb_yes : SB cl xf W p tYes dtYes := ⟨fun _ δ => rfl, fun A L B H δ σ Q j k => k [] A H (Nx.refl j.ba) j⟩
/-! statements -/
theorem b_nil : Rb cl xf X W ws [] dsNext := ⟨_, pss_nil, ss_next⟩
theorem b_cons {st : Stmt} {sts : List Stmt} {d d' : DS} (h : Rs cl xf X W ws st d) (h' : Rb cl xf X W ws sts d') : Rb cl xf X W ws (st :: sts) (dsSeq d d') := by
  obtain ⟨t, q1, q2⟩ := h
  obtain ⟨t', q3, q4⟩ := h'
  exact ⟨_, pss_cons q1 q3, ss_seq q2 q4⟩
theorem b_one {st : Stmt} {d : DS} (h : Rs cl xf X W ws st d) : Rb cl xf X W ws [st] d := by obtain ⟨t, q1, q2⟩ := h; exact ⟨_, pss_one q1, q2⟩
theorem s_set (i : Nat) {x : Str} (h : Rd cl xf X W false e da) (hN : X.N.Nodup) (hw : ws i = true := by rfl) (hi : X.N[i]? = some x := by rfl) (hx : Loc X.env.scope x := by first | exact Or.inl rfl | exact Or.inr rfl) (hs : swapsWith e (some (.Name x pos')) pos.line X.env = pure false := by rfl) (hf : X.fn x = true ∨ X.env.scope.names.lookup x = some .local := by first | exact .inl rfl | exact .inr rfl) :
    Rs cl xf X W ws (.Assign [.Name x pos'] e pos) (dsAsg da (tgN i)) := by
  obtain ⟨te, q1, q2⟩ := h
  exact ⟨_, ps_set hN hi hx q1 hs hf, ss_asg q2 (sg_name hw)⟩
theorem s_asg {t : D → Sl → Option Sl} (h : Rd cl xf X W false e da) (hg : Rg cl X ws tg t) (hs : swapsWithSole [tg] e pos.line X.env = pure false := by rfl) (hw : swappedStores [tg] e X.env = pure none := by rfl) (h1 : (assignEach [tg] X.env).map (·.2) = [assign tg X.env] := by rfl) : Rs cl xf X W ws (.Assign [tg] e pos) (dsAsg da t) := by
  obtain ⟨te, q1, q2⟩ := h
  obtain ⟨g, q3, q4⟩ := hg
  exact ⟨_, ps_asg q1 q3 hs hw h1, ss_asg q2 q4⟩
theorem s_ret (h : Rd cl xf X W false e da) : Rs cl xf X W ws (.Return (some e) pos) (dsRet da) := by obtain ⟨te, q1, q2⟩ := h; exact ⟨_, ps_ret q1, ss_ret q2⟩
theorem s_retN : Rs cl xf X W ws (.Return none pos) dsRetN := ⟨_, ps_retN, ss_retN⟩
theorem s_expr (h : Rd cl xf X W false e da) (hs : swapsWith e none pos.line X.env = pure false := by rfl) : Rs cl xf X W ws (.Expr e pos) (dsDrop da) := by obtain ⟨te, q1, q2⟩ := h; exact ⟨_, ps_expr q1 hs, ss_drop q2⟩
theorem s_if {dt : DT} {d d' : DS} {st st' : List Stmt} (hc : Rt cl xf X W false c dt) (h : Rb cl xf X W ws st d) (h' : Rb cl xf X W ws st' d') : Rs cl xf X W ws (.If c st st' pos) (dsIf dt d d') := by
  obtain ⟨t, q1, q2⟩ := h
  obtain ⟨t', q3, q4⟩ := h'
  obtain ⟨tc, q5, q6⟩ := hc
  exact ⟨_, ps_if q5 q1 q3, ss_if q6 q2 q4⟩
theorem s_for {iter : Expr} {body : List Stmt} {di : DA} {t : D → Sl → Option Sl} {d : DS} (hi : Ri cl xf X W false tg iter di) (hg : Rg cl X ws tg t) (hb : Rb cl xf X W ws body d) (hp : PassesOwn (model X.prog X.w) X.A X.env X.xe) (hc : X.calm = true := by rfl) (hs : ∀ x, foldedSetIterable iter X.env x = pure x := by intro _; rfl) :
    Rs cl xf X W ws (.For tg iter body [] pos) (dsFor di t d) := by
  obtain ⟨wi, q1, q2⟩ := hi
  obtain ⟨g, q3, q4⟩ := hg
  obtain ⟨tb, q5, q6⟩ := hb
  exact ⟨_, ps_for hp hc q1 q3 q5 hs, ss_for q2 q4 q6⟩
theorem s_brk : Rs cl xf X W ws (.Break pos) dsBrk := ⟨_, ps_break, ss_brk⟩
theorem s_cnt : Rs cl xf X W ws (.Continue pos) dsCnt := ⟨_, ps_continue, ss_cnt⟩
theorem s_pass : Rs cl xf X W ws (.Pass pos) dsNext := ⟨_, ps_pass, ss_next⟩
theorem s_doc {x j} : Rs cl xf X W ws (.Expr (.Constant (.str x) j pos) pos') dsNext := ⟨_, ps_doc, ss_next⟩
/-- x[k] = e, x a name -/
theorem s_setL (i : Nat) {x : Str} {ix : Expr} (h : Rd cl xf X W false e da) (hx : Rd cl xf X W false ix db) (hN : X.N[i]? = some x := by rfl) (hv : Vis X.env.scope x := by first | exact Or.inl rfl | exact Or.inr (Or.inl rfl) | exact Or.inr (Or.inr rfl)) (hd : (x == ("__debug__" : Str)) = false := by decide) (hcd : (x == ("__classdict__" : Str)) = false := by decide)
    (hs : swapsWithSole [.Subscript (.Name x pos) ix pp] e pos'.line X.env = pure false := by rfl) (hw : swappedStores [.Subscript (.Name x pos) ix pp] e X.env = pure none := by rfl) (h1 : (assignEach [.Subscript (.Name x pos) ix pp] X.env).map (·.2) = [assign (.Subscript (.Name x pos) ix pp) X.env] := by rfl)
    (hq : ∀ ta, PE X ix ta → PG X (.Subscript (.Name x pos) ix pp) (gSub (tVar i) ta rSetL)) : Rs cl xf X W ws (.Assign [.Subscript (.Name x pos) ix pp] e pos') (dsSetL i db da) := by
  obtain ⟨te, q1, q2⟩ := h
  obtain ⟨ta, q3, q4⟩ := hx
  exact ⟨_, ps_asg q1 (hq _ q3) hs hw h1, ss_setL q2 q4⟩
theorem d_app (i : Nat) {x : Str} {apos : Pos} (h : Rd cl xf X W false e da) (hN : X.N[i]? = some x := by rfl) (hv : Vis X.env.scope x := by first | exact Or.inl rfl | exact Or.inr (Or.inl rfl) | exact Or.inr (Or.inr rfl)) (hd : (x == ("__debug__" : Str)) = false := by decide) (hcd : (x == ("__classdict__" : Str)) = false := by decide)
    (hq : ∀ ta, PE X e ta → PE X (.Call (.Attribute (.Name x pp) "append" apos) [e] [] pos) (tBM X.K "list" rAppend (tVar i) (tCons ta tNil))) : Rd cl xf X W false (.Call (.Attribute (.Name x pp) "append" apos) [e] [] pos) (dApp i da) := by
  obtain ⟨te, q1, q2⟩ := h
  exact ⟨_, hq _ q1, se_app q2⟩
/-! operators as the text says them -/
theorem o_add : B2 X (.BinOp a .Add b pos) a b (rAddA X.K) := fun _ _ ha hb => pe_op ((op_add.or op_add_str).or (op_cat.or op_catT)) ha hb
theorem o_sub : B2 X (.BinOp a .Sub b pos) a b (rI0 fun i j => .int (i - j)) := fun _ _ ha hb => pe_op op_sub ha hb
theorem o_mul : B2 X (.BinOp a .Mult b pos) a b (rI CMul fun i j => .int (i * j)) := fun _ _ ha hb => pe_op op_mul ha hb
theorem o_div : B2 X (.BinOp a .FloorDiv b pos) a b (rI CDiv fun i j => .int (i / j)) := fun _ _ ha hb => pe_op op_fdiv ha hb
theorem o_mod : B2 X (.BinOp a .Mod b pos) a b (rI (fun _ j => 0 < j) fun i j => .int (i % j)) := fun _ _ ha hb => pe_op op_mod ha hb
theorem o_pow : B2 X (.BinOp a .Pow b pos) a b (rI CPow fun i j => .int (i ^ j.toNat)) := fun _ _ ha hb => pe_op op_pow ha hb
theorem o_cmp {op : CmpOp} (h : OpR X (compareOp op) r) (hm : behindInMarks op b = false) : B2 X (.Compare a [op] [b] pos) a b r := fun _ _ ha hb => pe_cmpR h ha hb hm
theorem c_cmp {op : CmpOp} (h : OpR X (compareOp op) r) (hm : behindInMarks op b = false) : C2 X (.Compare a [op] [b] pos) a b r := fun _ _ ha hb => pt_cmpR h ha hb hm
theorem ix_dict (hu : X.A.units + 1 < cLine) : IxR X (fun x y H Q => ∃ a v, x = .ref a ∧ DGet H a y (some v) ∧ Q v H) := by
  intro value slice pins s σ H x y v u Q I rx ry ⟨a, w, ex, g, q⟩ hs
  subst ex
  obtain rfl : v = Value.ref a := rx
  have hT := dict_typeIs I g
  unfold subscriptTail
  refine wpAny_bind ?_
  rw [getitemInPython_of_ne hT.not_modules]
  refine wpAny_bind (wpAny_specialOf hT PySem.F.slot_dict_getitem.lookup ?_)
  have fin : wpAny (model X.prog X.w) X.A (subscripted slice false (.ref a) u) (fun r s₃ => wpAny (model X.prog X.w) X.A (letTemporaryGo value (.ref a) r >>= fun _ => pure r) (EP X pins σ Q) X.xe s₃) X.xe s := by
    rw [hs]
    exact wpAny_operating (d_getItem hu I g ry fun w' s3 I3 rw' => wpAny_bind (wpAny_letTemporaryGo (wpAny_pure ⟨w, H, I3, rw', q⟩)))
  first
    | exact wpAny_pure (wpAny_bind fin)
    | exact wpAny_bind (wpAny_pure (wpAny_bind fin))
    | exact wpAny_bind fin
theorem o_ix (hK : X.K = cl.K) (hu : X.A.units + 1 < cLine) (hs : PlainIx b) : B2 X (.Subscript a b pos) a b (rIxA cl.K) := by rw [← hK]; exact fun _ _ ha hb => pe_ix (ix_seq.or (ix_dict hu)) ha hb hs
theorem o_len (hK : X.K = cl.K) (hm : X.mg "len" = none) (hg : Gl X "len" := by rfl) (h1 : starEach [a] X.env = (false, eval a X.env) :: starEach [] X.env := by rfl) (h2 : (backTo pos (starEach [] X.env)).any (·.1) = false := by rfl) : B1 X (.Call (.Name "len" pp) [a] [] pos) a (rLenA cl.K) := by rw [← hK]; exact fun _ ha => pe_callB (call_len.or call_lenD) hg hm PySem.boot_len (pa_cons ha pa_nil h1) (by decide) (by decide) h1 h2
theorem o_isi {T : String} {tn : Str} {pt : Pos} (hm : X.mg "isinstance" = none) (ht : X.mg tn = none) (hv : bootBuiltins tn = some (.type T)) (hg : Gl X "isinstance" := by rfl) (hgt : Gl X tn := by rfl) (hn : tn ≠ "__name__" := by decide) (hd : (tn == ("__debug__" : Str)) = false := by decide)
    (h1 : starEach [a, .Name tn pt] X.env = (false, eval a X.env) :: starEach [.Name tn pt] X.env := by rfl) (h0 : starEach [.Name tn pt] X.env = (false, eval (.Name tn pt) X.env) :: starEach [] X.env := by rfl) (h2 : (backTo pos (starEach [.Name tn pt] X.env)).any (·.1) = false := by rfl) : B1 X (.Call (.Name "isinstance" pp) [a, .Name tn pt] [] pos) a (fun x H Q => rIsi X.K [x, .ty T] H Q) :=
  fun _ ha => pe_callB call_isi hg hm PyProof.Rows.boot_isinstance (pa_cons ha (pa_cons (pe_bltn (v := .ty T) hgt ht hv rfl hn hd) pa_nil h0) h1) (by decide) (by decide) h1 h2
theorem o_max (hm : X.mg "max" = none) (hc : X.calm = true := by rfl) (hg : Gl X "max" := by rfl) (h1 : starEach [a, b] X.env = (false, eval a X.env) :: starEach [b] X.env := by rfl) (h0 : starEach [b] X.env = (false, eval b X.env) :: starEach [] X.env := by rfl) (h2 : (backTo pos (starEach [b] X.env)).any (·.1) = false := by rfl) : B2 X (.Call (.Name "max" pp) [a, b] [] pos) a b (fun x y H Q => ∃ i j, [x, y] = [.int i, .int j] ∧ Q (.int (if j > i then j else i)) H) :=
  fun _ _ ha hb => pe_callB (call_max2 hc) hg hm PyProof.Rows.boot_max (pa_cons ha (pa_cons hb pa_nil h0) h1) (by decide) (by decide) h1 h2
theorem boot_min' : bootBuiltins "min" = some (.builtin "min") := by decide +kernel
theorem boot_all' : bootBuiltins "all" = some (.builtin "all") := by decide +kernel
theorem boot_int' : bootBuiltins "int" = some (.type "int") := by decide +kernel
theorem o_min (hm : X.mg "min" = none) (hc : X.calm = true := by rfl) (hg : Gl X "min" := by rfl) (h1 : starEach [a, b] X.env = (false, eval a X.env) :: starEach [b] X.env := by rfl) (h0 : starEach [b] X.env = (false, eval b X.env) :: starEach [] X.env := by rfl) (h2 : (backTo pos (starEach [b] X.env)).any (·.1) = false := by rfl) : B2 X (.Call (.Name "min" pp) [a, b] [] pos) a b (fun x y H Q => ∃ i j, [x, y] = [.int i, .int j] ∧ Q (.int (if j < i then j else i)) H) :=
  fun _ _ ha hb => pe_callB (call_min2 hc) hg hm boot_min' (pa_cons ha (pa_cons hb pa_nil h0) h1) (by decide) (by decide) h1 h2
theorem o_int (hm : X.mg "int" = none) (hg : Gl X "int" := by rfl) (h1 : starEach [a] X.env = (false, eval a X.env) :: starEach [] X.env := by rfl) (h2 : (backTo pos (starEach [] X.env)).any (·.1) = false := by rfl) : B1 X (.Call (.Name "int" pp) [a] [] pos) a rIntA := fun _ ha => pe_callTy (call_int1.or call_int_str) hg hm boot_int' (pa_cons ha pa_nil h1) (by decide) (by decide) h1 h2
theorem o_all (hm : X.mg "all" = none) (hc : X.calm = true := by rfl) (hg : Gl X "all" := by rfl) (h1 : starEach [a] X.env = (false, eval a X.env) :: starEach [] X.env := by rfl) (h2 : (backTo pos (starEach [] X.env)).any (·.1) = false := by rfl) : B1 X (.Call (.Name "all" pp) [a] [] pos) a (fun x H Q => rAll X.K [x] H Q) := fun _ ha => pe_callB (cr_all hc) hg hm boot_all' (pa_cons ha pa_nil h1) (by decide) (by decide) h1 h2
theorem o_join {s : Str} {j : Nat} {cp apos : Pos} (hs : starEach [a] X.env = [(false, eval a X.env)] := by rfl) (hbase : attributeBase (.Constant (.str s) j cp) "join" X.env (eval (.Constant (.str s) j cp) X.env) = eval (.Constant (.str s) j cp) X.env := by rfl) (hline : (apos.endLine == pos.line) = true := by rfl) :
    B1 X (.Call (.Attribute (.Constant (.str s) j cp) "join" apos) [a] [] pos) a (fun y H Q => ∃ a' p, ∃ ys : List Str, V.str s = .str a' ∧ [y] = [V.ref p] ∧ (SqL X.K H p (ys.map V.str) ∨ SqT X.K H p (ys.map V.str)) ∧ (ys.map (·.length)).sum + ys.length * a'.length ≤ 16777216 ∧ Q (.str (Txt.join a' ys)) H) := fun ta ha => by
  have h := pe_join (X := X) (o := .Constant (.str s) j cp) (to := tC (.str s)) pe_str ha hs hbase hline
  refine ⟨fun pins s' σ H Q I hw => h.run pins s' σ H Q I ?_⟩
  exact ⟨⟨s, rfl⟩, hw⟩
end
end Fs
/-! F13 -/
/-! One reading for all frames of a comprehension. -/
namespace Fs
open PySem PySem.Spec PyProof.Rows L2
section
variable {cl : Ec} {xf : Nat → List Str} {X : Cx} {W : WX} {ws : Nat → Bool} {p : Bool} {scope : Scope}
theorem uni_e {elt : Expr} {de : DE} (h : ∀ (s : Shared) (H : Hp) (C : Addr) (cl' : List (Str × Addr)) (fp : List Addr), Rd cl xf (X.blk s H scope (compEnvC scope cl' C X.env) fp) W0 p elt de) :
    ∃ te, (∀ (s : Shared) (H : Hp) (C : Addr) (cl' : List (Str × Addr)) (fp : List Addr), PE (X.blk s H scope (compEnvC scope cl' C X.env) fp) elt te) ∧ SE cl xf W0 p te de := by
  refine ⟨fun σ H Q => ∀ te, SE cl xf W0 p te de → te σ H Q, fun s H C cl' fp => ⟨fun pins s' σ H' Q I hw => ?_⟩, ⟨?_, fun A L B H δ σ Q j k te hte => hte.run A L B H δ σ Q j k⟩⟩
  · obtain ⟨te, h1, h2⟩ := h s H C cl' fp
    exact h1.run pins s' σ H' Q I (hw te h2)
  · obtain ⟨te, h1, h2⟩ := h X.s_0 X.H_0 0 [] []
    exact h2.pure
theorem uni_g {tg : Expr} {t : D → Sl → Option Sl} (h : ∀ (s : Shared) (H : Hp) (C : Addr) (cl' : List (Str × Addr)) (fp : List Addr), Rg cl (X.blk s H scope (compEnvC scope cl' C X.env) fp) ws tg t) :
    ∃ g, (∀ (s : Shared) (H : Hp) (C : Addr) (cl' : List (Str × Addr)) (fp : List Addr), PG (X.blk s H scope (compEnvC scope cl' C X.env) fp) tg g) ∧ SG cl ws g t := by
  refine ⟨fun v σ H Q => ∀ g, SG cl ws g t → g v σ H Q, fun s H C cl' fp => ⟨fun pins s' σ H' v u Q I rv hw => ?_⟩, fun p A L B H δ δ' σ d v Q j e k g hg => hg p A L B H δ δ' σ d v Q j e k⟩
  obtain ⟨g, h1, h2⟩ := h s H C cl' fp
  exact h1.run pins s' σ H' v u Q I rv (hw g h2)
theorem uni_t {c : Expr} {dt : DT} (h : ∀ (s : Shared) (H : Hp) (C : Addr) (cl' : List (Str × Addr)) (fp : List Addr), Rt cl xf (X.blk s H scope (compEnvC scope cl' C X.env) fp) W0 p c dt) :
    ∃ tt, (∀ (s : Shared) (H : Hp) (C : Addr) (cl' : List (Str × Addr)) (fp : List Addr), PTs (X.blk s H scope (compEnvC scope cl' C X.env) fp) [c] tt) ∧ SB cl xf W0 p tt dt := by
  refine ⟨fun σ H Q => ∀ tt, SB cl xf W0 p tt dt → tt σ H Q, fun s H C cl' fp => ⟨fun pins s' σ H' Q I hw => ?_⟩, ⟨?_, fun A L B H δ σ Q j k tt ht => ht.run A L B H δ σ Q j k⟩⟩
  · obtain ⟨tt, h1, h2⟩ := h s H C cl' fp
    exact (pts_one h1).run pins s' σ H' Q I (hw tt h2)
  · obtain ⟨tt, h1, h2⟩ := h X.s_0 X.H_0 0 [] []
    exact h2.pure
theorem uni_y : ∃ tt, (∀ (s : Shared) (H : Hp) (C : Addr) (cl' : List (Str × Addr)) (fp : List Addr), PTs (X.blk s H scope (compEnvC scope cl' C X.env) fp) [] tt) ∧ SB cl xf W0 p tt dtYes := ⟨tYes, fun _ _ _ _ _ => pts_nil, sb_yes⟩
end
end Fs
/-! F14 -/
/-! Names for the generator. -/
namespace Fs
open PySem PySem.Spec PyProof.Rows L2
section
variable {cl : Ec} {xf : Nat → List Str} {X : Cx} {W : WX} {ws : Nat → Bool} {p : Bool} {e a b : Expr} {pos pp apos : Pos} {da : DE}
theorem g_sub : GOp cl (rI0 fun i j => .int (i - j)) subD := (pop_I0 fun _ _ => rfl).gs f2I_kept
theorem g_mul : GOp cl (rI CMul fun i j => .int (i * j)) mulD := (pop_I cMul_ok fun _ _ => rfl).gs f2I_kept
theorem g_div : GOp cl (rI CDiv fun i j => .int (i / j)) divD := (pop_I cDiv_ok fun _ _ => rfl).gs f2I_kept
theorem g_mod : GOp cl (rI (fun _ j => 0 < j) fun i j => .int (i % j)) modD := (pop_I cMod_ok fun _ _ => rfl).gs f2I_kept
theorem g_pow : GOp cl (rI CPow fun i j => .int (i ^ j.toNat)) powD := (pop_I cPow_ok fun _ _ => rfl).gs f2I_kept
theorem p_lt : POp cl (rI0 fun i j => .bl (decide (i < j))) ltD := pop_I0 fun _ _ => rfl
theorem p_le : POp cl (rI0 fun i j => .bl (decide (i ≤ j))) leD := pop_I0 fun _ _ => rfl
theorem p_gt : POp cl (rI0 fun i j => .bl (decide (j < i))) gtD := pop_I0 fun _ _ => rfl
theorem p_ge : POp cl (rI0 fun i j => .bl (decide (j ≤ i))) geD := pop_I0 fun _ _ => rfl
theorem g_lt : GOp cl (rI0 fun i j => .bl (decide (i < j))) ltD := p_lt.gs f2I_kept
theorem g_le : GOp cl (rI0 fun i j => .bl (decide (i ≤ j))) leD := p_le.gs f2I_kept
theorem g_gt : GOp cl (rI0 fun i j => .bl (decide (j < i))) gtD := p_gt.gs f2I_kept
theorem g_ge : GOp cl (rI0 fun i j => .bl (decide (j ≤ i))) geD := p_ge.gs f2I_kept
theorem g_eq {K : PySem.W.Frag} : GOp cl (rEqD K) eqD := pop_eq.gs eqD_kept
theorem g_ne {K : PySem.W.Frag} : GOp cl (rNeD K) neD := pop_ne.gs neD_kept
def ixK (x y : D) : Option D := (ixD x y).filter D.kept
theorem g_ix : GOp cl (rIxA cl.K) ixK := pop_ix.g
theorem g_inS : GOp cl (fun x y H Q => ∃ (c : Nat) (z : Str), x = .str ⟨#[c]⟩ ∧ y = .str z ∧ Q (.bl (decide (c ∈ z.cps.toList))) H) inSD := pop_inS.gs inSD_kept
theorem g_notinS : GOp cl (fun x y H Q => ∃ (c : Nat) (z : Str), x = .str ⟨#[c]⟩ ∧ y = .str z ∧ Q (.bl (!decide (c ∈ z.cps.toList))) H) notinSD := pop_notinS.gs notinSD_kept
theorem g_max : GOp cl (fun x y H Q => ∃ i j, [x, y] = [.int i, .int j] ∧ Q (.int (if j > i then j else i)) H) maxD := (pop_2 (fun i j H Q q => ⟨i, j, rfl, q⟩) fun _ _ => rfl).gs f2I_kept
theorem g_min : GOp cl (fun x y H Q => ∃ i j, [x, y] = [.int i, .int j] ∧ Q (.int (if j < i then j else i)) H) minD := (pop_2 (fun i j H Q q => ⟨i, j, rfl, q⟩) fun _ _ => rfl).gs f2I_kept
theorem g_len : GUn cl (rLenA cl.K) lenD := pun_len.g lenD_kept
theorem g_isi {K : PySem.W.Frag} {c : String} (hc : c ∈ ["bool", "int", "str", "list", "tuple", "dict"] := by decide) : GUn cl (fun x H Q => rIsi K [x, .ty c] H Q) (isiD c) := (pun_isi hc).g isiD_kept
theorem g_int : GUn cl rIntA intD := pun_int.g intD_kept
theorem g_all {K : PySem.W.Frag} : GUn cl (fun x H Q => rAll K [x] H Q) allD := pun_all.g allD_kept
theorem g_join {K : PySem.W.Frag} {s : Str} : GUn cl (fun y H Q => ∃ a' p, ∃ ys : List Str, V.str s = .str a' ∧ [y] = [V.ref p] ∧ (SqL K H p (ys.map V.str) ∨ SqT K H p (ys.map V.str)) ∧ (ys.map (·.length)).sum + ys.length * a'.length ≤ 16777216 ∧ Q (.str (Txt.join a' ys)) H) (joinD s) := pun_join.g joinD_kept
theorem o_isN {j : Nat} {cp : Pos} : B1 X (.Compare a [.Is] [.Constant .none j cp] pos) a (fun x H Q => Q (.bl (decide (x = .non))) H) := fun ta ha => ⟨fun pins s σ H Q I hw => (pe_cmp (pc_isN ha) (by first | exact nobehind _ (by decide) (by decide) | rfl)).run pins s σ H Q I hw⟩
theorem o_notN {j : Nat} {cp : Pos} : B1 X (.Compare a [.IsNot] [.Constant .none j cp] pos) a (fun x H Q => Q (.bl (!decide (x = .non))) H) := fun ta ha => ⟨fun pins s σ H Q I hw => (pe_cmp (pc_notN ha) (by first | exact nobehind _ (by decide) (by decide) | rfl)).run pins s σ H Q I hw⟩
theorem g_isN : GUn cl (fun x H Q => Q (.bl (decide (x = .non))) H) isND := pun_isN.g isND_kept
theorem g_notN : GUn cl (fun x H Q => Q (.bl (!decide (x = .non))) H) notND := pun_notN.g notND_kept
theorem o_neg : B1 X (.UnaryOp .USub a pos) a (rU fun i => .int (-i)) := fun _ ha => pe_un un_neg ha
def negD : D → Option D | .v (.int i) => some (.int (-i)) | _ => none
theorem g_neg : GUn cl (rU fun i => .int (-i)) negD := by
  intro p A L B H ts ws δ σ x u f1 z Q j h1 e k
  unfold negD at e
  split at e
  · cases e
    obtain ⟨rfl, rfl, _⟩ := h1.leafv
    exact ⟨_, rfl, k _ A H (Nx.refl j.ba) (j.leaf rfl)⟩
  · cases e
theorem k_globE {x : Str} {v : V} {pa : Nat} (h : ∃ u, X.mg x = some u ∧ RelV v u) (hs : sc v = true := by rfl) (hg : Gl X x := by rfl) (hd : (x == ("__debug__" : Str)) = false := by decide) : Rk cl X (.Name x pos) (pC v) := by
  obtain ⟨u, h1, h2⟩ := h
  exact k_glob h1 h2 hs hg hd
theorem q_app {i : Nat} {x : Str} (hv : PE X (.Name x pp) (tVar i)) (h1 : starEach [e] X.env = (false, eval e X.env) :: starEach [] X.env := by rfl) : True := trivial
end
end Fs
/-! F15 -/
/-! Displays of dicts; the place of a sign in a text. -/
namespace Fs
open PySem PySem.Spec PyProof.Rows L2
section
variable {cl : Ec} {xf : Nat → List Str} {W : WX} {ws : Nat → Bool} {A A' L B : Addr → Prop} {H H' : Hp} {δ δ' : Sl} {σ σ' : L2.St} {p q b : Bool} {te ta tb tc : TE} {tA : TA} {tt tu : TT} {t u : TS} {ts : List D} {vs : List V} {X : Cx} {e a : Expr} {pos pp apos cp : Pos}
/-- a new thing in hand is filled with the other temporaries -/
theorem Jt.fill {k k' : Kd} {a : Addr} {ws : List V} {o' : HO} (j : Jt p cl A L B H (.n k .own [] :: ts) (.ref a :: ws) δ σ) (hs' : Shape cl k' ws o') : Nx A B H A (upd H a o') ∧ Jt p cl A L B (upd H a o') [.n k' .own ts] [.ref a] δ σ := by
  obtain ⟨f, g, h1, h2, h3, h4, h5⟩ := j.ex
  simp only [Rps, Rp] at h1
  obtain ⟨v0, vs', f1, f2, e, rfl, ⟨a', o, us, e', ho, hs, hA, fp', rfl, hr⟩, h6⟩ := h1
  cases e
  cases e'
  obtain ⟨_, rfl⟩ := hr
  have nd := List.nodup_append.mp h3
  have nd2 := List.nodup_append.mp nd.1
  have nB : ¬ B a := h4 a (by simp)
  have nf : ∀ c ∈ f2, c ≠ a := fun c hc e => by subst e; exact nd2.2.2 c (by simp) c hc rfl
  have ng : ∀ c ∈ g, c ≠ a := fun c hc e => by subst e; exact nd.2.2 c (by simp) c hc rfl
  have st : ∀ c u, H c = some u → ¬ A c → upd H a o' c = some u ∧ ¬ A c := fun c u h n => ⟨by rw [upd_ne (show c ≠ a from fun e => n (by rw [e]; exact hA))]; exact h, n⟩
  refine ⟨⟨fun c h => .inl h, fun c u h n => (st c u h n).1, fun c h => ⟨upd_ne (show c ≠ a from fun e => nB (by rw [← e]; exact h)), j.ba c h⟩, fun c h => ?_⟩, ⟨⟨a :: f2, g, ?_, h2.step st (fun c hc => ⟨upd_ne (ng c hc), (h2.inA c hc).1⟩) (fun c hc => ⟨upd_ne (show c ≠ a from fun e => nB (by rw [← e]; exact j.lb c hc)), hc⟩), ?_, ?_, h5⟩, j.lb, j.ba, fun c h => ?_⟩⟩
  · by_cases e : c = a
    · subst e; rw [upd_same] at h; cases h
    · rw [upd_ne e] at h; exact h
  · simp only [Rps, Rp]
    exact ⟨.ref a, [], a :: f2, [], rfl, by simp, ⟨a, o', ws, rfl, upd_same, hs', hA, f2, rfl, h6.step st (fun c hc => ⟨upd_ne (nf c hc), (h6.inA c hc).1⟩) (by simp)⟩, rfl, rfl⟩
  · simpa using h3
  · intro c hc
    exact h4 c (by simpa using hc)
  · by_cases e : c = a
    · subst e; rw [upd_same]; simp
    · rw [upd_ne e]; exact j.ad c h
def keyD : D → Option Key
  | .v (.int i) => some (.inl i)
  | .v (.str s) => some (.inr s)
  | _ => none
theorem keyD_ok {d : D} {v : V} {fp : List Addr} {k : Key} (h : Rp cl A L H b d v fp) (e : keyD d = some k) : v = kV k := by
  unfold keyD at e
  split at e
  · cases e; exact h.leafv.1
  · cases e; exact h.leafv.1
  · cases e
/-- the pairs of a display -/
def dPairs : List (PP × DE) → Sl → Out (List Key × List D)
  | [], δ => .ok ([], []) δ
  | (k, v) :: r, δ => match (k δ).bind keyD with
    | some kk => (v δ).bind fun x δ1 => (dPairs r δ1).bind fun s δ2 => .ok (kk :: s.1, x :: s.2) δ2
    | none => .bad
/-- what the readings of pairs do -/
structure SPr (cl : Ec) (xf : Nat → List Str) (W : WX) (p : Bool) (trs : List (TE × TE)) (ps : List (PP × DE)) : Prop where
  pure : p = true → ∀ δ, (dPairs ps δ).same δ
  run : ∀ A L B H δ σ Q, Jt p cl A L B H [] [] δ σ → Post cl xf W p (dPairs ps δ) (fun s => s.2) A L B H σ (fun s vs H' => s.1.length = vs.length → Q ((s.1.zip vs).map fun kv => (kV kv.1, kv.2)) H') → tPairs trs σ H Q
theorem spr_nil : SPr cl xf W p [] [] := ⟨fun _ δ => rfl, fun A L B H δ σ Q j k => k [] A H (Nx.refl j.ba) j rfl⟩
theorem spr_cons {k : PP} {v : DE} {trs : List (TE × TE)} {ps : List (PP × DE)} (hk : SP cl ta k) (hv : SE cl xf W p te v) (hr : SPr cl xf W p trs ps) : SPr cl xf W p ((ta, te) :: trs) ((k, v) :: ps) := by
  refine ⟨fun hp δ => ?_, fun A L B H δ σ Q j kk => ?_⟩
  · unfold dPairs
    split
    · exact Out.same_bind (hv.pure hp δ) fun x => Out.same_bind (hr.pure hp δ) fun s => rfl
    · trivial
  · unfold dPairs at kk
    split at kk
    · rename_i key ek
      obtain ⟨d, e1, e2⟩ := Option.bind_eq_some_iff.mp ek
      obtain ⟨g, hg, _, _⟩ := j.drop0
      refine hk A L H δ σ g d _ hg e1 fun w fp h1 _ => ?_
      have hw := keyD_ok h1 e2
      subst hw
      refine hv.run A L B H δ σ _ j (Post.bind (γ := D) kk fun x δ1 us A1 H1 e3 n1 j1 k1 y ey => ?_)
      subst ey
      obtain ⟨B', j2, hb, hj⟩ := j1.seq
      refine hr.run A1 L B' H1 δ1 σ _ j2 ?_
      have k2 := Post.step (A' := A1) (H' := H1) (Post.bind (γ := D) (den0 := fun s => x :: s.2) (Q0 := fun s us H2 => ∀ us', us = y :: us' → s.1.length = us'.length → Q ((kV key, y) :: ((s.1.zip us').map fun kv => (kV kv.1, kv.2))) H2) k1 fun s δ2 us A2 H2 e4 n2 j3 k3 us' eu hl => ?_) n1
      · exact Post.seq (ts := [x]) (ws := [y]) k2 (same_of hr.pure rfl) j1.lb hb hj (fun a => rfl) (fun a us H2 q hl => q us rfl hl)
      · subst eu
        exact k3 (y :: us') A2 H2 n2 j3 (by simp [hl])
    · exact kk.elim
theorem mergeK_nodup : ∀ (kvs : List (Key × V)) (acc : List (Key × V)), ((acc ++ kvs).map (·.1)).Nodup → mergeK acc kvs = acc ++ kvs
  | [], acc, _ => by simp [mergeK]
  | kv :: kvs, acc, h => by
    have hn : valV acc kv.1 = none := by
      cases hv : valV acc kv.1 with
      | none => rfl
      | some v =>
        exfalso
        have h2 : (acc.any fun x => decide (x.1 = kv.1)) = true := by rw [valV_any, hv]; rfl
        obtain ⟨x, hx, hx2⟩ := List.any_eq_true.mp h2
        have hx3 := of_decide_eq_true hx2
        rw [List.map_append, List.map_cons] at h
        have h3 := (List.nodup_append.mp h).2.2 x.1 (List.mem_map.mpr ⟨x, hx, rfl⟩) kv.1 (List.mem_cons_self)
        exact h3 hx3
    show mergeK (putK acc kv.1 kv.2) kvs = acc ++ kv :: kvs
    rw [putK_new _ hn]
    have h4 : ((acc ++ [(kv.1, kv.2)]) ++ kvs) = acc ++ kv :: kvs := by simp
    rw [mergeK_nodup kvs _ (by rw [h4]; exact h), h4]
def dDisp (ps : List (PP × DE)) : DE := fun δ => (dPairs ps δ).bind fun s δ1 => if s.1.Nodup ∧ s.1.length ≤ 15 then .ok (.n (.dct s.1) .own s.2) δ1 else .bad
theorem dPairs_len : ∀ {ps : List (PP × DE)} {δ : Sl} {s : List Key × List D} {δ1 : Sl}, dPairs ps δ = .ok s δ1 → s.1.length = s.2.length
  | [], δ, s, δ1, e => by cases e; rfl
  | (k, v) :: r, δ, s, δ1, e => by
    unfold dPairs at e
    split at e
    · cases e1 : v δ with
      | bad => rw [e1] at e; cases e
      | exc c xs s => rw [e1] at e; cases e
      | ok x s1 =>
        rw [e1, bind_ok] at e
        cases e2 : dPairs r s1 with
        | bad => rw [e2] at e; cases e
        | exc c xs s => rw [e2] at e; cases e
        | ok y s2 =>
          rw [e2, bind_ok] at e
          cases e
          simp [dPairs_len e2]
    · cases e
theorem se_disp {trs : List (TE × TE)} {ps : List (PP × DE)} (h : SPr cl xf W p trs ps) : SE cl xf W p (tDisp trs) (dDisp ps) := by
  refine ⟨fun hp δ => Out.same_bind (h.pure hp δ) fun s => ?_, fun A L B H δ σ Q j k p0 hp0 => ?_⟩
  · split <;> first | rfl | trivial
  · obtain ⟨n1, j1⟩ := j.alloc (k := .dct []) (o := .dK []) hp0 ⟨rfl, rfl⟩
    obtain ⟨B', j2, hb, hj⟩ := j1.seq
    refine h.run _ L B' _ δ σ _ j2 ?_
    have k2 := Post.step (Post.bind (γ := D) (den0 := fun (s : List Key × List D) => .n (.dct []) .own [] :: s.2) (Q0 := fun s us H2 => ∀ us', us = .ref p0 :: us' → s.1.length = us'.length → H2 p0 = some (.dK []) ∧ ∃ kvs : List (Key × V), ((s.1.zip us').map fun kv => (kV kv.1, kv.2)) = kvs.map (fun kv => (kV kv.1, kv.2)) ∧ kvs.length ≤ 15 ∧ Q (.ref p0) (upd H2 p0 (.dK (mergeK [] kvs)))) k fun s δ2 us A2 H2 e4 n2 j3 k3 us' eu hl => ?_) n1
    · exact Post.seq (ts := [.n (.dct []) .own []]) (ws := [.ref p0]) k2 (same_of h.pure rfl) j1.lb hb hj (fun a => rfl) (fun a us H2 q hl => q us rfl hl)
    · subst eu
      split at k3
      · rename_i hk
        have hH : H2 p0 = some (.dK []) := by
          obtain ⟨f, g, h1, _⟩ := j3.ex
          simp only [Rps, Rp] at h1
          obtain ⟨v0, vs', f1, f2, e, rfl, ⟨a', o, us, e', ho, hs, _⟩, _⟩ := h1
          cases e
          cases e'
          obtain ⟨_, hs⟩ := hs
          rw [ho, hs]
          simp
        refine ⟨hH, s.1.zip us', rfl, ?_, ?_⟩
        · rw [List.length_zip, ← hl, Nat.min_self]; exact hk.2
        · have hm : mergeK [] (s.1.zip us') = s.1.zip us' := by
            have := mergeK_nodup (s.1.zip us') [] (by
              rw [List.nil_append, List.map_fst_zip (by omega)]
              exact hk.1)
            simpa using this
          rw [hm]
          obtain ⟨n3, j4⟩ := j3.fill (k' := .dct s.1) (o' := .dK (s.1.zip us')) ⟨hl, rfl⟩
          exact k3 [.ref p0] A2 _ (n2.trans n3) j4 _ rfl
      · exact k3.elim
def dDict0 : DE := fun δ => .ok (.n (.dct []) .own []) δ
theorem d_dict0 : Rd cl xf X W p (.Dict [] [] pos) dDict0 := ⟨_, pe_dnewK, ⟨fun _ δ => rfl, fun A L B H δ σ Q j k p0 hp0 => by
  obtain ⟨n1, j1⟩ := j.alloc (k := .dct []) (o := .dK []) hp0 ⟨rfl, rfl⟩
  exact k [.ref p0] _ _ n1 j1 _ rfl⟩⟩
def Rpr (cl : Ec) (xf : Nat → List Str) (X : Cx) (W : WX) (p : Bool) (pos : Pos) (ks : List (Option Expr)) (vs : List Expr) (ps : List (PP × DE)) : Prop := ∃ trs, PPs X pos ks vs trs ∧ SPr cl xf W p trs ps
theorem pr_nil : Rpr cl xf X W p pos [] [] [] := ⟨_, pps_nil, spr_nil⟩
theorem pr_cons {k v : Expr} {ks : List (Option Expr)} {es : List Expr} {kp : PP} {dv : DE} {ps : List (PP × DE)} (hk : Rk cl X k kp) (hv : Rd cl xf X W p v dv) (hr : Rpr cl xf X W p pos ks es ps) : Rpr cl xf X W p pos (some k :: ks) (v :: es) ((kp, dv) :: ps) := by
  obtain ⟨ta, h1, h2⟩ := hk
  obtain ⟨tb, h3, h4⟩ := hv
  obtain ⟨trs, h5, h6⟩ := hr
  exact ⟨_, pps_cons h1 h3 h5, spr_cons h2 h4 h6⟩
theorem d_disp {ks : List (Option Expr)} {es : List Expr} {ps : List (PP × DE)} (h : Rpr cl xf X W p pos ks es ps) (hall : ks.all (·.isSome) = true := by rfl) (hl : ks.length = es.length := by rfl) (h0 : ks ≠ [] := by exact fun z => by cases z) (h15 : ks.length ≤ 15 := by decide) : Rd cl xf X W p (.Dict ks es pos) (dDisp ps) := by
  obtain ⟨trs, h1, h2⟩ := h
  exact ⟨_, pe_disp h1 hall hl h0 h15, se_disp h2⟩
/-! "..".index(x) -/
def indexSD (s : Str) : D → Option D
  | .v (.str b) => (match Builtin.Str.occurrences s b 0 s.length 1 with | i :: _ => some (.int (i : Nat)) | [] => none)
  | _ => none
theorem o_indexS {s : Str} {j : Nat} (hs : starEach [a] X.env = [(false, eval a X.env)] := by rfl) (hbase : attributeBase (.Constant (.str s) j cp) "index" X.env (eval (.Constant (.str s) j cp) X.env) = eval (.Constant (.str s) j cp) X.env := by rfl) (hline : (apos.endLine == pos.line) = true := by rfl) :
    B1 X (.Call (.Attribute (.Constant (.str s) j cp) "index" apos) [a] [] pos) a (fun y H Q => ∃ a' b' i rest, V.str s = .str a' ∧ [y] = [V.str b'] ∧ Builtin.Str.occurrences a' b' 0 a'.length 1 = i :: rest ∧ Q (.int (i : Nat)) H) := fun ta ha => by
  have h := pe_m1 (X := X) (o := .Constant (.str s) j cp) (to := tC (.str s)) F.slot_str_index F.type_str_index mt_sindex pe_str ha hs hbase hline
  exact ⟨fun pins s' σ H Q I hw => h.run pins s' σ H Q I ⟨⟨s, rfl⟩, hw⟩⟩
theorem g_indexS {s : Str} : GUn cl (fun y H Q => ∃ a' b' i rest, V.str s = .str a' ∧ [y] = [V.str b'] ∧ Builtin.Str.occurrences a' b' 0 a'.length 1 = i :: rest ∧ Q (.int (i : Nat)) H) (indexSD s) := by
  intro p A L B H ts ws δ σ x u f1 z Q j h1 e k
  unfold indexSD at e
  split at e
  · split at e
    · rename_i hb
      cases e
      obtain ⟨rfl, rfl, _⟩ := h1.leafv
      exact ⟨s, _, _, _, rfl, rfl, hb, k _ A H (Nx.refl j.ba) (j.leaf rfl)⟩
    · cases e
  · cases e
theorem t_isn {de : DE} (h : Rd cl xf X W p e de) (he : ∀ whole, isTrue e X.env whole = (do let v ← whole; standAt e.pos; holding [v] (truthy v)) := by intro _; rfl) : Rt cl xf X W p e (dtV de) := t_v h he
theorem ioOk {io : List Bool} {ws : Nat → Bool} (h : (List.range io.length).all (fun i => !(io.getD i false) || !ws i) = true) : ∀ (i : Nat), io[i]? = some true → ws i = false := fun i hi => by
  have hl : i < io.length := (List.getElem?_eq_some_iff.mp hi).1
  have h2 := List.all_eq_true.mp h i (List.mem_range.mpr hl)
  have h3 : io.getD i false = true := by rw [List.getD_eq_getElem?_getD, hi]; rfl
  rw [h3] at h2
  simpa using h2
end
end Fs
/-! G1 -/
set_option maxHeartbeats 2000000
/-! The law's call, by a promise of that kind. -/
namespace Fs
open PySem PySem.Spec PyProof.Rows L2
section
variable {P : Program} {w : World} {K : PySem.W.Frag} {mg mb : Str → Option Value} {CX : CXT} {k : Nat} {fa a : Addr} {fd : FuncData} {x : Str} {sp : Sp} {s : Shared} {us : List Value} {ns : List Int}
/-- from a tracked heap that holds the script alone, or nothing -/
theorem law_from {H : Hp} (KX : K.In s.heap) (hns : s.heap.Ns mainGlobals mg) (hb : s.heap.Ns builtinsNs mb) (hbb : ∀ y : Str, y ≠ "__name__" → mb y = bootBuiltins y) (hlim : s.heap.NoLimit) (hg : s.gens = #[])
    (at_a : s.heap.get? a = some { cls := .type "list", data := .seq us.toArray }) (room : RoomG k callerA) (F : ∀ base : Heap, K.In base → base.Ns mainGlobals mg → FnG P w K mg base CX k fa fd [x] sp) (bnd : ∀ (s : Shared) (u : Value), BindsTo s fd ⟨[u], []⟩ [(x, u)])
    (only : Only H) (want : sp [.ref a] H (fun v _ => v = .bl true) fun _ _ _ => False) (ok : HOk P w H s.heap) (just : ∀ c, H c ≠ none → c = a ∧ K.lookup a = none) (out : ∀ G u t, CX [] G s (fun _ _ _ => False) u t → False) :
    codeAny (model P w) callerA (.call (.ref fa) ⟨[.ref a], []⟩) (fun r t => r = .ok (.ret (.bool true)) ∧ OldK s.heap t.heap ∧ t.os = s.os ∧ AllBare t.gens) s := by
  have off : ∀ {c : Addr} {u : Obj}, s.heap.get? c = some u → H c = none → (hidT s.heap H).get? c = some u := fun z n => hidT_get z n
  have free : ∀ {c : Addr} {u : Obj}, s.heap.get? c = some u → (∀ its n, u.data ≠ .seq its n) → H c = none := by
    intro c u z d
    by_cases q : H c = none
    · exact q
    · obtain ⟨rfl, _⟩ := just c q
      rw [at_a] at z
      cases z
      exact absurd rfl (d _ _)
  have names : ∀ {c : Addr} {m : Str → Option Value}, s.heap.Ns c m → (hidT s.heap H).Ns c m := by
    rintro c m ⟨u, es, ep, z, d, r⟩
    exact ⟨u, es, ep, off z (free z fun its n q => by rw [d] at q; cases q), d, r⟩
  have KB : K.In (hidT s.heap H) := fun c u z => off (KX c u z) (by
    by_cases q : H c = none
    · exact q
    · obtain ⟨rfl, n⟩ := just c q
      rw [n] at z
      cases z)
  obtain ⟨mc, l1, l2⟩ := hlim
  have E0 : Env0 P w K mg (hidT s.heap H) callerA [] s H := ⟨rfl, ⟨KB, names hns, ⟨mb, names hb, hbb⟩, ⟨mc, names l1, l2⟩⟩, fun c u z => of_hidT z, Nat.le_of_eq (hidT_size _ _), trivial, (fun c hc => by have hc2 : c ∈ ([] : List Addr) := hc; simp at hc2), ok, .of_eq hg⟩
  refine codeAny_mono ((F _ KB (names hns)).go callerA [] s H ⟨[.ref a], []⟩ [.ref a] [.ref a] _ _ room E0 (bnd s (.ref a)) (.cons rfl .nil) want) fun r t got => ?_
  match r, got with
  | .error u, got => exact (out H u t got).elim
  | .ok .next, got => exact got.elim
  | .ok .brk, got => exact got.elim
  | .ok .cont, got => exact got.elim
  | .ok (.ret u), got =>
    obtain ⟨v, G, os, bare, un, ok2, rel, q⟩ := got
    cases (show v = .bl true from q)
    cases (show u = Value.bool true from rel)
    refine ⟨rfl, OldK.of_keep fun c o z => ?_, os, bare⟩
    rcases only c with n | ⟨ob, xs, n⟩
    · exact un.keep c o z n (fun y => by have y2 : c ∈ ([] : List Addr) := y; simp at y2) (by simp)
    · have z1 := (ok c _ n).1
      have z2 := (ok2 c _ (un.frzs c ob _ n)).1
      rw [z] at z1
      cases z1
      exact z2
theorem law_callG (KX : K.In s.heap) (hns : s.heap.Ns mainGlobals mg) (hb : s.heap.Ns builtinsNs mb) (hbb : ∀ y : Str, y ≠ "__name__" → mb y = bootBuiltins y) (hlim : s.heap.NoLimit) (hg : s.gens = #[])
    (at_a : s.heap.get? a = some { cls := .type "list", data := .seq us.toArray }) (hi : IntsAre us ns) (hl : ns.length ≤ sizeLine) (room : RoomG k callerA) (F : ∀ base : Heap, K.In base → base.Ns mainGlobals mg → FnG P w K mg base CX k fa fd [x] sp) (bnd : ∀ (s : Shared) (u : Value), BindsTo s fd ⟨[u], []⟩ [(x, u)])
    (hsp : ∀ H : Hp, Only H → SqL K H a (ns.map V.int) → sp [.ref a] H (fun v _ => v = .bl true) fun _ _ _ => False) (out : ∀ G u t, CX [] G s (fun _ _ _ => False) u t → False) :
    codeAny (model P w) callerA (.call (.ref fa) ⟨[.ref a], []⟩) (fun r t => r = .ok (.ret (.bool true)) ∧ OldK s.heap t.heap ∧ t.os = s.os ∧ AllBare t.gens) s := by
  have rel := vals_ints hi
  have n := hi.length
  have core := fun {H : Hp} => law_from (H := H) KX hns hb hbb hlim hg at_a room F bnd
  cases hk : K.lookup a with
  | some o =>
    have z := KX a o hk
    rw [at_a] at z
    cases z
    have only : Only (fun _ => none) := fun _ => .inl rfl
    exact core only (hsp _ only (.inr ⟨_, us.toArray, _, hk, rfl, rfl, rfl, by rw [List.size_toArray, n]; exact hl, by simpa using rel⟩)) (fun c u z => by cases z) (fun c z => absurd rfl z) out
  | none =>
    let H : Hp := fun c => if c = a then some (.frz { cls := .type "list", data := .seq us.toArray } (.lst (ns.map V.int))) else none
    have h1 : H a = some (.frz { cls := .type "list", data := .seq us.toArray } (.lst (ns.map V.int))) := if_pos rfl
    have h2 : ∀ c, c ≠ a → H c = none := fun c z => if_neg z
    have only : Only H := fun c => by
      by_cases z : c = a
      · subst z; exact .inr ⟨_, _, h1⟩
      · exact .inl (h2 c z)
    refine core only (hsp H only (.inl (.inr ⟨_, h1⟩))) (fun c u z => ?_) (fun c z => ?_) out
    · by_cases y : c = a
      · subst y
        rw [h1] at z
        cases z
        exact ⟨at_a, by rw [List.length_map]; exact hl, us, _, rel, at_a⟩
      · rw [h2 c y] at z; cases z
    · by_cases y : c = a
      · exact ⟨y, hk⟩
      · exact absurd (h2 c y) z
end
theorem walk_G {l : PySem.W.OpenLaw} {n k : Nat} {q : Program} {loose : List Str} {XP : (Str → Option Value) → Heap → Prop} {YP : World → Heap → Prop} {d : DefRec} {CX : World → CXT} {x : Str} (hn : l.most = some n) (hn2 : n ≤ sizeLine) (hdf : d.params.defaults = []) (hr : RoomG k callerA)
    (F : ∀ (w : World) (mg : Str → Option Value) (fa : Addr) (h : Heap), YP w h → h.Ns mainGlobals mg → mg d.name = some (.ref fa) → ∃ (K : PySem.W.Frag) (fd : FuncData) (sp : Sp), K.In h ∧ (∀ (s : Shared) (u : Value), BindsTo s fd ⟨[u], []⟩ [(x, u)]) ∧
        (∀ (H : Hp) (a : Addr) (ns : List Int), ns.length ≤ n → Only H → SqL K H a (ns.map V.int) → sp [.ref a] H (fun v _ => v = .bl true) fun _ _ _ => False) ∧ ∀ base : Heap, K.In base → base.Ns mainGlobals mg → FnG l.prog w K mg base (CX w) k fa fd [x] sp)
    (hCX : ∀ (w : World) (H : Hp) (s : Shared) (e : Value) (s' : Shared), CX w [] H s (fun _ _ _ => False) e s' → False) : PySem.W.WalkO q loose XP YP l.row.toRowW d [] (fun f vs => PySem.call f vs) := by
  refine Att.attach_call hn hdf fun w s₀ s₁ mg mb fa o pm cd doc a vs ns G Y ho hd hcd hmg hobj hints hlen hg => ?_
  obtain ⟨K, fd, sp, KX, hb, hsp, hF⟩ := F w mg fa _ Y G.T.g hmg
  exact law_callG KX G.T.g G.T.b G.T.builtins G.T.nolimit hg hobj hints (Nat.le_trans hlen hn2) hr hF hb (fun H hO hS => hsp H a ns hlen hO hS) fun H e s' => hCX w H s₁ e s'
end Fs
/-! F16 -/
namespace Fs
open PySem PySem.Spec PyProof.Rows L2
end Fs
/-! F17 -/
set_option maxHeartbeats 2000000
/-! Exceptions: an own class whose __init__ calls its base's; raise. -/
namespace Fs
open PySem PySem.Spec PyProof.Rows L2
/-- the class that is named as the base in B.__init__(self, ..) -/
structure BaseI (K : PySem.W.Frag) (C : Addr) : Prop where
  ga : PySem.W.specialIn K (.ref C) "__getattribute__" = some (some (.builtin "type.__getattribute__"))
  ty : PySem.W.typeIn K (.ref C) = some (.type "type")
  rd : PySem.W.readsIn K C (.type "type") = true
  fi : PySem.W.findCls K (.ref C) (.type "type") "__init__" = some (.val (.builtin "ValueError.__init__"))
section
variable {X : Cx} {e : Expr} {es : List Expr} {ta : TA} {CB : Addr} {x : Str} {p1 p2 pos : Pos}
theorem pe_oinit {pl : Sem Bool} (B : BaseI X.K CB) (hg : Gl X x) (hm : X.mg x = some (.ref CB)) (ha : L2.PA X (e :: es) ta)
    (hc : eval (.Call (.Attribute (.Name x p1) "__init__" p2) (e :: es) [] pos) X.env = (do
      let b ← eval (.Name x p1) X.env
      standAt p2.atName
      let (g, one) ← holding [b] (getMethod b "__init__" pl)
      callWith pos g one (backTo pos (starEach (e :: es) X.env)) (backToKw pos (keywordEach [] X.env))) := by rfl)
    (he : starEach (e :: es) X.env = (false, eval e X.env) :: starEach es X.env := by rfl) (hpl : (backTo pos (starEach es X.env)).any (·.1) = false := by rfl) (hd : (x == ("__debug__" : Str)) = false := by decide) :
    PE X (.Call (.Attribute (.Name x p1) "__init__" p2) (e :: es) [] pos) (tVeI X.K ta) := ⟨fun pins s σ H Q I h => by
  refine PySem.W.methodCall_KW (ld_glob I hg hm ?_ hd) hc
  obtain ⟨m, fr⟩ := I.fr
  refine PySem.W.method_of_cls fr I.ok.mod.kin B.ga (PySem.W.cls_val fr I.ok.mod.kin B.ty B.rd B.fi (by decide +kernel) ?_)
  show wpAny _ _ (callWith pos (Value.builtin "ValueError.__init__") [] (backTo pos (starEach (e :: es) X.env)) []) _ _ _
  refine PyProof.Rows.callWith_method1 (thn (ha.run pos pins _ σ H _ (I.tok _) h) fun vals s1 hv => ?_) he hpl
  obtain ⟨vs, H1, I1, rel, a, C, ws, rfl, hw, T, at1, fin⟩ := hv
  cases rel with
  | @cons _ u0 _ ur ra rest =>
    cases (show u0 = Value.ref a from ra)
    have hz : ur.length ≤ sizeLine := by rw [sizeLine_eq]; have := Paired.length rest; omega
    exact oinit_ok T I1 at1 hz fun s2 J => ⟨.non, H1, J, rfl, fin⟩⟩
end
/-! what such an __init__ leaves -/
def spIni (K : PySem.W.Frag) (fs : List Str) : Sp := fun vs H Q _ => ∃ (a C : Addr) (ws : List V), vs = .ref a :: ws ∧ ws.length = fs.length ∧ OexC K C ∧ (∀ f ∈ fs, PySem.W.findIn K (.ref C) f = some none) ∧ H a = some (exo a C none) ∧
  ∀ dx H', H dx = none → dx ≠ a → H' a = some (exo a C (some dx)) → H' dx = some (exd dx (fs.zip ws).reverse) → (∀ b, b ≠ a → b ≠ dx → H' b = H b) → Q .non H'
abbrev tIni0 (K : PySem.W.Frag) (m : Str) : TS := tDrop (tVeI K (tCons (tVar 0) (tCons (tC (.str m)) tNil)))
theorem ini1_ok {K : PySem.W.Frag} {m f : Str} {D : Ends} {σ : L2.St} {H : Hp} {a C : Addr} {y : V} (h0 : σ[0]? = some (some (.ref a))) (h1 : σ[1]? = some (some y)) (T : OexC K C) (hf : PySem.W.findIn K (.ref C) f = some none) (ha : H a = some (exo a C none))
    (k : ∀ dx H', H dx = none → dx ≠ a → H' a = some (exo a C (some dx)) → H' dx = some (exd dx [(f, y)]) → (∀ b, b ≠ a → b ≠ dx → H' b = H b) → D.nx σ H') : tSeq (tIni0 K m) (tOst K f (tVar 0) (tVar 1)) D σ H := by
  refine ⟨_, h0, ?_⟩
  refine ⟨a, C, [.str m], rfl, by simp, T, ha, y, h1, _, h0, a, C, rfl, T, hf, .inl ⟨ha, fun dx n ne => k dx _ n ne upd_same ?_ fun b hb hd => ?_⟩⟩
  · rw [upd_ne ne, upd_same]
  · rw [upd_ne hb, upd_ne hd]
theorem ini2_ok {K : PySem.W.Frag} {m f g : Str} {D : Ends} {σ : L2.St} {H : Hp} {a C : Addr} {y z : V} (h0 : σ[0]? = some (some (.ref a))) (h1 : σ[1]? = some (some y)) (h2 : σ[2]? = some (some z)) (T : OexC K C) (hf : PySem.W.findIn K (.ref C) f = some none) (hg : PySem.W.findIn K (.ref C) g = some none) (ha : H a = some (exo a C none))
    (k : ∀ dx H', H dx = none → dx ≠ a → H' a = some (exo a C (some dx)) → H' dx = some (exd dx [(g, z), (f, y)]) → (∀ b, b ≠ a → b ≠ dx → H' b = H b) → D.nx σ H') : tSeq (tIni0 K m) (tSeq (tOst K f (tVar 0) (tVar 1)) (tOst K g (tVar 0) (tVar 2))) D σ H := by
  refine ⟨_, h0, ?_⟩
  refine ⟨a, C, [.str m], rfl, by simp, T, ha, y, h1, _, h0, a, C, rfl, T, hf, .inl ⟨ha, fun dx n ne => ⟨z, h2, _, h0, a, C, rfl, T, hg, .inr ⟨dx, [(f, y)], upd_same, by rw [upd_ne ne, upd_same], by simp, k dx _ n ne ?_ upd_same fun b hb hd => ?_⟩⟩⟩⟩
  · rw [upd_ne ne.symm, upd_same]
  · rw [upd_ne hd, upd_ne hb, upd_ne hd]
section
variable {P : Program} {w : World} {K : PySem.W.Frag} {mg : Str → Option Value} {base : Heap} {x qual : Str} {params : Arguments} {body : List Stmt} {scope : Scope} {dvs : List V} {kws : List (Str × V)} {f : Addr} {fd : FuncData} {N : List Str} {k : Nat} {m g1 g2 : Str}
theorem fn_ini1 (Fd : FunD K x qual params body scope dvs kws f fd) (S : FnScope N N scope) (hN : N.length = 2)
    (hb : ∀ (cdv : Value) (A : Around) (outer : List Env) (s : Shared) (H : Hp) (E : XK), PSs (cxOf (L2.CX P w) P w K mg base N qual scope f cdv A outer s H E) body (tSeq (tIni0 K m) (tOst K g1 (tVar 0) (tVar 1)))) : FnOk P w K mg base (L2.CX P w) (k + 1) f fd N (spIni K [g1]) := by
  refine Fd.ok S (fun vs H Q E h => ?_) (fun cdv A outer s H vs Q E hr h => ⟨_, hb cdv A outer s H E, ?_⟩)
  · obtain ⟨a, C, ws, rfl, hl, _⟩ := h
    simp at hl ⊢
    omega
  · obtain ⟨a, C, ws, rfl, hl, T, hf, ha, kk⟩ := h
    match ws, hl with
    | [y], _ =>
      refine ini1_ok (y := y) rfl rfl T (hf _ List.mem_cons_self) ha fun dx H' n ne e1 e2 e3 => ?_
      exact kk dx H' n ne e1 (by simpa using e2) e3
theorem fn_ini2 (Fd : FunD K x qual params body scope dvs kws f fd) (S : FnScope N N scope) (hN : N.length = 3)
    (hb : ∀ (cdv : Value) (A : Around) (outer : List Env) (s : Shared) (H : Hp) (E : XK), PSs (cxOf (L2.CX P w) P w K mg base N qual scope f cdv A outer s H E) body (tSeq (tIni0 K m) (tSeq (tOst K g1 (tVar 0) (tVar 1)) (tOst K g2 (tVar 0) (tVar 2))))) : FnOk P w K mg base (L2.CX P w) (k + 1) f fd N (spIni K [g1, g2]) := by
  refine Fd.ok S (fun vs H Q E h => ?_) (fun cdv A outer s H vs Q E hr h => ⟨_, hb cdv A outer s H E, ?_⟩)
  · obtain ⟨a, C, ws, rfl, hl, _⟩ := h
    simp at hl ⊢
    omega
  · obtain ⟨a, C, ws, rfl, hl, T, hf, ha, kk⟩ := h
    match ws, hl with
    | [y, z], _ =>
      refine ini2_ok (y := y) (z := z) rfl rfl rfl T (hf _ List.mem_cons_self) (hf _ (List.mem_cons_of_mem _ List.mem_cons_self)) ha fun dx H' n ne e1 e2 e3 => ?_
      exact kk dx H' n ne e1 (by simpa using e2) e3
end
/-! raise -/
section
variable {cl : Ec} {xf : Nat → List Str} {W : WX} {ws : Nat → Bool} {A A' L B : Addr → Prop} {H H' : Hp} {δ δ' : Sl} {σ σ' : L2.St} {p : Bool} {tA : TA}
theorem Jt.grow {ts : List D} {vs : List V} {p0 : Addr} {o : HO} (j : Jt p cl A L B H ts vs δ σ) (hp : H p0 = none) : Nx A B H A (upd H p0 o) ∧ Jt p cl A L B (upd H p0 o) ts vs δ σ := by
  have ne : ∀ a, A a → a ≠ p0 := fun a ha z => j.ad a ha (by rw [z]; exact hp)
  have n : Nx A B H A (upd H p0 o) := ⟨fun a h => .inl h, fun a u h _ => by rw [upd_ne (fun z => by rw [z, hp] at h; cases h)]; exact h, fun a h => ⟨upd_ne (ne a (j.ba a h)), j.ba a h⟩, fun a h => by
    by_cases z : a = p0
    · rw [z]; exact hp
    · rw [upd_ne z] at h; exact h⟩
  obtain ⟨f, g, h1, h2, h3, h4, h5⟩ := j.ex
  refine ⟨n, ⟨f, g, h1.step n.both (fun a ha => ⟨upd_ne (ne a (h1.inA a ha).1), (h1.inA a ha).1⟩) (by simp), h2.step n.both (fun a ha => ⟨upd_ne (ne a (h2.inA a ha).1), (h2.inA a ha).1⟩) (fun a h => ⟨upd_ne (ne a (j.ba a (j.lb a h))), h⟩), h3, h4, h5⟩, j.lb, j.ba, fun a ha => by rw [upd_ne (ne a ha)]; exact j.ad a ha⟩
theorem lookup_of : ∀ {l : List (Str × V)} {n : Str} {v : V}, (l.map (·.1)).Nodup → (n, v) ∈ l → l.lookup n = some v
  | [], n, v, _, h => by cases h
  | (m, u) :: l, n, v, nd, h => by
    simp only [List.map_cons, List.nodup_cons] at nd
    rcases List.mem_cons.mp h with e | h
    · cases e; simp [List.lookup]
    · have ne : n ≠ m := fun z => nd.1 (List.mem_map.mpr ⟨(n, v), h, z⟩)
      have hb : (n == m) = false := by simpa using ne
      simp only [List.lookup, hb]
      exact lookup_of nd.2 h
def dsRaise (c n : Nat) (da : DA) : DS := fun δ => (da δ).bind fun xs δ1 => if xs.length = n then .exc c xs δ1 else .bad
theorem ss_raise {c n : Nat} {da : DA} (ha : SA cl xf W false tA da) (T : OexC cl.K (cl.c c)) (hf : ∀ f ∈ xf c, PySem.W.findIn cl.K (.ref (cl.c c)) f = some none) (hn : (xf c).length = n) (hn2 : n ≤ 1000) (nd : (xf c).Nodup) :
    SS cl xf W ws (fun _ σ H => tMkO (cl.c c) (spIni cl.K (xf c)) [] tA σ H fun k d H' => W k d σ H') (dsRaise c n da) := fun A L B H δ σ E j k => by
  refine ha.run A L B H δ σ _ j ?_
  unfold dsRaise at k
  refine PostS.bind (den0 := id) k fun xs δ1 vs A1 H1 e n1 j1 k1 => ?_
  split at k1
  · rename_i hl
    have hv : vs.length = xs.length := by
      obtain ⟨f, g, h1, _⟩ := j1.ex
      exact h1.length.symm
    refine ⟨by omega, fun a ha => ⟨a, cl.c c, vs ++ [], rfl, by simp; omega, T, hf, upd_same, fun dx H' hd ne e1 e2 e3 => ⟨rfl, dx, _, e1, e2, ?_, ?_⟩⟩⟩
    · rw [upd_ne ne] at hd; exact hd
    · have hd1 : H1 dx = none := by rw [upd_ne ne] at hd; exact hd
      have eH : upd (del H' a) dx (.xd ((xf c).zip (vs ++ [])).reverse) = upd H1 dx (.xd ((xf c).zip (vs ++ [])).reverse) := by
        funext b
        by_cases hb : b = dx
        · rw [hb, upd_same, upd_same]
        · rw [upd_ne hb, upd_ne hb]
          by_cases hb2 : b = a
          · rw [hb2, del_same, ha]
          · rw [del_ne hb2, e3 b hb2 hb, upd_ne hb2]
      rw [eH]
      obtain ⟨n2, j2⟩ := j1.grow (o := .xd ((xf c).zip (vs ++ [])).reverse) hd1
      refine k1 (some dx) vs A1 _ σ (n1.trans n2) (Kp.refl σ) (.inr ⟨dx, _, rfl, upd_same, fun z => j1.ad dx z hd1, by omega, fun i nm v q1 q2 => ?_⟩) j2
      rw [List.append_nil]
      refine lookup_of ?_ ?_
      · rw [List.map_reverse, (List.reverse_perm _).nodup_iff, List.map_fst_zip (by omega)]
        exact nd
      · rw [List.mem_reverse]
        refine List.mem_of_getElem? (i := i) ?_
        rw [List.getElem?_zip_eq_some]
        exact ⟨q1, q2⟩
  · exact k1.elim
end
end Fs
/-! F18 -/
set_option maxHeartbeats 2000000
/-! try with several clauses, named or not. -/
namespace Fs
open PySem PySem.Spec PyProof.Rows L2
structure Cl where
  c : Value
  i : Option Nat
  ts : Addr → Value → Option Addr → TS
def Cl.fin (q : Cl) (D : Ends) : Ends := match q.i with
  | none => D
  | some i => { nx := fun τ G => D.nx (τ.set i none) G, rt := D.rt, bk := fun τ G => D.bk (τ.set i none) G, ct := fun τ G => D.ct (τ.set i none) G }
def Cl.put (q : Cl) (σ : L2.St) (a : Addr) : L2.St := match q.i with
  | none => σ
  | some i => σ.set i (some (.ref a))
def wCl (K : PySem.W.Frag) (Wout : WX) (D : Ends) : List Cl → WX
  | [] => Wout
  | q :: r => fun cls d σ H => ∃ b, PySem.W.exmOne K cls q.c = some b ∧ (b = true → ∀ a, H a = none → q.ts a cls d (q.fin D) (q.put σ a) H) ∧ (b = false → wCl K Wout D r cls d σ H)
/-- a clause's block, whatever was caught -/
def Blk (X : Cx) (st : List Stmt) (ts : Addr → Value → Option Addr → TS) : Prop := ∀ (a : Addr) (oe : Obj) (cls : Value) (d : Option Addr) (pn : List (Addr × Obj)), Zc cls d oe → (∃ vs, oe.data = .fields vs) → PSs (X.suite a ((a, oe) :: pn)) st (ts a cls d)
inductive ClOk (X : Cx) : List ExceptHandler → List Cl → Prop
  | nil : ClOk X [] []
  | bare {x : Str} {c : Value} {ts : Addr → Value → Option Addr → TS} {st : Stmt} {sts : List Stmt} {np q : Pos} {hds : List ExceptHandler} {l : List Cl} (nm : Names X x c) (bl : Blk X (st :: sts) ts) (r : ClOk X hds l) : ClOk X (.ExceptHandler (some (.Name x np)) none (st :: sts) q :: hds) (⟨c, none, ts⟩ :: l)
  | named {x n : Str} {c : Value} {i : Nat} {ts : Addr → Value → Option Addr → TS} {st : Stmt} {sts : List Stmt} {np q : Pos} {hds : List ExceptHandler} {l : List Cl} (nm : Names X x c) (hi : X.N[i]? = some n) (hl : X.env.kindOf n = some .local) (bl : Blk X (st :: sts) ts) (r : ClOk X hds l) :
      ClOk X (.ExceptHandler (some (.Name x np)) (some n) (st :: sts) q :: hds) (⟨c, some i, ts⟩ :: l)
section
variable {X : Cx} {body : List Stmt} {h0 : ExceptHandler} {hds : List ExceptHandler} {l : List Cl} {pos : Pos} {tb : WX → TS} {Wout : WX}
theorem ps_try_cl (hs : X.stack = X.env :: X.outer) (hf : X.env.frame = some X.env.locals) (hN : X.N.Nodup) (tk : Takes X Wout)
    (hb : ∀ (W : WX) (pn : List (Addr × Obj)) (xe : Value → Shared → Prop), Takes (X.tr pn xe) W → PassesOwn (model X.prog X.w) X.A X.env xe → PSs (X.tr pn xe) body (tb W)) (hh : ClOk X (h0 :: hds) l) :
    PS X (.Try body (h0 :: hds) [] [] pos) (fun D σ H => tb (wCl X.K Wout D l) D σ H) := ⟨fun pins s σ H D I h => by
  have fr : X.A.frames = some (X.env :: X.outer) := by rw [I.ok.frames, hs]
  refine wpAny_Try_except (wpAny_mono ((hb (wCl X.K Wout D l) (X.pn ++ pins) (fun u t1 => wpAny (model X.prog X.w) X.A (noteFrame u X.env) (fun _ t2 => wpAny (model X.prog X.w) X.A (setFlight u none) (fun _ t3 => wpAny (model X.prog X.w) X.A (handleBy u X.env (h0 :: hds)) (L2.SP X pins D) X.xe t3) X.xe t2) X.xe t1) (fun u t1 caught => ?_) PassesOwn.looking).run [] s σ H D (I.toTry _) h) (fun fl t1 out => ?_) (fun _ _ z => z))
  · obtain ⟨a, G, tI, _, σ1, H1, cls, d, rfl, K0, nb, up, sky, na, os, ag, want⟩ := caught
    have J := K0.ofTry I.ok
    refine Sky.land Zc.steady fr hf (by rw [← hs]; exact sky) fun g1 fly up1 => ?_
    have J1 : Inv X pins σ1 H1 { t1 with heap := g1 } := J.landed nb fly.1 (up.trans up1) os ag
    obtain ⟨oe, vs, at1, hz, hd⟩ := fly.there
    have out1 : a ∉ frs (X.env :: X.outer) := fun m => by
      obtain ⟨_, o', e', no⟩ := fly.2.2.1.mem m
      rw [at1] at e'
      cases e'
      exact no _ hd
    have nL : a ≠ X.env.locals := fun z => out1 (List.mem_filterMap.mpr ⟨X.env, List.mem_cons_self, by rw [hf, z]⟩)
    have nF : a ∉ X.fs := fun m => by
      obtain ⟨v, hv, q⟩ := List.mem_filterMap.mp m
      exact out1 (List.mem_filterMap.mpr ⟨v, List.mem_cons_of_mem _ hv, q⟩)
    have S1 := J1.suite at1 hd na nL nF
    have ty : PySem.W.Looks (model X.prog X.w) g1 (typeOf (.ref a)) cls := fun _ _ _ _ k q => wpAny_typeOf_ref (k _ _ at1) (by rw [hz.1]; exact q)
    have named : ∀ {x : Str} {c : Value} {np : Pos} {Q : Value → Shared → Prop} {E : Value → Shared → Prop}, Names X x c → Q c { t1 with heap := g1 } → wpAny (model X.prog X.w) (X.A.mark (some (.ref a))) (eval (.Name x np) X.env) Q E { t1 with heap := g1 } := fun nm q => by
      obtain ⟨n1, n2, n3 | ⟨n3, n4, n5⟩⟩ := nm
      · exact ld_glob (X := X.suite a ((a, oe) :: (X.pn ++ pins))) S1 n1 n3 q n2
      · exact ld_blt (X := X.suite a ((a, oe) :: (X.pn ++ pins))) S1 n1 n3 n4 q n5 n2
    have walk : ∀ {hs' : List ExceptHandler} {l' : List Cl}, ClOk X hs' l' → wCl X.K Wout D l' cls d σ1 H1 → wpAny (model X.prog X.w) X.A (handleBy (.ref a) X.env hs') (L2.SP X pins D) X.xe { t1 with heap := g1 } := by
      intro hs' l' ok
      induction ok with
      | nil =>
        intro want
        refine wpAny_handleBy_nil ?_
        obtain ⟨_, _, _, oe', vs', T, _, _, at', _, hd', one, _⟩ := id fly
        unfold PySem.passOn
        refine wpAny_bind (wpAny_field at' hd' one ?_)
        rw [if_neg (fun z => by simp at z)]
        have last : wpAny (model X.prog X.w) X.A (setFlight (.ref a) X.env.frame) (fun _ t4 => wpAny (model X.prog X.w) X.A (throw (.ref a) : Sem PySem.Flow) (L2.SP X pins D) X.xe t4) X.xe { t1 with heap := g1 } := by
          rw [hf]
          refine HandSPX.setFlight_upZ fly fun g2 held up2 => wpAny_throw (tk _ _ ⟨a, G, tI, pins, σ1, H1, cls, d, rfl, J, nb, (up.trans up1).trans up2, .inr (.inr ?_), na, os, ag, want⟩)
          rw [hs]
          exact held
        first | exact wpAny_bind (wpAny_pure (wpAny_bind last)) | exact wpAny_bind last
      | @bare x c ts st sts np q hds2 l2 nm bl r ih =>
        intro want
        obtain ⟨b, is, yes, no⟩ := want
        refine wpAny_handleBy_cons (codeAny_handlers_test (named nm ((PySem.W.exm_one (M := model X.prog X.w) J1.kIn ty is).here ?_))) (fun z => by cases z)
        cases b with
        | false => exact ih (no rfl)
        | true =>
          refine codeAny_handlers_suite (HandSPX.lands_againZ fly fun g2 fly2 up2 => ?_)
          have J2 : Inv X pins σ1 H1 { t1 with heap := g2 } := J.landed nb fly2.1 ((up.trans up1).trans up2) os ag
          obtain ⟨oe2, vs2, at2, hz2, hd2⟩ := fly2.there
          refine wpAny_mono ((bl a oe2 cls d (X.pn ++ pins) hz2 ⟨_, hd2⟩).run [] _ _ H1 _ (J2.suite at2 hd2 na nL nF) (yes rfl a na)) (fun fl t6 o6 => ?_) (fun _ _ z => False.elim z)
          cases fl with
          | next => obtain ⟨τ, G6, S6, q6⟩ := o6; exact ⟨_, _, S6.unsuite I.ok, q6⟩
          | brk => obtain ⟨τ, G6, S6, q6⟩ := o6; exact ⟨_, _, S6.unsuite I.ok, q6⟩
          | cont => obtain ⟨τ, G6, S6, q6⟩ := o6; exact ⟨_, _, S6.unsuite I.ok, q6⟩
          | ret u => obtain ⟨v6, τ, G6, S6, r6, q6⟩ := o6; exact ⟨_, _, _, S6.unsuite I.ok, r6, q6⟩
      | @named x n c i ts st sts np q hds2 l2 nm hi hl bl r ih =>
        intro want
        obtain ⟨b, is, yes, no⟩ := want
        refine wpAny_handleBy_cons (codeAny_handlers_test (named nm ((PySem.W.exm_one (M := model X.prog X.w) J1.kIn ty is).here ?_))) (fun z => by cases z)
        cases b with
        | false => exact ih (no rfl)
        | true =>
          refine codeAny_handlers_suite_as (HandSPX.lands_againZ fly fun g2 fly2 up2 => ?_)
          have J2 : Inv X pins σ1 H1 { t1 with heap := g2 } := J.landed nb fly2.1 ((up.trans up1).trans up2) os ag
          obtain ⟨oe2, vs2, at2, hz2, hd2⟩ := fly2.there
          refine store_ok (X := X.suite a ((a, oe2) :: (X.pn ++ pins))) (v := .ref a) (J2.suite at2 hd2 na nL nF) hN hi (.inl hl) rfl (fun t5 S5 => ?_) (.inr hl)
          refine wpAny_mono ((bl a oe2 cls d (X.pn ++ pins) hz2 ⟨_, hd2⟩).run [] t5 _ H1 _ S5 (yes rfl a na)) (fun fl t6 o6 => ?_) (fun _ _ z => False.elim z)
          cases fl with
          | next => obtain ⟨τ, G6, S6, q6⟩ := o6; exact gone_ok (S6.unsuite I.ok) hN hi hl fun t7 J7 => ⟨_, _, J7, q6⟩
          | brk => obtain ⟨τ, G6, S6, q6⟩ := o6; exact gone_ok (S6.unsuite I.ok) hN hi hl fun t7 J7 => ⟨_, _, J7, q6⟩
          | cont => obtain ⟨τ, G6, S6, q6⟩ := o6; exact gone_ok (S6.unsuite I.ok) hN hi hl fun t7 J7 => ⟨_, _, J7, q6⟩
          | ret u => obtain ⟨v6, τ, G6, S6, r6, q6⟩ := o6; exact gone_ok (S6.unsuite I.ok) hN hi hl fun t7 J7 => ⟨_, _, _, J7, r6, q6⟩
    exact walk hh want
  · cases fl with
    | next => obtain ⟨τ, G, J, q⟩ := out; exact wpAny_execs_nil ⟨τ, G, J.ofTry I.ok, q⟩
    | brk => obtain ⟨τ, G, J, q⟩ := out; exact ⟨τ, G, J.ofTry I.ok, q⟩
    | cont => obtain ⟨τ, G, J, q⟩ := out; exact ⟨τ, G, J.ofTry I.ok, q⟩
    | ret u => obtain ⟨v, τ, G, J, r, q⟩ := out; exact ⟨v, τ, G, J.ofTry I.ok, r, q⟩⟩
end
end Fs
/-! F19 -/
set_option maxHeartbeats 2000000
/-! The block of an except clause: what is known of the exception in hand. -/
namespace Fs
open PySem PySem.Spec PyProof.Rows L2
/-- slot i holds the exception at a; d is its dict; xs are its fields -/
structure Hld (cl : Ec) (xf : Nat → List Str) (i : Option Nat) (a : Addr) (d : Option Addr) (c : Nat) (xs : List D) (vs : List V) (A L : Addr → Prop) (H : Hp) (σ : L2.St) : Prop where
  sl : ∀ k, i = some k → σ[k]? = some (some (.ref a))
  xa : XAt xf A H c vs d
  rp : Rps cl A L H false xs vs []
section
variable {cl : Ec} {xf : Nat → List Str} {ws : Nat → Bool} {A A' L B : Addr → Prop} {H H' : Hp} {δ δ' : Sl} {σ σ' : L2.St} {i : Option Nat} {a : Addr} {d : Option Addr} {c : Nat} {xs : List D} {vs : List V} {te ta tb : TE} {tA : TA} {tt tu : TT} {t u : TS}
theorem XAt.step {us : List V} (h : XAt xf A H c us d) (n : Nx A B H A' H') : XAt xf A' H' c us d := by
  rcases h with h | ⟨dd, fs, h1, h2, h3, h4⟩
  · exact .inl h
  · exact .inr ⟨dd, fs, h1, n.keep dd _ h2 h3, (n.both dd _ h2 h3).2, h4⟩
theorem Hld.step (h : Hld cl xf i a d c xs vs A L H σ) (n : Nx A B H A' H') (k : Kp ws σ σ') (hw : ∀ k, i = some k → ws k = false) : Hld cl xf i a d c xs vs A' L H' σ' :=
  ⟨fun j e => by rw [k.2 j (hw j e)]; exact h.sl j e, h.xa.step n, h.rp.step n.both (by simp) (by simp)⟩
def HP (cl : Ec) (P : (Addr → Prop) → (Addr → Prop) → Hp → L2.St → Prop) (te : TE) (f : PP) : Prop := ∀ A L H δ σ g d Q, Rpo cl A L H δ σ g → P A L H σ → f δ = some d → (∀ v fp, Rp cl A L H true d v fp → (∀ a ∈ fp, a ∈ g) → Q v H) → te σ H Q
def HL (cl : Ec) (P : (Addr → Prop) → (Addr → Prop) → Hp → L2.St → Prop) (ta : TA) (f : Sl → Option (List D)) : Prop := ∀ A L H δ σ g ds R, Rpo cl A L H δ σ g → P A L H σ → f δ = some ds → (∀ us, Rps cl A L H false ds us [] → R us H) → ta σ H R
def HE (cl : Ec) (xf : Nat → List Str) (P : (Addr → Prop) → (Addr → Prop) → Hp → L2.St → Prop) (te : TE) (de : DE) : Prop := ∀ A L B H δ σ Q, Jt false cl A L B H [] [] δ σ → P A L H σ → PostE cl xf W0 false (de δ) A L B H σ Q → te σ H Q
def HB (cl : Ec) (P : (Addr → Prop) → (Addr → Prop) → Hp → L2.St → Prop) (tt : TT) (f : Sl → Option Bool) : Prop := ∀ A L H δ σ g b Q, Rpo cl A L H δ σ g → P A L H σ → f δ = some b → Q b H → tt σ H Q
def HS (cl : Ec) (xf : Nat → List Str) (ws : Nat → Bool) (P : (Addr → Prop) → (Addr → Prop) → Hp → L2.St → Prop) (t : TS) (ds : DS) : Prop := ∀ A L B H δ σ E, Jt false cl A L B H [] [] δ σ → P A L H σ → PostS cl xf W0 ws (ds δ) A L B H σ E → t E σ H
variable {P : (Addr → Prop) → (Addr → Prop) → Hp → L2.St → Prop}
theorem hp_of {f : PP} (h : SP cl te f) : HP cl P te f := fun A L H δ σ g d Q r _ e k => h A L H δ σ g d Q r e k
theorem hp_un {r1 : V → Hp → VK → Prop} {f1 : D → Option D} {pa : PP} (ho : PUn cl r1 f1) (ha : HP cl P ta pa) : HP cl P (tUn r1 ta) (pUn f1 pa) := fun A L H δ σ g z Q r hp e k => by
  obtain ⟨x, e1, e2⟩ := Option.bind_eq_some_iff.mp e
  exact ha A L H δ σ g x _ r hp e1 fun v fp h1 n1 => ho A L H x v fp z Q h1 e2 fun w fq h2 n2 => k w fq h2 fun b hb => n1 b (n2 b hb)
/-- e.f -/
theorem hp_fld {k n : Nat} {f : Str} (hi : i = some k) (hf : (xf c)[n]? = some f) : HP cl (Hld cl xf i a d c xs vs) (tXf a (.ref (cl.c c)) d (cl.c c) f (tVar k)) (fun _ => xs[n]?) := fun A L H δ σ g z Q r hp e kk => by
  obtain ⟨v, f1, g1, g2, g3⟩ := hp.rp.get e
  refine ⟨_, hp.sl k hi, rfl, rfl, ?_⟩
  rcases hp.xa with ⟨q, _⟩ | ⟨dd, fs, e1, e2, _, _, e4⟩
  · rw [q] at hf; cases hf
  · exact ⟨dd, fs, v, e1, e2, e4 n f v hf g1, kk v f1 g2.weak fun b hb => by have := g3 b hb; cases this⟩
theorem hl_nil : HL cl P tNil (fun _ => some []) := fun A L H δ σ g ds R r hp e k => by cases e; exact k [] (by simp [Rps])
def lCons (pa : PP) (r : Sl → Option (List D)) : Sl → Option (List D) := fun δ => ((pa δ).filter D.kept).bind fun x => (r δ).map fun xs => x :: xs
theorem hl_cons {pa : PP} {rs : Sl → Option (List D)} (ha : HP cl P ta pa) (hr : HL cl P tA rs) : HL cl P (tCons ta tA) (lCons pa rs) := fun A L H δ σ g ds R r hp e k => by
  obtain ⟨x, e1, e2⟩ := Option.bind_eq_some_iff.mp e
  obtain ⟨xs, e3, rfl⟩ := Option.map_eq_some_iff.mp e2
  obtain ⟨e4, e5⟩ := Option.filter_eq_some_iff.mp e1
  refine ha A L H δ σ g x _ r hp e4 fun v fp h1 _ => hr A L H δ σ g xs _ r hp e3 fun us h2 => k (v :: us) ?_
  obtain ⟨h3, rfl⟩ := h1.strong e5
  simp only [Rps]
  exact ⟨v, us, [], [], rfl, rfl, h3, h2⟩
def dL (f : Sl → Option (List D)) : DA := fun δ => Out.ofO (f δ) δ
theorem he_f {rs : Sl → Option (List D)} {R : List V → Hp → VK → Prop} {F : List D → Option D} (ho : FOp cl R F) (hr : HL cl P tA rs) : HE cl xf P (tF R tA) (dF F (dL rs)) := fun A L B H δ σ Q j hp k => by
  unfold dF dL at k
  cases e : rs δ with
  | none => rw [e] at k; exact k.elim
  | some ds =>
    rw [e] at k
    obtain ⟨z, e2, k2⟩ := Post.ofO (show Post cl xf W0 false (Out.ofO (F ds) δ) d1s A L B H σ _ from k)
    obtain ⟨g, r, nd, hb⟩ := j.drop0
    refine hr A L H δ σ g ds _ r hp e fun us h1 => ?_
    have j1 : Jt false cl A L B H ds us δ σ := ⟨⟨[], g, h1, r, by simpa using nd, by simp, hb⟩, j.lb, j.ba, j.ad⟩
    exact ho false A L B H δ σ ds us z Q j1 e2 fun v A2 H2 n2 j2 => k2 [v] A2 H2 n2 j2 v rfl
theorem he_p {pa : PP} (ha : HP cl P ta pa) : HE cl xf P ta (dP pa) := fun A L B H δ σ Q j hp k => by
  obtain ⟨x, e, k2⟩ := Post.ofO (show Post cl xf W0 false (Out.ofO ((pa δ).filter D.kept) δ) d1s A L B H σ _ from k)
  obtain ⟨e4, e5⟩ := Option.filter_eq_some_iff.mp e
  obtain ⟨g, r, _, _⟩ := j.drop0
  exact ha A L H δ σ g x _ r hp e4 fun v fp h1 _ => k2 [v] A H (Nx.refl j.ba) (j.kept e5 h1) v rfl
/-! tests -/
def bV (pa : PP) : Sl → Option Bool := fun δ => match pa δ with | some (.v (.bl b)) => some b | _ => none
theorem hb_v {pa : PP} (ha : HP cl P ta pa) : HB cl P (tB ta) (bV pa) := fun A L H δ σ g b Q r hp e k => by
  unfold bV at e
  split at e
  · rename_i e1
    cases e
    exact ha A L H δ σ g _ _ r hp e1 fun v fp h1 _ => by
      obtain ⟨rfl, _, _⟩ := h1.leafv
      exact ⟨_, rfl, k⟩
  · cases e
def bOr (f g : Sl → Option Bool) : Sl → Option Bool := fun δ => (f δ).bind fun b => if b then some true else g δ
theorem hb_or {f g : Sl → Option Bool} (ha : HB cl P tt f) (hb : HB cl P tu g) : HB cl P (tOr tt tu) (bOr f g) := fun A L H δ σ gg b Q r hp e k => by
  obtain ⟨x, e1, e2⟩ := Option.bind_eq_some_iff.mp e
  refine ha A L H δ σ gg x _ r hp e1 ?_
  cases x with
  | true => cases e2; exact k
  | false => exact hb A L H δ σ gg b Q r hp e2 k
def bNot (f : Sl → Option Bool) : Sl → Option Bool := fun δ => (f δ).map fun b => !b
theorem hb_not {f : Sl → Option Bool} (ha : HB cl P tt f) : HB cl P (tNot tt) (bNot f) := fun A L H δ σ gg b Q r hp e k => by
  obtain ⟨x, e1, rfl⟩ := Option.map_eq_some_iff.mp e
  exact ha A L H δ σ gg x _ r hp e1 k
def dtB (f : Sl → Option Bool) : DT := fun δ => Out.ofO (f δ) δ
/-! statements -/
theorem hs_of {ds : DS} (h : SS cl xf W0 ws t ds) : HS cl xf ws P t ds := fun A L B H δ σ E j _ k => h A L B H δ σ E j k
theorem hs_asg {e : DE} {g : TG} {tg : D → Sl → Option Sl} (he : HE cl xf P te e) (hg : SG cl ws g tg) : HS cl xf ws P (tAsg te g) (dsAsg e tg) := fun A L B H δ σ E j hp k => by
  refine he A L B H δ σ _ j hp (PostS.bind k fun x δ1 us A1 H1 e1 n1 j1 k1 v ev => ?_)
  subst ev
  split at k1
  · rename_i δ2 e2
    exact hg false A1 L B H1 δ1 δ2 σ x v _ j1 e2 fun σ2 kp j2 => k1 A1 H1 σ2 n1 kp j2
  · exact k1.elim
theorem hs_if {f : Sl → Option Bool} {x y : DS} (hc : HB cl P tt f) (ha : HS cl xf ws P t x) (hb : HS cl xf ws P u y) : HS cl xf ws P (tIfS tt t u) (dsIf (dtB f) x y) := fun A L B H δ σ E j hp k => by
  unfold dsIf dtB at k
  cases e : f δ with
  | none => rw [e] at k; exact k.elim
  | some b =>
    rw [e] at k
    obtain ⟨g, r, _, _⟩ := j.drop0
    refine hc A L H δ σ g b _ r hp e ?_
    cases b with
    | true => exact ha A L B H δ σ E j hp k
    | false => exact hb A L B H δ σ E j hp k
theorem hs_seq {x y : DS} (st : ∀ A L B H σ A' H' σ', P A L H σ → Nx A B H A' H' → Kp ws σ σ' → P A' L H' σ') (ha : HS cl xf ws P t x) (hb : HS cl xf ws P u y) : HS cl xf ws P (tSeq t u) (dsSeq x y) := fun A L B H δ σ E j hp k => by
  refine ha A L B H δ σ _ j hp ?_
  unfold dsSeq at k
  cases e : x δ with
  | bad => rw [e] at k; exact k
  | exc c xs s => rw [e] at k; exact k
  | ok f s =>
    rw [e] at k
    simp only [Out.bind] at k
    cases f with
    | nx => exact fun A2 H2 σ2 n2 k2 j2 => hb A2 L B H2 s σ2 E j2 (st A L B H σ A2 H2 σ2 hp n2 k2) (PostS.step k n2 k2)
    | bk => exact k
    | ct => exact k
    | rt d => exact k
end
end Fs
/-! F20 -/
set_option maxHeartbeats 2000000
/-! try over data. -/
namespace Fs
open PySem PySem.Spec PyProof.Rows L2
structure Hn where
  m : Nat → Bool
  i : Option Nat
  h : List D → DS
def wipeI (i : Option Nat) (δ : Sl) : Sl := match i with | none => δ | some k => δ.set k none
def okI (i : Option Nat) (δ : Sl) : Bool := match i with | none => true | some k => decide (k < δ.length)
def Out.behind (i : Option Nat) : Out Flow → Out Flow
  | .ok f δ => .ok f (wipeI i δ)
  | .exc _ _ _ => .bad
  | .bad => .bad
def pick (c : Nat) (xs : List D) : List Hn → Sl → Out Flow
  | [], δ => .exc c xs δ
  | q :: r, δ => if q.m c then (if okI q.i δ then (q.h xs (wipeI q.i δ)).behind q.i else .bad) else pick c xs r δ
def dsTry (n : Nat → Bool) (body : DS) (hs : List Hn) : DS := fun δ => match body δ with
  | .exc c xs δ1 => if n c = true ∧ xs.all D.kept = true then pick c xs hs δ1 else .bad
  | o => o
section
variable {cl : Ec} {xf : Nat → List Str} {W : WX} {ws : Nat → Bool} {A A' L B : Addr → Prop} {H H' : Hp} {δ δ' : Sl} {σ σ' : L2.St} {p : Bool}
def less (ws : Nat → Bool) (i : Option Nat) : Nat → Bool := fun k => ws k && decide (i ≠ some k)
/-- a clause against its data -/
structure HnOk (cl : Ec) (xf : Nat → List Str) (ws : Nat → Bool) (n : Nat → Bool) (q : Cl) (h : Hn) : Prop where
  ei : q.i = h.i
  wi : ∀ k, h.i = some k → ws k = true
  is : ∀ c, n c = true → PySem.W.exmOne cl.K (.ref (cl.c c)) q.c = some (h.m c)
  run : ∀ a d c xs vs, n c = true → h.m c = true → HS cl xf (less ws h.i) (Hld cl xf h.i a d c xs vs) (q.ts a (.ref (cl.c c)) d) (h.h xs)
inductive HnsOk (cl : Ec) (xf : Nat → List Str) (ws : Nat → Bool) (n : Nat → Bool) : List Cl → List Hn → Prop
  | nil : HnsOk cl xf ws n [] []
  | cons {q : Cl} {h : Hn} {l : List Cl} {hs : List Hn} (x : HnOk cl xf ws n q h) (r : HnsOk cl xf ws n l hs) : HnsOk cl xf ws n (q :: l) (h :: hs)
theorem Jt.gone {ts : List D} {vs : List V} {k : Nat} {x : Option V} (j : Jt p cl A L B H ts vs δ σ) : Jt p cl A L B H ts vs (δ.set k none) (σ.set k x) := by
  by_cases hk : k < δ.length
  · exact j.clear.blur (by rw [List.getElem?_set_self hk])
  · have hl := j.slots
    rw [List.set_eq_of_length_le (by omega), List.set_eq_of_length_le (by omega)]
    exact j
theorem Kp.behind {k : Nat} {τ : L2.St} {x y : Option V} (hw : ws k = true) (k1 : Kp ws σ σ') (k2 : Kp (less ws (some k)) (σ'.set k x) τ) : Kp ws σ (τ.set k y) := by
  refine ⟨by rw [List.length_set, k2.1, List.length_set]; exact k1.1, fun m hm => ?_⟩
  have ne : k ≠ m := fun z => by rw [z, hm] at hw; cases hw
  rw [List.getElem?_set_ne ne, k2.2 m (by simp [less, hm]), List.getElem?_set_ne ne]
  exact k1.2 m hm
theorem Kp.weak {ws' : Nat → Bool} (k : Kp ws' σ σ') (h : ∀ m, ws m = false → ws' m = false) : Kp ws σ σ' := ⟨k.1, fun m hm => k.2 m (h m hm)⟩
theorem pick_ok {n : Nat → Bool} {c : Nat} {xs : List D} {vs : List V} {d : Option Addr} {E : Ends} (hc : n c = true) (hk : xs.all D.kept = true) (xa : XAt xf A H c vs d) (j : Jt false cl A L B H xs vs δ σ) : ∀ {l : List Cl} {hs : List Hn}, HnsOk cl xf ws n l hs → PostS cl xf W ws (pick c xs hs δ) A L B H σ E → wCl cl.K W E l (.ref (cl.c c)) d σ H
  | _, _, .nil, k => k d vs A H σ (Nx.refl j.ba) (Kp.refl σ) xa j
  | q :: l, h :: hs, .cons x r, k => by
    refine ⟨h.m c, x.is c hc, fun hm a ha => ?_, fun hm => ?_⟩
    · unfold pick at k
      rw [if_pos hm] at k
      split at k
      · rename_i hi
        have rp : Rps cl A L H false xs vs [] := by
          obtain ⟨f, g, h1, _⟩ := j.ex
          exact h1.keptS hk
        have j0 := j.drop
        cases e : h.i with
        | none =>
          rw [e] at k hi
          have hq : q.i = none := x.ei.trans e
          have ep : q.put σ a = σ := by unfold Cl.put; rw [hq]
          have ef : q.fin E = E := by unfold Cl.fin; rw [hq]
          rw [ep, ef]
          have run := x.run a d c xs vs hc hm
          rw [e] at run
          refine run A L B H δ σ E j0 ⟨(fun m z => by cases z), xa, rp⟩ ?_
          have wk : ∀ {τ τ' : L2.St}, Kp (less ws none) τ τ' → Kp ws τ τ' := fun kp => kp.weak fun m hm => by simp [less, hm]
          simp only [wipeI] at k
          cases o : h.h xs δ with
          | bad => rw [o] at k; exact k
          | exc c' xs' s => rw [o] at k; exact k.elim
          | ok f s =>
            rw [o] at k
            cases f with
            | nx => exact fun A2 H2 τ n2 k2 j2 => k A2 H2 τ n2 (wk k2) j2
            | bk => exact fun A2 H2 τ n2 k2 j2 => k A2 H2 τ n2 (wk k2) j2
            | ct => exact fun A2 H2 τ n2 k2 j2 => k A2 H2 τ n2 (wk k2) j2
            | rt z => exact fun v A2 H2 τ n2 k2 j2 => k v A2 H2 τ n2 (wk k2) j2
        | some m =>
          rw [e] at k hi
          have hq : q.i = some m := x.ei.trans e
          have hw := x.wi m e
          have hlt : m < σ.length := by rw [← j.slots]; exact of_decide_eq_true hi
          have ep : q.put σ a = σ.set m (some (.ref a)) := by unfold Cl.put; rw [hq]
          have ef : q.fin E = { nx := fun τ G => E.nx (τ.set m none) G, rt := E.rt, bk := fun τ G => E.bk (τ.set m none) G, ct := fun τ G => E.ct (τ.set m none) G } := by unfold Cl.fin; rw [hq]
          rw [ep, ef]
          have run := x.run a d c xs vs hc hm
          rw [e] at run
          refine run A L B H (δ.set m none) (σ.set m (some (.ref a))) _ j0.gone ⟨(fun m' z => by cases z; rw [List.getElem?_set_self hlt]), xa, rp⟩ ?_
          simp only [wipeI] at k
          cases o : h.h xs (δ.set m none) with
          | bad => rw [o] at k; exact k
          | exc c' xs' s => rw [o] at k; exact k.elim
          | ok f s =>
            rw [o] at k
            cases f with
            | nx => exact fun A2 H2 τ n2 k2 j2 => k A2 H2 (τ.set m none) n2 (Kp.behind hw (Kp.refl σ) k2) j2.gone
            | bk => exact fun A2 H2 τ n2 k2 j2 => k A2 H2 (τ.set m none) n2 (Kp.behind hw (Kp.refl σ) k2) j2.gone
            | ct => exact fun A2 H2 τ n2 k2 j2 => k A2 H2 (τ.set m none) n2 (Kp.behind hw (Kp.refl σ) k2) j2.gone
            | rt z => exact fun v A2 H2 τ n2 k2 j2 => k v A2 H2 (τ.set m none) n2 (Kp.behind hw (Kp.refl σ) k2) j2.gone
      · exact k.elim
    · unfold pick at k
      rw [if_neg (by rw [hm]; simp)] at k
      exact pick_ok hc hk xa j r k
theorem ss_try {n : Nat → Bool} {tb : WX → TS} {body : DS} {l : List Cl} {hs : List Hn} (hb : ∀ W', SS cl xf W' ws (tb W') body) (hh : HnsOk cl xf ws n l hs) : SS cl xf W ws (fun E σ H => tb (wCl cl.K W E l) E σ H) (dsTry n body hs) := fun A L B H δ σ E j k => by
  refine hb _ A L B H δ σ E j ?_
  unfold dsTry at k
  cases e : body δ with
  | bad => rw [e] at k; exact k
  | exc c xs s =>
    rw [e] at k
    simp only at k
    split at k
    · rename_i hc
      exact fun d vs A1 H1 σ1 n1 k1 x1 j1 => pick_ok hc.1 hc.2 x1 j1 hh (PostS.step k n1 k1)
    · exact k.elim
  | ok f s => rw [e] at k; cases f <;> exact k
end
/-! the same with the text -/
section
variable {cl : Ec} {xf : Nat → List Str} {X : Cx} {W : WX} {ws : Nat → Bool}
/-- one clause -/
structure Hc (cl : Ec) (xf : Nat → List Str) (X : Cx) (ws : Nat → Bool) (n : Nat → Bool) (eh : ExceptHandler) (h : Hn) : Prop where
  ex : ∃ q : Cl, HnOk cl xf ws n q h ∧ ∀ {hds : List ExceptHandler} {l : List Cl}, ClOk X hds l → ClOk X (eh :: hds) (q :: l)
inductive Hcs (cl : Ec) (xf : Nat → List Str) (X : Cx) (ws : Nat → Bool) (n : Nat → Bool) : List ExceptHandler → List Hn → Prop
  | nil : Hcs cl xf X ws n [] []
  | cons {eh : ExceptHandler} {h : Hn} {ehs : List ExceptHandler} {hs : List Hn} (x : Hc cl xf X ws n eh h) (r : Hcs cl xf X ws n ehs hs) : Hcs cl xf X ws n (eh :: ehs) (h :: hs)
theorem Hcs.both {n : Nat → Bool} : ∀ {ehs : List ExceptHandler} {hs : List Hn}, Hcs cl xf X ws n ehs hs → ∃ l, HnsOk cl xf ws n l hs ∧ ClOk X ehs l
  | _, _, .nil => ⟨[], .nil, .nil⟩
  | _, _, .cons x r => by
    obtain ⟨l, h1, h2⟩ := r.both
    obtain ⟨q, h3, h4⟩ := x.ex
    exact ⟨q :: l, .cons h3 h1, h4 h2⟩
theorem s_try {n : Nat → Bool} {body : List Stmt} {e0 : ExceptHandler} {ehs : List ExceptHandler} {db : DS} {hs : List Hn} {pos : Pos} (hK : X.K = cl.K) (tk : Takes X W) (hN : X.N.Nodup)
    (hb : ∀ (W' : WX) (pn : List (Addr × Obj)) (xe : Value → Shared → Prop), Takes (X.tr pn xe) W' → PassesOwn (model X.prog X.w) X.A X.env xe → Rb cl xf (X.tr pn xe) W' ws body db) (hh : Hcs cl xf X ws n (e0 :: ehs) hs) (hst : X.stack = X.env :: X.outer := by rfl) (hfr : X.env.frame = some X.env.locals := by rfl) :
    Rs cl xf X W ws (.Try body (e0 :: ehs) [] [] pos) (dsTry n db hs) := by
  obtain ⟨l, h1, h2⟩ := hh.both
  refine ⟨_, ps_try_cl (tb := fun W' E σ H => ∀ t, SS cl xf W' ws t db → t E σ H) hst hfr hN tk (fun W' pn xe tk' po => ⟨fun pins s σ H E I h => ?_⟩) h2, ?_⟩
  · obtain ⟨t, q1, q2⟩ := hb W' pn xe tk' po
    exact q1.run pins s σ H E I (h t q2)
  · rw [hK]
    exact ss_try (tb := fun W' E σ H => ∀ t, SS cl xf W' ws t db → t E σ H) (fun W' A L B H δ σ E j k t ht => ht A L B H δ σ E j k) h1
/-- the block of a clause in whatever frame -/
def Hblk (cl : Ec) (xf : Nat → List Str) (X : Cx) (ws : Nat → Bool) (n : Nat → Bool) (m : Nat → Bool) (i : Option Nat) (sts : List Stmt) (dh : List D → DS) : Prop := ∀ (a : Addr) (oe : Obj) (cls : Value) (d : Option Addr) (pn : List (Addr × Obj)), Zc cls d oe → (∃ vs, oe.data = .fields vs) →
  ∃ t, PSs (X.suite a ((a, oe) :: pn)) sts t ∧ ∀ c xs vs, n c = true → m c = true → cls = .ref (cl.c c) → HS cl xf (less ws i) (Hld cl xf i a d c xs vs) t (dh xs)
theorem hblk {n : Nat → Bool} {m : Nat → Bool} {i : Option Nat} {sts : List Stmt} {dh : List D → DS} (h : Hblk cl xf X ws n m i sts dh) : ∃ ts, Blk X sts ts ∧ ∀ a d c xs vs, n c = true → m c = true → HS cl xf (less ws i) (Hld cl xf i a d c xs vs) (ts a (.ref (cl.c c)) d) (dh xs) := by
  refine ⟨fun a cls d E σ H => ∀ t, (∀ c xs vs, n c = true → m c = true → cls = .ref (cl.c c) → HS cl xf (less ws i) (Hld cl xf i a d c xs vs) t (dh xs)) → t E σ H, fun a oe cls d pn hz hd => ⟨fun pins s σ H E I w => ?_⟩, fun a d c xs vs hc hm A L B H δ σ E j hp k t ht => ?_⟩
  · obtain ⟨t, q1, q2⟩ := h a oe cls d pn hz hd
    exact q1.run pins s σ H E I (w t q2)
  · exact ht c xs vs hc hm rfl A L B H δ σ E j hp k
theorem hc_as {n : Nat → Bool} {k : Nat} {m : Nat → Bool} {x y : Str} {c : Value} {st : Stmt} {sts : List Stmt} {np q : Pos} {dh : List D → DS} (nm : Names X x c) (hk : X.N[k]? = some y) (hl : X.env.kindOf y = some .local) (hw : ws k = true) (is : ∀ c', n c' = true → PySem.W.exmOne cl.K (.ref (cl.c c')) c = some (m c')) (h : Hblk cl xf X ws n m (some k) (st :: sts) dh) :
    Hc cl xf X ws n (.ExceptHandler (some (.Name x np)) (some y) (st :: sts) q) ⟨m, some k, dh⟩ := by
  obtain ⟨ts, h1, h2⟩ := hblk h
  exact ⟨⟨c, some k, ts⟩, ⟨rfl, (fun k' z => by cases z; exact hw), is, h2⟩, fun r => .named nm hk hl h1 r⟩
theorem hc_bare {n : Nat → Bool} {m : Nat → Bool} {x : Str} {c : Value} {st : Stmt} {sts : List Stmt} {np q : Pos} {dh : List D → DS} (nm : Names X x c) (is : ∀ c', n c' = true → PySem.W.exmOne cl.K (.ref (cl.c c')) c = some (m c')) (h : Hblk cl xf X ws n m none (st :: sts) dh) :
    Hc cl xf X ws n (.ExceptHandler (some (.Name x np)) none (st :: sts) q) ⟨m, none, dh⟩ := by
  obtain ⟨ts, h1, h2⟩ := hblk h
  exact ⟨⟨c, none, ts⟩, ⟨rfl, (fun k' z => by cases z), is, h2⟩, fun r => .bare nm h1 r⟩
end
end Fs
/-! F21 -/
set_option maxHeartbeats 2000000
/-! The text of an except clause's block. -/
namespace Fs
open PySem PySem.Spec PyProof.Rows L2
/-- isinstance(e, c), e the exception in hand, with a dict -/
def rIsX (K : PySem.W.Frag) (C a : Addr) (d : Option Addr) : List V → Hp → VK → Prop := fun xs H Q => ∃ (c : V) (cv : Value) (b : Bool) (dd : Addr) (fs : List (Str × V)), xs = [.ref a, c] ∧ (∀ u, RelV c u → u = cv) ∧ d = some dd ∧ H dd = some (.xd fs) ∧ PySem.W.kitOne K (.ref C) cv = some b ∧ Q (.bl b) H
theorem call_isX {X : Cx} {a C : Addr} {oe : Obj} {d : Option Addr} {pn : List (Addr × Obj)} (T : ExcC X.K C) (hz : Zc (.ref C) d oe) (hf : ∃ vs, oe.data = .fields vs) : CallR (X.suite a ((a, oe) :: pn)) (.builtin "isinstance") (rIsX X.K C a d) := by
  intro pins s σ H xs us Q I r h
  obtain ⟨c, cv, b, dd, fs, rfl, hcv, rfl, hdd, e, q⟩ := h
  obtain ⟨u1, u2, rfl, r1, r2⟩ := vals2 r
  cases (show u1 = Value.ref a from r1)
  cases hcv _ r2
  obtain ⟨hget, _⟩ := I.pin (a, oe) (List.mem_append_left _ List.mem_cons_self)
  obtain ⟨vs, hv⟩ := hf
  obtain ⟨mA, hns, _⟩ := (show ObjOk X.prog X.w H s.heap dd (.xd fs) from I.hok dd _ hdd)
  obtain ⟨od, ho, _⟩ := lookIn_ns hns
  have J : PySem.W.InstAt s.heap a oe C (some od) := ⟨hget, hz.1, by unfold PySem.W.notCls; rw [hv] <;> rfl, by rw [hz.2]; exact ho⟩
  obtain ⟨cd, hc, _⟩ := PySem.W.any_some T.hd
  exact PySem.W.kia_one (PySem.W.kitx_exc (by rw [hc]; rfl) T.hg T.hk T.hs T.ha T.hn T.ht T.hm) I.kIn J e (fun z => nomatch z) fun tk => ⟨.bl b, H, I.kept (t' := tk) fun _ _ z => z, rfl, q⟩
section
variable {cl : Ec} {xf : Nat → List Str} {X : Cx} {ws : Nat → Bool} {n : Nat → Bool} {m : Nat → Bool} {i : Option Nat} {a : Addr} {oe : Obj} {cls : Value} {d : Option Addr} {pn : List (Addr × Obj)} {e b : Expr} {es rest : List Expr} {pos pos' py pp : Pos}
/-- what the text e is, whichever exception of the clause's kinds is in hand -/
def Qk (cl : Ec) (xf : Nat → List Str) (X : Cx) (n : Nat → Bool) (m : Nat → Bool) (i : Option Nat) (a : Addr) (cls : Value) (d : Option Addr) (e : Expr) (pp : List D → PP) : Prop := ∃ te, PE X e te ∧ ∀ c xs vs, n c = true → m c = true → cls = .ref (cl.c c) → HP cl (Hld cl xf i a d c xs vs) te (pp xs)
def Ql (cl : Ec) (xf : Nat → List Str) (X : Cx) (n : Nat → Bool) (m : Nat → Bool) (i : Option Nat) (a : Addr) (cls : Value) (d : Option Addr) (es : List Expr) (f : List D → Sl → Option (List D)) : Prop := ∃ ta, L2.PA X es ta ∧ ∀ c xs vs, n c = true → m c = true → cls = .ref (cl.c c) → HL cl (Hld cl xf i a d c xs vs) ta (f xs)
def Qe (cl : Ec) (xf : Nat → List Str) (X : Cx) (n : Nat → Bool) (m : Nat → Bool) (i : Option Nat) (a : Addr) (cls : Value) (d : Option Addr) (e : Expr) (de : List D → DE) : Prop := ∃ te, PE X e te ∧ ∀ c xs vs, n c = true → m c = true → cls = .ref (cl.c c) → HE cl xf (Hld cl xf i a d c xs vs) te (de xs)
def Qb (cl : Ec) (xf : Nat → List Str) (X : Cx) (n : Nat → Bool) (m : Nat → Bool) (i : Option Nat) (a : Addr) (cls : Value) (d : Option Addr) (e : Expr) (f : List D → Sl → Option Bool) : Prop := ∃ tt, L2.PT X e tt ∧ ∀ c xs vs, n c = true → m c = true → cls = .ref (cl.c c) → HB cl (Hld cl xf i a d c xs vs) tt (f xs)
def Qw (cl : Ec) (xf : Nat → List Str) (X : Cx) (n : Nat → Bool) (m : Nat → Bool) (i : Option Nat) (a : Addr) (cls : Value) (d : Option Addr) (e : Expr) (f : List D → Sl → Option Bool) : Prop := ∃ tt, PW X e tt ∧ ∀ c xs vs, n c = true → m c = true → cls = .ref (cl.c c) → HB cl (Hld cl xf i a d c xs vs) tt (f xs)
def Qs (cl : Ec) (xf : Nat → List Str) (X : Cx) (ws : Nat → Bool) (n : Nat → Bool) (m : Nat → Bool) (i : Option Nat) (a : Addr) (cls : Value) (d : Option Addr) (st : Stmt) (ds : List D → DS) : Prop := ∃ t, PS X st t ∧ ∀ c xs vs, n c = true → m c = true → cls = .ref (cl.c c) → HS cl xf (less ws i) (Hld cl xf i a d c xs vs) t (ds xs)
def Qss (cl : Ec) (xf : Nat → List Str) (X : Cx) (ws : Nat → Bool) (n : Nat → Bool) (m : Nat → Bool) (i : Option Nat) (a : Addr) (cls : Value) (d : Option Addr) (sts : List Stmt) (ds : List D → DS) : Prop := ∃ t, PSs X sts t ∧ ∀ c xs vs, n c = true → m c = true → cls = .ref (cl.c c) → HS cl xf (less ws i) (Hld cl xf i a d c xs vs) t (ds xs)
theorem qk_of {p0 : PP} (h : Rk cl X e p0) : Qk cl xf X n m i a cls d e (fun _ => p0) := by obtain ⟨te, h1, h2⟩ := h; exact ⟨te, h1, fun _ _ _ _ _ _ => hp_of h2⟩
theorem qk_un {r1 : V → Hp → VK → Prop} {f1 : D → Option D} {pa : List D → PP} (o : B1 X e b r1) (h : PUn cl r1 f1) (ha : Qk cl xf X n m i a cls d b pa) : Qk cl xf X n m i a cls d e (fun xs => pUn f1 (pa xs)) := by
  obtain ⟨te, h1, h2⟩ := ha
  exact ⟨_, o _ h1, fun c xs vs hc hm e => hp_un h (h2 c xs vs hc hm e)⟩
theorem qk_fld (k c0 nn : Nat) {f y : Str} (T : XfC X.K (cl.c c0)) (hno : PySem.W.findIn X.K (.ref (cl.c c0)) f = some none) (hz : Zc cls d oe) (hd : ∃ vs, oe.data = .fields vs) (hm : ∀ c, m c = true → c = c0) (hf : (xf c0)[nn]? = some f := by rfl) (hN : X.N[k]? = some y := by rfl) (hv : Vis X.env.scope y := by first | exact Or.inl rfl | exact Or.inr (Or.inl rfl) | exact Or.inr (Or.inr rfl)) (hb : attributeBase (.Name y py) f X.env (eval (.Name y py) X.env) = eval (.Name y py) X.env := by rfl) (hdb : (y == ("__debug__" : Str)) = false := by decide) (hcd : (y == ("__classdict__" : Str)) = false := by decide) :
    Qk cl xf (X.suite a ((a, oe) :: pn)) n m (some k) a cls d (.Attribute (.Name y py) f pos) (fun xs _ => xs[nn]?) := by
  refine ⟨_, pe_xf T hno hz hd (pe_var (X := X.suite a ((a, oe) :: pn)) hN hv hdb hcd) hb, fun c xs vs hc hmc hcl => ?_⟩
  have := hm c hmc
  subst this
  subst hcl
  exact hp_fld rfl hf
theorem qk_isx (k c0 : Nat) {CB : Addr} {r : Bool} {x y : Str} {px : Pos} (T : ExcC X.K (cl.c c0)) (hz : Zc cls d oe) (hd : ∃ vs, oe.data = .fields vs) (hm : ∀ c, m c = true → c = c0) (hxf : xf c0 ≠ []) (hB : PySem.W.kitOne X.K (.ref (cl.c c0)) (.ref CB) = some r) (hi : X.mg "isinstance" = none) (hx : X.mg x = some (.ref CB))
    (hN : X.N[k]? = some y := by rfl) (hv : Vis X.env.scope y := by first | exact Or.inl rfl | exact Or.inr (Or.inl rfl) | exact Or.inr (Or.inr rfl)) (hg : Gl X "isinstance" := by rfl) (hgx : Gl X x := by rfl) (hdb : (y == ("__debug__" : Str)) = false := by decide) (hcd : (y == ("__classdict__" : Str)) = false := by decide) (hdx : (x == ("__debug__" : Str)) = false := by decide)
    (h1 : starEach [.Name y py, .Name x px] X.env = (false, eval (.Name y py) X.env) :: starEach [.Name x px] X.env := by rfl) (h0 : starEach [.Name x px] X.env = (false, eval (.Name x px) X.env) :: starEach [] X.env := by rfl) (h2 : (backTo pos (starEach [.Name x px] X.env)).any (·.1) = false := by rfl) :
    Qk cl xf (X.suite a ((a, oe) :: pn)) n m (some k) a cls d (.Call (.Name "isinstance" pp) [.Name y py, .Name x px] [] pos) (fun _ => pC (.bl r)) := by
  by_cases hc0 : cls = .ref (cl.c c0)
  · subst hc0
    refine ⟨_, pe_callB (X := X.suite a ((a, oe) :: pn)) (call_isX T hz hd) hg hi PyProof.Rows.boot_isinstance (pa_cons (pe_var (X := X.suite a ((a, oe) :: pn)) hN hv hdb hcd) (pa_cons (pe_glob (X := X.suite a ((a, oe) :: pn)) (v := .ref CB) hgx hx rfl hdx) pa_nil h0) h1) (by decide) (by decide) h1 h2, fun c xs vs hc hmc hcl => ?_⟩
    have := hm c hmc
    subst this
    intro A L H δ σ g z Q rr hp ez kk
    cases ez
    refine ⟨_, hp.sl k rfl, ?_⟩
    rcases hp.xa with ⟨q, _⟩ | ⟨dd, fs, e1, e2, _⟩
    · exact absurd q hxf
    · exact ⟨.ref CB, .ref CB, r, dd, fs, rfl, fun u hu => hu, e1, e2, hB, kk _ [] (Rp.leaf rfl) (by simp)⟩
  · refine ⟨fun _ _ _ => False, ⟨fun _ _ _ _ _ _ z => z.elim⟩, fun c xs vs hc hmc hcl => absurd ?_ hc0⟩
    rw [hcl, hm c hmc]
theorem ql_nil : Ql cl xf X n m i a cls d [] (fun _ _ => some []) := ⟨_, pa_nil, fun _ _ _ _ _ _ => hl_nil⟩
theorem ql_cons {pa : List D → PP} {f : List D → Sl → Option (List D)} (ha : Qk cl xf X n m i a cls d e pa) (hr : Ql cl xf X n m i a cls d es f) (hs : starEach (e :: es) X.env = (false, eval e X.env) :: starEach es X.env := by rfl) : Ql cl xf X n m i a cls d (e :: es) (fun xs => lCons (pa xs) (f xs)) := by
  obtain ⟨te, h1, h2⟩ := ha
  obtain ⟨ta, h3, h4⟩ := hr
  exact ⟨_, pa_cons h1 h3 hs, fun c xs vs hc hm e => hl_cons (h2 c xs vs hc hm e) (h4 c xs vs hc hm e)⟩
theorem qe_p {pa : List D → PP} (ha : Qk cl xf X n m i a cls d e pa) : Qe cl xf X n m i a cls d e (fun xs => dP (pa xs)) := by obtain ⟨te, h1, h2⟩ := ha; exact ⟨te, h1, fun c xs vs hc hm e => he_p (h2 c xs vs hc hm e)⟩
theorem qe_lst {f : List D → Sl → Option (List D)} (h : Ql cl xf X n m i a cls d es f) : Qe cl xf X n m i a cls d (.List es pos) (fun xs => dF mkLst (dL (f xs))) := by obtain ⟨ta, h1, h2⟩ := h; exact ⟨_, pe_lst h1, fun c xs vs hc hm e => he_f fop_lst (h2 c xs vs hc hm e)⟩
theorem qe_tup {x1} {f : List D → Sl → Option (List D)} (h : Ql cl xf X n m i a cls d es f) : Qe cl xf X n m i a cls d (.Tuple es x1 pos) (fun xs => dF mkTup (dL (f xs))) := by obtain ⟨ta, h1, h2⟩ := h; exact ⟨_, pe_tup h1, fun c xs vs hc hm e => he_f fop_tup (h2 c xs vs hc hm e)⟩
theorem qb_v {pa : List D → PP} (ha : Qk cl xf X n m i a cls d e pa) (he : ∀ whole, isTrue e X.env whole = (do let v ← whole; standAt e.pos; holding [v] (truthy v)) := by intro _; rfl) : Qb cl xf X n m i a cls d e (fun xs => bV (pa xs)) := by obtain ⟨te, h1, h2⟩ := ha; exact ⟨_, pt_val h1 he, fun c xs vs hc hm e => hb_v (h2 c xs vs hc hm e)⟩
theorem qb_not {f : List D → Sl → Option Bool} (ha : Qb cl xf X n m i a cls d e f) : Qb cl xf X n m i a cls d (.UnaryOp .Not e pos) (fun xs => bNot (f xs)) := by obtain ⟨te, h1, h2⟩ := ha; exact ⟨_, pt_not h1, fun c xs vs hc hm e => hb_not (h2 c xs vs hc hm e)⟩
theorem qb_w {f : List D → Sl → Option Bool} (ha : Qw cl xf X n m i a cls d e f) : Qb cl xf X n m i a cls d e f := by obtain ⟨te, h1, h2⟩ := ha; exact ⟨_, PW.pt h1, h2⟩
theorem qw_or1 {f : List D → Sl → Option Bool} (ha : Qb cl xf X n m i a cls d e f) : Qw cl xf X n m i a cls d (.BoolOp .Or [e] pos) f := by obtain ⟨te, h1, h2⟩ := ha; exact ⟨_, pw_or1 h1, h2⟩
theorem qw_or {f g : List D → Sl → Option Bool} (ha : Qb cl xf X n m i a cls d e f) (hb : Qw cl xf X n m i a cls d (.BoolOp .Or (b :: rest) pos) g) : Qw cl xf X n m i a cls d (.BoolOp .Or (e :: b :: rest) pos) (fun xs => bOr (f xs) (g xs)) := by
  obtain ⟨te, h1, h2⟩ := ha
  obtain ⟨tu, h3, h4⟩ := hb
  exact ⟨_, pw_or h1 h3, fun c xs vs hc hm e => hb_or (h2 c xs vs hc hm e) (h4 c xs vs hc hm e)⟩
theorem qs_of {st : Stmt} {ds : DS} (h : Rs cl xf X W0 (less ws i) st ds) : Qs cl xf X ws n m i a cls d st (fun _ => ds) := by obtain ⟨t, h1, h2⟩ := h; exact ⟨t, h1, fun _ _ _ _ _ _ => hs_of h2⟩
theorem qs_set (k : Nat) {x : Str} {de : List D → DE} (h : Qe cl xf X n m i a cls d e de) (hN : X.N.Nodup) (hw : less ws i k = true := by rfl) (hi : X.N[k]? = some x := by rfl) (hx : Loc X.env.scope x := by first | exact Or.inl rfl | exact Or.inr rfl) (hs : swapsWith e (some (.Name x pos')) pos.line X.env = pure false := by rfl) (hf : X.fn x = true ∨ X.env.scope.names.lookup x = some .local := by first | exact .inl rfl | exact .inr rfl) :
    Qs cl xf X ws n m i a cls d (.Assign [.Name x pos'] e pos) (fun xs => dsAsg (de xs) (tgN k)) := by
  obtain ⟨te, h1, h2⟩ := h
  exact ⟨_, ps_set hN hi hx h1 hs hf, fun c xs vs hc hm e => hs_asg (h2 c xs vs hc hm e) (sg_name hw)⟩
theorem qs_if {f : List D → Sl → Option Bool} {x y : List D → DS} {st st' : List Stmt} (hc : Qb cl xf X n m i a cls d e f) (h : Qss cl xf X ws n m i a cls d st x) (h' : Qss cl xf X ws n m i a cls d st' y) : Qs cl xf X ws n m i a cls d (.If e st st' pos) (fun xs => dsIf (dtB (f xs)) (x xs) (y xs)) := by
  obtain ⟨t, q1, q2⟩ := h
  obtain ⟨t', q3, q4⟩ := h'
  obtain ⟨tc, q5, q6⟩ := hc
  exact ⟨_, ps_if q5 q1 q3, fun c xs vs hc hm e => hs_if (q6 c xs vs hc hm e) (q2 c xs vs hc hm e) (q4 c xs vs hc hm e)⟩
theorem qss_nil : Qss cl xf X ws n m i a cls d [] (fun _ => dsNext) := ⟨_, pss_nil, fun _ _ _ _ _ _ => hs_of ss_next⟩
theorem qss_one {st : Stmt} {ds : List D → DS} (h : Qs cl xf X ws n m i a cls d st ds) : Qss cl xf X ws n m i a cls d [st] ds := by obtain ⟨t, h1, h2⟩ := h; exact ⟨t, pss_one h1, h2⟩
theorem qss_cons {st : Stmt} {sts : List Stmt} {x y : List D → DS} (h : Qs cl xf X ws n m i a cls d st x) (h' : Qss cl xf X ws n m i a cls d sts y) : Qss cl xf X ws n m i a cls d (st :: sts) (fun xs => dsSeq (x xs) (y xs)) := by
  obtain ⟨t, q1, q2⟩ := h
  obtain ⟨t', q3, q4⟩ := h'
  refine ⟨_, pss_cons q1 q3, fun c xs vs hc hm e => hs_seq (fun A L B H σ A' H' σ' hp n k => hp.step n k fun j hj => ?_) (q2 c xs vs hc hm e) (q4 c xs vs hc hm e)⟩
  simp [less, hj]
end
end Fs
/-! F22 -/
set_option maxHeartbeats 2000000
/-! raise with its text. -/
namespace Fs
open PySem PySem.Spec PyProof.Rows L2
/-- the exception class number c, named x -/
structure Xc (cl : Ec) (xf : Nat → List Str) (P : Program) (w : World) (K : PySem.W.Frag) (mg : Str → Option Value) (base : Heap) (x : Str) (c k : Nat) : Prop where
  mgx : mg x = some (.ref (cl.c c))
  T : OexC K (cl.c c)
  ini : ∃ fI fd ps, PySem.W.findIn K (.ref (cl.c c)) "__init__" = some (some (.ref fI)) ∧ PySem.W.typeIn K (.ref fI) = some (.type "function") ∧ FnOk P w K mg base (L2.CX P w) k fI fd ps (spIni K (xf c)) ∧ Binds K fd ps []
  no : ∀ f ∈ xf c, PySem.W.findIn K (.ref (cl.c c)) f = some none
  nd : (xf c).Nodup
section
variable {cl : Ec} {xf : Nat → List Str} {X : Cx} {W : WX} {ws : Nat → Bool} {e : Expr} {es : List Expr} {pos pos' p : Pos}
theorem pass0 {E : XK} (hE : ∀ c d H, ¬ E c d H) : Passes (L2.CX X.prog X.w) X E := fun pins σ H s u s' I c => by
  obtain ⟨_, _, _, _, _, _, _, _, _, _, _, _, z⟩ := c
  exact (hE _ _ _ z).elim
theorem s_raise {x : Str} {c k m n : Nat} {da : DA} (C : Xc cl xf X.prog X.w X.K X.mg X.base x c k) (hK : X.K = cl.K) (hr : RoomG m X.A) (hkm : k + 1 ≤ m) (tk : Takes X W) (ha : Ra cl xf X W false (e :: es) da) (hn : (xf c).length = n := by rfl) (hn2 : n ≤ 1000 := by decide) (hc : X.calm = true := by rfl) (hg : Gl X x := by rfl)
    (hdb : (x == ("__debug__" : Str)) = false := by decide) (he : starEach (e :: es) X.env = (false, eval e X.env) :: starEach es X.env := by rfl) (hpl : (backTo pos (starEach es X.env)).any (·.1) = false := by rfl) :
    Rs cl xf X W ws (.Raise (some (.Call (.Name x p) (e :: es) [] pos)) none pos') (dsRaise c n da) := by
  obtain ⟨ta, h1, h2⟩ := ha
  obtain ⟨fI, fd, ps, i1, i2, i3, i4⟩ := C.ini
  refine ⟨_, ps_raise hc tk (pmk_oex (dvs := []) C.T i1 i2 i3 (hr.r.mono hkm) i4 .nil (pass0 fun _ _ _ z => z) hg C.mgx h1 hdb he hpl), ?_⟩
  rw [hK]
  exact ss_raise h2 (by rw [← hK]; exact C.T) (by rw [← hK]; exact C.no) hn hn2 C.nd
end
end Fs
/-! F23 -/
set_option maxHeartbeats 2000000
/-! Methods and new objects, where what is wanted of an exception knows the slots. -/
namespace Fs
open PySem PySem.Spec PyProof.Rows L2
section
variable {X : Cx} {CX : CXT} {k : Nat} {f C : Addr} {fd : FuncData} {ps : List Str} {sp : Sp} {E : L2.St → XK} {x m : Str} {q pos apos : Pos} {e o : Expr} {es : List Expr} {ta : TE} {t : TA}
/-- o.m(..) -/
def tMethE (C : Addr) (m : Str) (sp : Sp) (E : L2.St → XK) (ta : TE) (t : TA) : TE := fun σ H Q => ta σ H fun x H1 => ∃ a dx fs, x = .ref a ∧ H1 a = some (.ins C dx fs) ∧ fs.lookup m = none ∧ t σ H1 fun vs H2 => sp (x :: vs) H2 Q (E σ)
theorem pe_methE {pl : Sem Bool} (he : PE X o ta) (c : Cls X.K C) (hm : Meth X.K C m f) (F : FnG X.prog X.w X.K X.mg X.base CX k f fd ps sp) (hr : RoomG k X.A) (hb : Binds X.K fd ps []) (hx : ∀ σ, PassesAt CX X σ (E σ)) (ha : L2.PA X (e :: es) t)
    (hst : starEach (e :: es) X.env = (false, eval e X.env) :: starEach es X.env := by rfl) (hpl : (backTo pos (starEach es X.env)).any (·.1) = false := by rfl)
    (ht : eval (.Call (.Attribute o m apos) (e :: es) [] pos) X.env = (do
      let r ← eval o X.env
      standAt apos.atName
      let (g, one) ← holding [r] (getMethod r m pl)
      callWith pos g one (backTo pos (starEach (e :: es) X.env)) (backToKw pos (keywordEach [] X.env))) := by rfl) : PE X (.Call (.Attribute o m apos) (e :: es) [] pos) (tMethE C m sp E ta t) := ⟨fun pins s σ H Q I h => by
  refine PySem.W.methodCall_KW (pl := pl) (thn (he.run pins s σ H _ I h) fun rv t1 got => ?_) ht
  obtain ⟨y, G, J, ry, a, dx, fs, rfl, at1, nol, go⟩ := got
  cases (show rv = Value.ref a from ry)
  refine getmeth_ok J at1 c hm nol (PySem.W.callWith_K (first := [.ref a]) (h₀ := X.base) I.ok.mod.kin hm.kp (thn (ha.run pos pins t1 σ G _ J go) fun args t2 fin => ?_) hst hpl)
  obtain ⟨vs, G2, J2, rr, sp2⟩ := fin
  exact ⟨J2.kIn, runG (us := .ref a :: args) (xs := .ref a :: vs) F hr hb (hx σ) J2 (.cons rfl rr) sp2⟩⟩
/-- C(..) -/
def tMakeE (C : Addr) (sp : Sp) (E : L2.St → XK) (t : TA) : TE := fun σ H Q => t σ H fun vs H1 => ∀ x dx, H1 x = none → H1 dx = none → dx ≠ x → sp (.ref x :: vs) (upd (upd H1 dx (.own x)) x (.ins C dx [])) (fun v H2 => v = .non ∧ Q (.ref x) H2) (E σ)
theorem make_at {pins : List (Addr × Obj)} {σ : L2.St} {H : Hp} {s : Shared} {Q : VK} {us : List Value} {vs : List V} (M : Mk X.K C f) (F : FnG X.prog X.w X.K X.mg X.base CX k f fd ps sp) (hr : RoomG (k + 1) X.A) (hb : Binds X.K fd ps []) (hx : PassesAt CX X σ (E σ)) (I : Inv X pins σ H s) (r : Vals vs us)
    (h : ∀ x dx, H x = none → H dx = none → dx ≠ x → sp (.ref x :: vs) (upd (upd H dx (.own x)) x (.ins C dx [])) (fun v H2 => v = .non ∧ Q (.ref x) H2) (E σ)) : wpAny (model X.prog X.w) X.A (call (.ref C) us) (EP X pins σ Q) X.xe s := by
  have want := h (s.heap.objs.size + 1) s.heap.objs.size (I.hok.fresh (Nat.le_succ _)) (I.hok.fresh (Nat.le_refl _)) (Nat.ne_of_lt (Nat.lt_succ_self _))
  have J := Inv.made (C := C) I
  have rel : Vals (V.ref (s.heap.objs.size + 1) :: vs) (Value.ref (s.heap.objs.size + 1) :: us) := .cons rfl r
  have len : (Value.ref (s.heap.objs.size + 1) :: us).length = ps.length := by rw [← rel.length]; exact F.len _ _ _ _ want
  have bnd := hb _ (Value.ref (s.heap.objs.size + 1) :: us) J.kIn (by rw [List.append_nil]; exact len)
  rw [List.append_nil] at bnd
  refine wpAny_call (make_map (f := f) I.kIn M.makes M.init (beq_iff_eq.mp M.fn) (codeAny_mono (F.go _ X.stack _ _ ⟨Value.ref (s.heap.objs.size + 1) :: us, []⟩ _ _ _ (E σ) (hr.make C us []) (J.env0.make C us []) bnd rel want) fun res s2 ok => ?_))
  cases res with
  | error u => exact hx pins _ _ u s2 J ok
  | ok fl =>
    cases fl with
    | next => exact False.elim ok
    | brk => exact False.elim ok
    | cont => exact False.elim ok
    | ret u =>
      obtain ⟨v, G, J2, rv, rfl, fin⟩ := J.after ok
      exact ⟨rv, V.ref (s.heap.objs.size + 1), G, J2, rfl, fin⟩
theorem pe_makeE (M : Mk X.K C f) (F : FnG X.prog X.w X.K X.mg X.base CX k f fd ps sp) (hr : RoomG (k + 1) X.A) (hg : Gl X x) (hm : X.mg x = some (.ref C)) (hb : Binds X.K fd ps []) (hx : ∀ σ, PassesAt CX X σ (E σ)) (ha : L2.PA X (e :: es) t)
    (hdb : (x == ("__debug__" : Str)) = false := by decide) (he : starEach (e :: es) X.env = (false, eval e X.env) :: starEach es X.env := by rfl) (hpl : (backTo pos (starEach es X.env)).any (·.1) = false := by rfl) : PE X (.Call (.Name x q) (e :: es) [] pos) (tMakeE C sp E t) := ⟨fun pins s σ H Q I h => by
  refine wpAny_Call_Name_kw (ld_glob I hg hm (PySem.W.callWith_K (h₀ := X.base) I.ok.mod.kin M.kp (thn (ha.run pos pins s σ H _ I h) fun args t2 fin => ?_) he hpl) hdb)
  obtain ⟨vs, G, J, rr, go⟩ := fin
  exact ⟨J.kIn, make_at M F hr hb (hx σ) J rr go⟩⟩
theorem pe_meth0E {pl : Sem Bool} (he : PE X o ta) (c : Cls X.K C) (hm : Meth X.K C m f) (F : FnG X.prog X.w X.K X.mg X.base CX k f fd ps sp) (hr : RoomG k X.A) (hb : Binds X.K fd ps []) (hx : ∀ σ, PassesAt CX X σ (E σ))
    (ht : eval (.Call (.Attribute o m apos) [] [] pos) X.env = (do
      let r ← eval o X.env
      standAt apos.atName
      let (g, one) ← holding [r] (getMethod r m pl)
      callWith pos g one (backTo pos (starEach [] X.env)) (backToKw pos (keywordEach [] X.env))) := by rfl) : PE X (.Call (.Attribute o m apos) [] [] pos) (tMethE C m sp E ta tNil) := ⟨fun pins s σ H Q I h => by
  refine PySem.W.methodCall_KW (pl := pl) (thn (he.run pins s σ H _ I h) fun rv t1 got => ?_) ht
  obtain ⟨y, G, J, ry, a, dx, fs, rfl, at1, nol, go⟩ := got
  cases (show rv = Value.ref a from ry)
  exact getmeth_ok J at1 c hm nol (PySem.W.callWith_K0 (first := [.ref a]) J.kIn hm.kp (runG (us := [.ref a]) (xs := [.ref a]) F hr hb (hx σ) J (.cons rfl .nil) go))⟩
theorem pe_make0E (M : Mk X.K C f) (F : FnG X.prog X.w X.K X.mg X.base CX k f fd ps sp) (hr : RoomG (k + 1) X.A) (hg : Gl X x) (hm : X.mg x = some (.ref C)) (hb : Binds X.K fd ps []) (hx : ∀ σ, PassesAt CX X σ (E σ)) (hdb : (x == ("__debug__" : Str)) = false := by decide) : PE X (.Call (.Name x q) [] [] pos) (tMakeE C sp E tNil) :=
  ⟨fun pins s σ H Q I h => wpAny_Call_Name_kw (ld_glob I hg hm (PySem.W.callWith_K0 I.kIn M.kp (make_at (us := []) M F hr hb (hx σ) I .nil h)) hdb)⟩
end
/-! a field that is read -/
def lkS {α : Type} : List Str → List α → Str → Option α
  | k :: ks, x :: xs, y => if y = k then some x else lkS ks xs y
  | _, _, _ => none
def fldD (c : Nat) (f : Str) : D → Option D
  | .n (.obj c' fs) _ xs => if c' = c then lkS fs xs f else none
  | _ => none
section
variable {cl : Ec} {xf : Nat → List Str} {X : Cx} {W : WX} {ws : Nat → Bool} {A L B : Addr → Prop} {H : Hp} {b : Bool}
theorem Rps.lkS : ∀ {fs : List Str} {ds : List D} {vs : List V} {fp : List Addr} {f : Str} {z : D}, Rps cl A L H b ds vs fp → Fs.lkS fs ds f = some z → ∃ v f1, (fs.zip vs).lookup f = some v ∧ Rp cl A L H b z v f1 ∧ ∀ a ∈ f1, a ∈ fp
  | [], ds, vs, fp, f, z, h, e => by simp [Fs.lkS] at e
  | k :: fs, [], vs, fp, f, z, h, e => by simp [Fs.lkS] at e
  | k :: fs, d :: ds, vs, fp, f, z, h, e => by
    simp only [Rps] at h
    obtain ⟨v, vs', f1, f2, rfl, rfl, h3, h4⟩ := h
    simp only [Fs.lkS] at e
    by_cases hk : f = k
    · rw [if_pos hk] at e
      cases e
      exact ⟨v, f1, by simp [List.lookup, hk], h3, fun a ha => List.mem_append_left _ ha⟩
    · rw [if_neg hk] at e
      obtain ⟨u, g, q1, q2, q3⟩ := h4.lkS e
      have hb : (f == k) = false := by simpa using hk
      exact ⟨u, g, by simp only [List.zip_cons_cons, List.lookup, hb]; exact q1, q2, fun a ha => List.mem_append_right _ (q3 a ha)⟩
def rFld (K : PySem.W.Frag) (f : Str) : V → Hp → VK → Prop := fun x H Q => ∃ a C dx fs v, x = .ref a ∧ H a = some (.ins C dx fs) ∧ Cls K C ∧ NoAttr K C f ∧ fs.lookup f = some v ∧ Q v H
theorem pun_fld {K : PySem.W.Frag} {c : Nat} {f : Str} (hc : Cls K (cl.c c)) (hn : NoAttr K (cl.c c) f) : PUn cl (rFld K f) (fldD c f) := by
  intro A L H x u f1 z Q h1 e k
  unfold fldD at e
  split at e
  · split at e
    · rename_i c' fs w xs hcc
      subst hcc
      obtain ⟨a, o, vs, fp', rfl, ho, ⟨hl, dx, rfl⟩, hr, hf⟩ := h1.node
      obtain ⟨v, g, q1, q2, q3⟩ := hr.lkS e
      exact ⟨a, _, dx, _, v, rfl, ho, hc, hn, q1, k v g q2 fun b hb => hf b (q3 b hb)⟩
    · cases e
  · cases e
theorem o_fld {e : Expr} {f : Str} {pos : Pos} (hb : attributeBase e f X.env (eval e X.env) = eval e X.env := by rfl) : B1 X (.Attribute e f pos) e (rFld X.K f) := fun _ ha => pe_fld ha hb
end
end Fs
/-! F24 -/
set_option maxHeartbeats 2000000
/-! Calls of methods over data: a call with the receiver ahead. -/
namespace Fs
open PySem PySem.Spec PyProof.Rows L2
/-- the receiver is an object of the class at C without a field m -/
def tRc (C : Addr) (m : Str) (ta : TE) : TE := fun σ H Q => ta σ H fun x H1 => (∃ a dx fs, x = .ref a ∧ H1 a = some (.ins C dx fs) ∧ fs.lookup m = none) ∧ Q x H1
theorem tMethE_eq {C : Addr} {m : Str} {sp : Sp} {E : L2.St → XK} {ta : TE} {t : TA} : tMethE C m sp E ta t = tCallS sp E (tCons (tRc C m ta) t) := by
  funext σ H Q
  unfold tMethE tCallS tCons tRc
  congr 1
  funext x H1
  refine propext ⟨fun ⟨a, dx, fs, h1, h2, h3, h4⟩ => ⟨⟨a, dx, fs, h1, h2, h3⟩, h4⟩, fun ⟨⟨a, dx, fs, h1, h2, h3⟩, h4⟩ => ⟨a, dx, fs, h1, h2, h3, h4⟩⟩
def rcD (c : Nat) (m : Str) : D → Option D
  | .n (.obj c' fs) w xs => if c' = c ∧ m ∉ fs then some (.n (.obj c' fs) w xs) else none
  | _ => none
def pRc (c : Nat) (m : Str) (a : PP) : PP := fun δ => (a δ).bind (rcD c m)
def dRc (c : Nat) (m : Str) (a : DE) : DE := fun δ => (a δ).bind fun x δ1 => Out.ofO (rcD c m x) δ1
section
variable {cl : Ec} {xf : Nat → List Str} {X : Cx} {W : WX} {ws : Nat → Bool} {A L B : Addr → Prop} {H : Hp} {b p : Bool} {ta : TE}
theorem lookup_zip {fs : List Str} {vs : List V} {m : Str} (h : m ∉ fs) : (fs.zip vs).lookup m = none := by
  induction fs generalizing vs with
  | nil => simp
  | cons f fs ih =>
    cases vs with
    | nil => simp
    | cons v vs =>
      simp only [List.mem_cons, not_or] at h
      have hb : (m == f) = false := by simpa using h.1
      simp only [List.zip_cons_cons, List.lookup, hb]
      exact ih h.2
theorem rcD_ok {c : Nat} {m : Str} {x z : D} {v : V} {fp : List Addr} (h : Rp cl A L H b x v fp) (e : rcD c m x = some z) : z = x ∧ ∃ a dx fs, v = .ref a ∧ H a = some (.ins (cl.c c) dx fs) ∧ fs.lookup m = none := by
  unfold rcD at e
  split at e
  · split at e
    · rename_i c' fs w xs hc
      cases e
      obtain ⟨a, o, vs, fp', rfl, ho, ⟨hl, dx, rfl⟩, hr, hf⟩ := h.node
      obtain ⟨rfl, hm⟩ := hc
      exact ⟨rfl, a, dx, _, rfl, ho, lookup_zip hm⟩
    · cases e
  · cases e
theorem sp_rc {c : Nat} {m : Str} {a : PP} (ha : SP cl ta a) : SP cl (tRc (cl.c c) m ta) (pRc c m a) := fun A L H δ σ g d Q h e k => by
  obtain ⟨x, e1, e2⟩ := Option.bind_eq_some_iff.mp e
  refine ha A L H δ σ g x _ h e1 fun v fp h1 n1 => ?_
  obtain ⟨rfl, q⟩ := rcD_ok h1 e2
  exact ⟨q, k v fp h1 n1⟩
theorem se_rc {c : Nat} {m : Str} {a : DE} (ha : SE cl xf W p ta a) : SE cl xf W p (tRc (cl.c c) m ta) (dRc c m a) := by
  refine ⟨fun hp δ => Out.same_bind (ha.pure hp δ) fun x => Out.same_ofO, fun A L B H δ σ Q j k => ?_⟩
  refine ha.run A L B H δ σ _ j (Post.bind (γ := D) k fun x δ1 vs A1 H1 e1 n1 j1 k1 v ev => ?_)
  subst ev
  obtain ⟨z, e, k2⟩ := Post.ofO k1
  obtain ⟨u, f1, e0, h1⟩ := j1.one
  cases e0
  obtain ⟨rfl, q⟩ := rcD_ok h1 e
  exact ⟨q, k2 [v] A1 H1 n1 j1 v rfl⟩
/-! with the text -/
/-- a method m of the class number c -/
structure Mt (cl : Ec) (xf : Nat → List Str) (P : Program) (w : World) (K : PySem.W.Frag) (mg : Str → Option Value) (base : Heap) (c : Nat) (m : Str) (k np : Nat) (F : List D → Out D) : Prop where
  ex : ∃ f fd ps, FnG P w K mg base (L2.CX P w) k f fd ps (spF cl xf np F) ∧ Meth K (cl.c c) m f ∧ Binds K fd ps []
  cls : Cls K (cl.c c)
variable {e o : Expr} {es : List Expr} {pos apos : Pos} {pa : PP} {da : DE} {k mm np c : Nat} {m : Str} {F : List D → Out D} {da' : DA}
theorem d_methP (M : Mt cl xf X.prog X.w X.K X.mg X.base c m k np F) (hr : RoomG mm X.A) (hkm : k ≤ mm) (tk : Takes X W) (ho : Rk cl X o pa) (ha : Rc cl xf X W (e :: es) da') (hn : DL np (daLend (pRc c m pa) da'))
    (hst : starEach (e :: es) X.env = (false, eval e X.env) :: starEach es X.env := by rfl) (hpl : (backTo pos (starEach es X.env)).any (·.1) = false := by rfl) {pl : Sem Bool}
    (ht : eval (.Call (.Attribute o m apos) (e :: es) [] pos) X.env = (do
      let r ← eval o X.env
      standAt apos.atName
      let (g, one) ← holding [r] (getMethod r m pl)
      callWith pos g one (backTo pos (starEach (e :: es) X.env)) (backToKw pos (keywordEach [] X.env))) := by rfl) : Rd cl xf X W p (.Call (.Attribute o m apos) (e :: es) [] pos) (dCall F (daLend (pRc c m pa) da')) := by
  obtain ⟨to, h1, h2⟩ := ho
  obtain ⟨ta, h3, h4⟩ := ha
  obtain ⟨f, fd, ps, hF, hM, hb⟩ := M.ex
  refine ⟨_, pe_methE (pl := pl) h1 M.cls hM hF (hr.mono hkm) hb (fun σ => passAt tk σ) h3 hst hpl ht, ?_⟩
  rw [tMethE_eq]
  exact (se_call (sc_lend (sp_rc h2) h4) hn).to
theorem d_meth0P (M : Mt cl xf X.prog X.w X.K X.mg X.base c m k np F) (hr : RoomG mm X.A) (hkm : k ≤ mm) (tk : Takes X W) (ho : Rk cl X o pa) (hn : DL np (daLend (pRc c m pa) daNil)) {pl : Sem Bool}
    (ht : eval (.Call (.Attribute o m apos) [] [] pos) X.env = (do
      let r ← eval o X.env
      standAt apos.atName
      let (g, one) ← holding [r] (getMethod r m pl)
      callWith pos g one (backTo pos (starEach [] X.env)) (backToKw pos (keywordEach [] X.env))) := by rfl) : Rd cl xf X W p (.Call (.Attribute o m apos) [] [] pos) (dCall F (daLend (pRc c m pa) daNil)) := by
  obtain ⟨to, h1, h2⟩ := ho
  obtain ⟨f, fd, ps, hF, hM, hb⟩ := M.ex
  refine ⟨_, pe_meth0E (pl := pl) h1 M.cls hM hF (hr.mono hkm) hb (fun σ => passAt tk σ) ht, ?_⟩
  rw [tMethE_eq]
  exact (se_call (sc_lend (sp_rc h2) sc_nil) hn).to
theorem d_methD (M : Mt cl xf X.prog X.w X.K X.mg X.base c m k np F) (hr : RoomG mm X.A) (hkm : k ≤ mm) (tk : Takes X W) (ho : Rd cl xf X W true o da) (ha : Rc cl xf X W (e :: es) da') (hn : DL np (daCons (dRc c m da) da'))
    (hst : starEach (e :: es) X.env = (false, eval e X.env) :: starEach es X.env := by rfl) (hpl : (backTo pos (starEach es X.env)).any (·.1) = false := by rfl) {pl : Sem Bool}
    (ht : eval (.Call (.Attribute o m apos) (e :: es) [] pos) X.env = (do
      let r ← eval o X.env
      standAt apos.atName
      let (g, one) ← holding [r] (getMethod r m pl)
      callWith pos g one (backTo pos (starEach (e :: es) X.env)) (backToKw pos (keywordEach [] X.env))) := by rfl) : Rd cl xf X W p (.Call (.Attribute o m apos) (e :: es) [] pos) (dCall F (daCons (dRc c m da) da')) := by
  obtain ⟨to, h1, h2⟩ := ho
  obtain ⟨ta, h3, h4⟩ := ha
  obtain ⟨f, fd, ps, hF, hM, hb⟩ := M.ex
  refine ⟨_, pe_methE (pl := pl) h1 M.cls hM hF (hr.mono hkm) hb (fun σ => passAt tk σ) h3 hst hpl ht, ?_⟩
  rw [tMethE_eq]
  exact (se_call (sc_val (se_rc h2) h4) hn).to
theorem d_meth0D (M : Mt cl xf X.prog X.w X.K X.mg X.base c m k np F) (hr : RoomG mm X.A) (hkm : k ≤ mm) (tk : Takes X W) (ho : Rd cl xf X W true o da) (hn : DL np (daCons (dRc c m da) daNil)) {pl : Sem Bool}
    (ht : eval (.Call (.Attribute o m apos) [] [] pos) X.env = (do
      let r ← eval o X.env
      standAt apos.atName
      let (g, one) ← holding [r] (getMethod r m pl)
      callWith pos g one (backTo pos (starEach [] X.env)) (backToKw pos (keywordEach [] X.env))) := by rfl) : Rd cl xf X W p (.Call (.Attribute o m apos) [] [] pos) (dCall F (daCons (dRc c m da) daNil)) := by
  obtain ⟨to, h1, h2⟩ := ho
  obtain ⟨f, fd, ps, hF, hM, hb⟩ := M.ex
  refine ⟨_, pe_meth0E (pl := pl) h1 M.cls hM hF (hr.mono hkm) hb (fun σ => passAt tk σ) ht, ?_⟩
  rw [tMethE_eq]
  exact (se_call (sc_val (se_rc h2) sc_nil) hn).to
end
end Fs
/-! F25 -/
set_option maxHeartbeats 2000000
/-! New objects over data. -/
namespace Fs
open PySem PySem.Spec PyProof.Rows L2
def madeD : Out D → Sl → Out D
  | .ok (.v .non) (some o :: _), δ => if o.free then .ok o δ else .bad
  | .exc c xs _, δ => .exc c xs δ
  | _, _ => .bad
def dMake (c : Nat) (F : List D → Out D) (r : DA) : DE := fun δ => (r δ).bind fun ds δ1 => madeD (F (.n (.obj c []) .own [] :: ds)) δ1
section
variable {cl : Ec} {xf : Nat → List Str} {X : Cx} {W : WX} {ws : Nat → Bool} {A L B : Addr → Prop} {H : Hp} {b p : Bool} {tA : TA}
theorem madeD_same {o : Out D} {δ : Sl} : (madeD o δ).same δ := by
  unfold madeD
  split
  · split
    · rfl
    · trivial
  · rfl
  · trivial
theorem se_make {c : Nat} {r : DA} {F : List D → Out D} {np : Nat} (hr : SC cl xf W tA r) (hn : ∀ δ ds s, r δ = .ok ds s → ds.length + 1 = np) : SE cl xf W true (tMakeE (cl.c c) (spF cl xf np F) (WE W) tA) (dMake c F r) := by
  refine ⟨fun _ δ => Out.same_bind (hr.pure δ) fun ds => madeD_same, fun A L B H δ σ Q j k => ?_⟩
  obtain ⟨g, hg, nd, _⟩ := j.drop0
  refine hr.run A L H δ σ g _ hg nd (fun a h => j.ba a (j.lb a h)) j.ad ?_
  unfold dMake at k
  have hs := hr.pure δ
  cases e : r δ with
  | bad => rw [e] at k; exact k.elim
  | exc c' xs s =>
    rw [e] at k hs
    cases (show s = δ from hs)
    exact fun d us A2 H2 n2 x2 j2 => k d us A2 H2 (n2.weak j.ba) x2 (j.ofPure2 n2 j2)
  | ok ds s =>
    rw [e] at k hs
    cases (show s = δ from hs)
    simp only [Out.bind] at k
    intro us A1 H1 f n1 r1 nf hf ad1 x dx hx hdx ne
    have gA : ∀ a ∈ g, A a := fun a ha => (hg.inA a ha).1
    have LgA : ∀ a, (L a ∨ a ∈ g) → A a := fun a h => h.elim (fun h => j.ba a (j.lb a h)) (gA a)
    have up : ∀ a, H1 a ≠ none → upd (upd H1 dx (.own x)) x (.ins (cl.c c) dx []) a = H1 a := fun a h => by
      rw [upd_ne (fun z => h (by rw [z]; exact hx)), upd_ne (fun z => h (by rw [z]; exact hdx))]
    have nx : Nx A1 (fun a => A1 a ∧ a ∉ f) H1 (fun a => A1 a ∨ a = x) (upd (upd H1 dx (.own x)) x (.ins (cl.c c) dx [])) := by
      refine ⟨fun a h => h.elim .inl fun z => .inr (by rw [z]; exact hx), fun a o h _ => by rw [up a (by rw [h]; simp)]; exact h, fun a h => ⟨up a (ad1 a h.1), .inl h.1⟩, fun a h => ?_⟩
      cases z : H1 a with
      | none => rfl
      | some o => rw [up a (by rw [z]; simp), z] at h; cases h
    let Bc : Addr → Prop := fun a => A1 a ∧ a ∉ f
    have fA : ∀ a ∈ f, A1 a := fun a ha => (r1.inA a ha).1
    have xf' : x ∉ f := fun z => ad1 x (fA x z) hx
    have xA : ¬ A1 x := fun z => ad1 x z hx
    have jc : Jt false cl (fun a => A1 a ∨ a = x) Bc Bc (upd (upd H1 dx (.own x)) x (.ins (cl.c c) dx [])) [] [] ((.n (.obj c []) .own [] :: ds).map some) ((V.ref x :: us).map some) := by
      refine ⟨⟨[], x :: f, by simp [Rps], ?_, by simp [xf', nf], by simp, fun _ a ha q => ?_⟩, fun _ h => h, fun a h => .inl h.1, fun a h => ?_⟩
      · simp only [List.map_cons, Rpo]
        refine ⟨.ref x, _, [x], f, rfl, by simp, ?_, ?_⟩
        · simp only [Rp]
          exact ⟨x, _, [], rfl, upd_same, ⟨rfl, dx, rfl⟩, .inr rfl, [], rfl, by simp [Rps]⟩
        · exact (r1.step (L' := Bc) nx.both (fun a ha => ⟨up a (ad1 a (fA a ha)), .inl (fA a ha)⟩) (fun _ a hl => ⟨up a (ad1 a (n1.prot a (LgA a hl)).2), (n1.prot a (LgA a hl)).2, fun q => hf a q (LgA a hl)⟩)).rpo
      · rcases List.mem_cons.mp ha with z | z
        · rw [z] at q; exact xA q.1
        · exact q.2 z
      · rcases h with h | h
        · rw [up a (ad1 a h)]; exact ad1 a h
        · rw [h, upd_same]; simp
    refine ⟨_, Bc, Bc, _, jc, by simp only [List.length_cons, ← r1.length]; exact hn δ ds δ e, ?_⟩
    have fin : ∀ (d : List D) (v : List V) A2 H2 f2, Nx (fun a => A1 a ∨ a = x) Bc (upd (upd H1 dx (.own x)) x (.ins (cl.c c) dx [])) A2 H2 → Rps cl A2 Bc H2 false d v f2 → f2.Nodup → (∀ a ∈ f2, ¬ Bc a) → (∀ a, A2 a → H2 a ≠ none) → Nx A B H A2 H2 ∧ Jt true cl A2 L B H2 d v δ σ := by
      intro d v A2 H2 f2 n2 k1 k3 k4 ad2
      have n3 : Nx A A H A2 H2 := n1.trans ((nx.trans n2).weak fun a ha => ⟨(n1.prot a ha).2, fun q => hf a q ha⟩)
      refine ⟨n3.weak j.ba, j.ofPure2 n3 (δ2 := []) (σ2 := []) ⟨⟨f2, [], k1.step (L' := L) (fun a o h n => ⟨h, n⟩) (fun a ha => ⟨rfl, (k1.inA a ha).1⟩) (by simp), by simp [Rpo], by simpa using k3, fun a ha q => k4 a ha ⟨(n1.prot a q).2, fun z => hf a z q⟩, by simp⟩, fun a h => j.ba a (j.lb a h), fun a h => (n3.prot a h).2, ad2⟩⟩
    cases e2 : F (.n (.obj c []) .own [] :: ds) with
    | bad => rw [e2] at k; exact k.elim
    | exc c' xs ios =>
      rw [e2] at k
      intro d us' A2 H2 n2 x2 j2
      obtain ⟨f2, g2, q1, q2, q3, q4, q5⟩ := j2.ex
      obtain ⟨n3, j3⟩ := fin xs us' A2 H2 f2 n2 q1 (List.nodup_append.mp q3).1 q4 j2.ad
      exact k d us' A2 H2 n3 x2 j3
    | ok d ios =>
      rw [e2] at k
      intro v A2 H2 n2 j2
      unfold madeD at k
      split at k
      · rename_i o rest eq
        cases eq
        split at k
        · rename_i hfr
          obtain ⟨f2, g2, q1, q2, q3, q4, q5⟩ := j2.ex
          obtain ⟨u, _, e0, h1⟩ := j2.one
          cases e0
          simp only [List.map_cons, Rpo] at q2
          obtain ⟨vx, σ', g3, g4, e3, rfl, h3, h4⟩ := q2
          simp only [List.cons.injEq, Option.some.injEq] at e3
          obtain ⟨rfl, _⟩ := e3
          have nd3 := (List.nodup_append.mp (List.nodup_append.mp q3).2.1).1
          obtain ⟨n3, j3⟩ := fin [o] [.ref x] A2 H2 g3 n2 (by simp only [Rps]; exact ⟨_, [], g3, [], rfl, by simp, h3.free hfr, rfl, rfl⟩) nd3 (fun a ha => q5 rfl a (List.mem_append_left _ ha)) j2.ad
          exact ⟨h1.leafv.1, k [.ref x] A2 H2 n3 j3 _ rfl⟩
        · exact k.elim
      · rename_i eq; cases eq
      · exact k.elim
/-- the class number c, named x, and its __init__ -/
structure Kc (cl : Ec) (xf : Nat → List Str) (P : Program) (w : World) (K : PySem.W.Frag) (mg : Str → Option Value) (base : Heap) (x : Str) (c k np : Nat) (F : List D → Out D) : Prop where
  ex : ∃ f fd ps, FnG P w K mg base (L2.CX P w) k f fd ps (spF cl xf np F) ∧ Mk K (cl.c c) f ∧ Binds K fd ps []
  mgx : mg x = some (.ref (cl.c c))
variable {e : Expr} {es : List Expr} {pos pp : Pos} {k mm np c : Nat} {x : Str} {F : List D → Out D} {da' : DA}
theorem d_make (M : Kc cl xf X.prog X.w X.K X.mg X.base x c k (np + 1) F) (hr : RoomG mm X.A) (hkm : k + 1 ≤ mm) (tk : Takes X W) (ha : Rc cl xf X W (e :: es) da') (hn : DL np da') (hg : Gl X x := by rfl)
    (hdb : (x == ("__debug__" : Str)) = false := by decide) (he : starEach (e :: es) X.env = (false, eval e X.env) :: starEach es X.env := by rfl) (hpl : (backTo pos (starEach es X.env)).any (·.1) = false := by rfl) : Rd cl xf X W p (.Call (.Name x pp) (e :: es) [] pos) (dMake c F da') := by
  obtain ⟨ta, h1, h2⟩ := ha
  obtain ⟨f, fd, ps, hF, hM, hb⟩ := M.ex
  exact ⟨_, pe_makeE hM hF (hr.mono hkm) hg M.mgx hb (fun σ => passAt tk σ) h1 hdb he hpl, (se_make h2 fun δ ds s q => by rw [hn δ ds s q]).to⟩
theorem d_make0 (M : Kc cl xf X.prog X.w X.K X.mg X.base x c k 1 F) (hr : RoomG mm X.A) (hkm : k + 1 ≤ mm) (tk : Takes X W) (hg : Gl X x := by rfl) (hdb : (x == ("__debug__" : Str)) = false := by decide) : Rd cl xf X W p (.Call (.Name x pp) [] [] pos) (dMake c F daNil) := by
  obtain ⟨f, fd, ps, hF, hM, hb⟩ := M.ex
  exact ⟨_, pe_make0E hM hF (hr.mono hkm) hg M.mgx hb (fun σ => passAt tk σ) hdb, (se_make sc_nil fun δ ds s q => by cases q; rfl).to⟩
end
end Fs
/-! F26 -/
/-! Operations of several things: each peeked or a value. -/
namespace Fs
open PySem PySem.Spec PyProof.Rows L2
inductive Od | k (a : PP) | v (e : DE)
def evO : List Od → Sl → Out (List D)
  | [], δ => .ok [] δ
  | .k a :: os, δ => match a δ with
    | some d => (evO os δ).bind fun xs δ2 => .ok (d :: xs) δ2
    | none => .bad
  | .v e :: os, δ => (e δ).bind fun d δ1 => (evO os δ1).bind fun xs δ2 => .ok (d :: xs) δ2
def dN (F : List D → Option D) (os : List Od) : DE := fun δ => (evO os δ).bind fun xs δ1 => Out.ofO (F xs) δ1
/-- all operands stand -/
def RpL (cl : Ec) (A L : Addr → Prop) (H : Hp) : List D → List V → Prop
  | [], us => us = []
  | x :: xs, us => ∃ u us' fp, us = u :: us' ∧ Rp cl A L H true x u fp ∧ RpL cl A L H xs us'
def NOp (cl : Ec) (R : List V → Hp → VK → Prop) (F : List D → Option D) : Prop := ∀ p A L B H ts ws δ σ xs us z Q, Jt p cl A L B H ts ws δ σ → RpL cl A L H xs us → F xs = some z → (∀ v A' H', Nx A B H A' H' → Jt p cl A' L B H' [z] [v] δ σ → Q v H') → R us H Q
section
variable {cl : Ec} {xf : Nat → List Str} {W : WX} {ws : Nat → Bool} {A A' L L' B : Addr → Prop} {H H' : Hp} {δ δ' : Sl} {σ σ' : L2.St} {p q b : Bool} {te ta tb tc : TE} {tA : TA} {tt tu : TT} {t u : TS} {ts : List D} {vs : List V}
structure SN (cl : Ec) (xf : Nat → List Str) (W : WX) (ta : TA) (os : List Od) : Prop where
  pure : ∀ δ, (evO os δ).same δ
  run : ∀ A L H δ σ g (R : List V → Hp → Prop), Rpo cl A L H δ σ g → g.Nodup → (∀ a, L a → A a) → (∀ a, A a → H a ≠ none) → (match evO os δ with
    | .ok xs _ => ∀ us A' H' ts ws, Nx A A H A' H' → Jt true cl A' L A H' ts ws δ σ → RpL cl A' L H' xs us → R us H'
    | .exc c xs δ' => PostX cl xf W true c xs δ' A L A H σ
    | .bad => False) → ta σ H R
theorem sn_nil : SN cl xf W tNil [] := ⟨fun δ => rfl, fun A L H δ σ g R h nd la ad k => k [] A H [] [] (Nx.refl fun _ h => h) (Jt.pure0 h nd la ad) rfl⟩
theorem sn_k {a : PP} {os : List Od} (ha : SP cl te a) (hr : SN cl xf W tA os) : SN cl xf W (tCons te tA) (.k a :: os) := by
  refine ⟨fun δ => ?_, fun A L H δ σ g R h nd la ad k => ?_⟩
  · unfold evO
    split
    · exact Out.same_bind (hr.pure δ) fun xs => rfl
    · trivial
  · unfold evO at k
    cases e : a δ with
    | none => rw [e] at k; exact k.elim
    | some d =>
      rw [e] at k
      simp only at k
      refine ha A L H δ σ g d _ h e fun v fp h1 n1 => ?_
      refine hr.run A L H δ σ g _ h nd la ad ?_
      cases e2 : evO os δ with
      | bad => rw [e2] at k; exact k.elim
      | exc c xs s => rw [e2] at k; exact k
      | ok xs s =>
        rw [e2] at k
        simp only [Out.bind] at k
        intro us A2 H2 ts ws n2 j2 r2
        refine k (v :: us) A2 H2 ts ws n2 j2 ?_
        have gA : ∀ a ∈ g, A a := fun a ha => (h.inA a ha).1
        exact ⟨v, us, fp, rfl, h1.step n2.both (fun a ha => n2.prot a (gA a (n1 a ha))) (fun _ a hl => ⟨(n2.prot a (la a hl)).1, hl⟩), r2⟩
theorem sn_v {a : DE} {os : List Od} (ha : SE cl xf W true te a) (hr : SN cl xf W tA os) : SN cl xf W (tCons te tA) (.v a :: os) := by
  refine ⟨fun δ => Out.same_bind (ha.pure rfl δ) fun x => Out.same_bind (hr.pure δ) fun xs => rfl, fun A L H δ σ g R h nd la ad k => ?_⟩
  have j := Jt.pure0 h nd la ad
  have hs := ha.pure rfl δ
  unfold evO at k
  refine ha.run A L A H δ σ _ j ?_
  cases e : a δ with
  | bad => rw [e] at k; exact k.elim
  | exc c xs s => rw [e] at k; exact k
  | ok x s =>
    rw [e] at k hs
    cases (show s = δ from hs)
    simp only [Out.bind] at k
    intro vs A1 H1 n1 j1 v ev
    subst ev
    obtain ⟨u, f1, e0, h6⟩ := j1.one
    cases e0
    have gA : ∀ a ∈ g, A a := fun a ha => (h.inA a ha).1
    have hg := h.step (A' := A1) (L' := L) (H' := H1) n1.both (fun a ha => n1.prot a (gA a ha)) (fun a hl => ⟨(n1.prot a (la a hl)).1, hl⟩)
    refine hr.run A1 L H1 δ σ g _ hg nd (fun a hl => (n1.prot a (la a hl)).2) j1.ad ?_
    have hs2 := hr.pure δ
    cases e2 : evO os δ with
    | bad => rw [e2] at k; exact k.elim
    | exc c xs s =>
      rw [e2] at k hs2
      cases (show s = δ from hs2)
      intro d us A2 H2 n2 x2 j2
      exact k d us A2 H2 (n1.trans (n2.weak fun a ha => (n1.prot a ha).2)) x2 (j.ofPure2 (n1.trans (n2.weak fun a ha => (n1.prot a ha).2)) (j2.lower (fun a ha => (n1.prot a ha).2) la))
    | ok xs s =>
      rw [e2] at k
      simp only [Out.bind] at k
      intro us A2 H2 ts ws n2 j2 r2
      have n3 : Nx A A H A2 H2 := n1.trans (n2.weak fun a ha => (n1.prot a ha).2)
      refine k (v :: us) A2 H2 _ _ n3 (Jt.backP (f := []) j1 n2 j2) ?_
      exact ⟨v, us, f1, rfl, (h6.step n2.both (fun a ha => n2.prot a (h6.inA a ha).1) (by simp)).weak, r2⟩
theorem se_n {os : List Od} {R : List V → Hp → VK → Prop} {F : List D → Option D} (ho : NOp cl R F) (hr : SN cl xf W tA os) : SE cl xf W p (tF R tA) (dN F os) := by
  refine ⟨fun _ δ => Out.same_bind (hr.pure δ) fun xs => Out.same_ofO, fun A L B H δ σ Q j k => ?_⟩
  obtain ⟨g, hg, nd, _⟩ := j.drop0
  refine hr.run A L H δ σ g _ hg nd (fun a h => j.ba a (j.lb a h)) j.ad ?_
  unfold dN at k
  have hs := hr.pure δ
  cases e : evO os δ with
  | bad => rw [e] at k; exact k.elim
  | exc c xs s =>
    rw [e] at k hs
    cases (show s = δ from hs)
    exact fun d us A2 H2 n2 x2 j2 => k d us A2 H2 (n2.weak j.ba) x2 (j.ofPure2 n2 j2)
  | ok xs s =>
    rw [e] at k hs
    cases (show s = δ from hs)
    simp only [Out.bind] at k
    obtain ⟨z, e3, k⟩ := Post.ofO k
    intro us A1 H1 ts ws n1 j1 r1
    refine ho true A1 L A H1 ts ws δ σ xs us z Q j1 r1 e3 fun v A2 H2 n2 j2 => ?_
    have n3 : Nx A A H A2 H2 := n1.trans n2
    exact k [v] A2 H2 (n3.weak j.ba) (j.ofPure n3 j2) v rfl
/-! operands that may change the state: values, names -/
def resN : List AK → List D → Sl → Option (List D)
  | [], [], _ => some []
  | .v _ :: ks, t :: ts, δ => (resN ks ts δ).map fun r => t :: r
  | .l i :: ks, ts, δ => ((δ[i]?).join).bind fun d => (resN ks ts δ).map fun r => d :: r
  | _, _, _ => none
theorem resN_ok : ∀ {ks : List AK} {ts : List D} {tv us : List V} {f g : List Addr} {xs : List D}, Rps cl A L H false ts tv f → Rpo cl A L H δ σ g → WV σ ks tv us → resN ks ts δ = some xs → RpL cl A L H xs us
  | [], [], tv, us, f, g, xs, h, hg, w, e => by
    simp only [resN, Option.some.injEq] at e
    subst e
    simp only [WV] at w
    simp only [RpL]
    exact w.2
  | [], t :: ts, tv, us, f, g, xs, h, hg, w, e => by simp [resN] at e
  | .v x :: ks, [], tv, us, f, g, xs, h, hg, w, e => by simp [resN] at e
  | .v x :: ks, t :: ts, tv, us, f, g, xs, h, hg, w, e => by
    simp only [resN] at e
    obtain ⟨ys, e1, rfl⟩ := Option.map_eq_some_iff.mp e
    simp only [Rps] at h
    obtain ⟨v, tv', f1, f2, rfl, rfl, h3, h4⟩ := h
    simp only [WV] at w
    obtain ⟨t0, tv0, us', e3, rfl, w⟩ := w
    cases e3
    exact ⟨v, us', f1, rfl, h3.weak, resN_ok h4 hg w e1⟩
  | .l i :: ks, ts, tv, us, f, g, xs, h, hg, w, e => by
    simp only [resN] at e
    obtain ⟨d, e0, e⟩ := Option.bind_eq_some_iff.mp e
    obtain ⟨ys, e1, rfl⟩ := Option.map_eq_some_iff.mp e
    simp only [WV] at w
    obtain ⟨v, us', e3, rfl, w⟩ := w
    obtain ⟨v2, f1, g1, g2, g3⟩ := hg.get (join_some e0)
    rw [e3] at g1
    cases g1
    exact ⟨v, us', f1, rfl, g2, resN_ok h hg w e1⟩
  | .o i :: ks, ts, tv, us, f, g, xs, h, hg, w, e => by simp [resN] at e
def dNI (F : List D → Option D) (ks : List AK) : DE := fun δ => (dArgs ks δ).bind fun ts δ1 => match resN ks ts δ1 with
  | some xs => Out.ofO (F xs) δ1
  | none => .bad
theorem se_ni {ks : List AK} {R : List V → Hp → VK → Prop} {F : List D → Option D} (ho : NOp cl R F) (hr : SQ cl xf W tA ks) : SE cl xf W false (tF R tA) (dNI F ks) := by
  refine ⟨fun z => (by cases z), fun A L B H δ σ Q j k => hr A L B H δ σ _ j ?_⟩
  unfold dNI at k
  cases e : dArgs ks δ with
  | bad => rw [e] at k; exact k.elim
  | exc c xs s => rw [e] at k; exact k
  | ok ts s =>
    rw [e] at k
    simp only [Out.bind] at k
    intro tv vs A1 H1 n1 j1 w
    cases e1 : resN ks ts s with
    | none => rw [e1] at k; exact k.elim
    | some xs =>
      rw [e1] at k
      simp only at k
      obtain ⟨z, e3, k⟩ := Post.ofO k
      obtain ⟨f, g, h1, h2, h3, h4, h5⟩ := j1.ex
      exact ho false A1 L B H1 ts tv s σ xs vs z Q j1 (resN_ok h1 h2 w e1) e3 fun v A2 H2 n2 j2 => k [v] A2 H2 (n1.trans n2) j2 v rfl
/-! the text -/
variable {X : Cx} {e : Expr} {es : List Expr}
def tAll : List TE → TA
  | [] => tNil
  | t :: ts => tCons t (tAll ts)
inductive PEs (X : Cx) : List Expr → List TE → Prop
  | nil : PEs X [] []
  | cons {e : Expr} {te : TE} {es : List Expr} {tes : List TE} : PE X e te → PEs X es tes → PEs X (e :: es) (te :: tes)
def Rn (cl : Ec) (xf : Nat → List Str) (X : Cx) (W : WX) (es : List Expr) (os : List Od) : Prop := ∃ tes, PEs X es tes ∧ SN cl xf W (tAll tes) os
theorem n_nil : Rn cl xf X W [] [] := ⟨_, .nil, sn_nil⟩
theorem n_k {pa : PP} {os : List Od} (ha : Rk cl X e pa) (hr : Rn cl xf X W es os) : Rn cl xf X W (e :: es) (.k pa :: os) := by
  obtain ⟨te, h1, h2⟩ := ha; obtain ⟨ta, h3, h4⟩ := hr; exact ⟨_, .cons h1 h3, sn_k h2 h4⟩
theorem n_v {da : DE} {os : List Od} (ha : Rd cl xf X W true e da) (hr : Rn cl xf X W es os) : Rn cl xf X W (e :: es) (.v da :: os) := by
  obtain ⟨te, h1, h2⟩ := ha; obtain ⟨ta, h3, h4⟩ := hr; exact ⟨_, .cons h1 h3, sn_v h2 h4⟩
/-- the same of operands that may change the state -/
def Rz (cl : Ec) (xf : Nat → List Str) (X : Cx) (W : WX) (es : List Expr) (ks : List AK) : Prop := ∃ tes, PEs X es tes ∧ SQ cl xf W (tAll tes) ks
theorem z_nil : Rz cl xf X W [] [] := ⟨_, .nil, sq_nil⟩
theorem z_v {da : DE} {ks : List AK} (ha : Rd cl xf X W false e da) (hr : Rz cl xf X W es ks) : Rz cl xf X W (e :: es) (.v da :: ks) := by
  obtain ⟨te, h1, h2⟩ := ha; obtain ⟨ta, h3, h4⟩ := hr; exact ⟨_, .cons h1 h3, sq_val h2 h4⟩
theorem z_l (i : Nat) {x : Str} {pos : Pos} {ks : List AK} (hr : Rz cl xf X W es ks) (hN : X.N[i]? = some x := by rfl) (hv : Vis X.env.scope x := by first | exact Or.inl rfl | exact Or.inr (Or.inl rfl) | exact Or.inr (Or.inr rfl)) (hd : (x == ("__debug__" : Str)) = false := by decide) (hcd : (x == ("__classdict__" : Str)) = false := by decide) : Rz cl xf X W (.Name x pos :: es) (.l i :: ks) := by
  obtain ⟨ta, h3, h4⟩ := hr; exact ⟨_, .cons (pe_var hN hv hd hcd) h3, sq_l h4⟩
/-- an expression is an operation of these -/
def BN (X : Cx) (e : Expr) (es : List Expr) (R : List V → Hp → VK → Prop) : Prop := ∀ tes, PEs X es tes → PE X e (tF R (tAll tes))
theorem d_n {R : List V → Hp → VK → Prop} {F : List D → Option D} {os : List Od} (o : BN X e es R) (h : NOp cl R F) (hr : Rn cl xf X W es os) : Rd cl xf X W p e (dN F os) := by
  obtain ⟨ta, h1, h2⟩ := hr; exact ⟨_, o _ h1, se_n h h2⟩
theorem d_ni {R : List V → Hp → VK → Prop} {F : List D → Option D} {ks : List AK} (o : BN X e es R) (h : NOp cl R F) (hr : Rz cl xf X W es ks) : Rd cl xf X W false e (dNI F ks) := by
  obtain ⟨ta, h1, h2⟩ := hr; exact ⟨_, o _ h1, se_ni h h2⟩
end
end Fs
/-! F27 -/
/-! Operations: slices, sums of sequences, copies. -/
namespace Fs
open PySem PySem.Spec PyProof.Rows L2
section
variable {cl : Ec} {xf : Nat → List Str} {W : WX} {ws : Nat → Bool} {A A' L L' B : Addr → Prop} {H H' : Hp} {δ δ' : Sl} {σ σ' : L2.St} {p q b : Bool} {te ta tb tc : TE} {tA : TA} {tt tu : TT} {t u : TS} {ts : List D} {vs : List V}
/-- what an operation gives: a scalar, a new node of kept things, a kept thing -/
def NAlt (cl : Ec) (A L : Addr → Prop) (H : Hp) (r : VK → Prop) (z : D) : Prop :=
  (∃ s, z = .v s ∧ sc s = true ∧ ∀ Q : VK, Q s H → r Q) ∨
  (∃ k w ds vs fp o, z = .n k w ds ∧ (w = .own ∨ w = .shr) ∧ ds.all D.kept = true ∧ Rps cl A L H true ds vs fp ∧ Shape cl k vs o ∧ ∀ Q : VK, (∀ p0, H p0 = none → Q (.ref p0) (upd H p0 o)) → r Q) ∨
  (∃ u fp, z.kept = true ∧ Rp cl A L H true z u fp ∧ ∀ Q : VK, Q u H → r Q)
theorem NAlt.imp {r r' : VK → Prop} {z : D} (h : NAlt cl A L H r z) (i : ∀ Q, r Q → r' Q) : NAlt cl A L H r' z := by
  rcases h with ⟨s, h1, h2, h3⟩ | ⟨k, w, ds, vs, fp, o, h1, h2, h3, h4, h5, h6⟩ | ⟨u, fp, h1, h2, h3⟩
  · exact .inl ⟨s, h1, h2, fun Q q => i Q (h3 Q q)⟩
  · exact .inr (.inl ⟨k, w, ds, vs, fp, o, h1, h2, h3, h4, h5, fun Q q => i Q (h6 Q q)⟩)
  · exact .inr (.inr ⟨u, fp, h1, h2, fun Q q => i Q (h3 Q q)⟩)
def NA (cl : Ec) (R : List V → Hp → VK → Prop) (F : List D → Option D) : Prop := ∀ A L H xs us z, (∀ a, A a → H a ≠ none) → RpL cl A L H xs us → F xs = some z → NAlt cl A L H (R us H) z
theorem NAlt.run {ws : List V} {z : D} {r : VK → Prop} {Q : VK} (h : NAlt cl A L H r z) (j : Jt p cl A L B H ts ws δ σ) (k : ∀ v A' H', Nx A B H A' H' → Jt p cl A' L B H' [z] [v] δ σ → Q v H') : r Q := by
  rcases h with ⟨s, rfl, h2, h3⟩ | ⟨kk, w, ds, vs, fp, o, rfl, h2, h3, h4, h5, h6⟩ | ⟨u, fp, h1, h2, h3⟩
  · exact h3 Q (k s A H (Nx.refl j.ba) (j.leaf h2))
  · refine h6 Q fun p0 hp => ?_
    have j2 := j.keptL h3 h4
    rcases h2 with rfl | rfl
    · have h := j2.alloc (k := kk) (o := o) hp h5
      exact k _ _ _ h.1 h.2
    · have h := j2.allocS (k := kk) (o := o) h3 hp h5
      exact k _ _ _ h.1 h.2
  · exact h3 Q (k u A H (Nx.refl j.ba) (j.kept h1 h2))
theorem NA.n {R : List V → Hp → VK → Prop} {F : List D → Option D} (h : NA cl R F) : NOp cl R F := fun p A L B H ts ws δ σ xs us z Q j hr e k => (h A L H xs us z j.ad hr e).run j k
theorem RpL.one {x : D} {us : List V} (h : RpL cl A L H [x] us) : ∃ u fp, us = [u] ∧ Rp cl A L H true x u fp := by
  simp only [RpL] at h
  obtain ⟨u, us', fp, rfl, h1, rfl⟩ := h
  exact ⟨u, fp, rfl, h1⟩
theorem RpL.two {x y : D} {us : List V} (h : RpL cl A L H [x, y] us) : ∃ u w f1 f2, us = [u, w] ∧ Rp cl A L H true x u f1 ∧ Rp cl A L H true y w f2 := by
  simp only [RpL] at h
  obtain ⟨u, us', fp, rfl, h1, w, us'', fp2, rfl, h2, rfl⟩ := h
  exact ⟨u, w, fp, fp2, rfl, h1, h2⟩
theorem RpL.three {x y z : D} {us : List V} (h : RpL cl A L H [x, y, z] us) : ∃ u w t f1 f2 f3, us = [u, w, t] ∧ Rp cl A L H true x u f1 ∧ Rp cl A L H true y w f2 ∧ Rp cl A L H true z t f3 := by
  simp only [RpL] at h
  obtain ⟨u, us', fp, rfl, h1, w, us'', fp2, rfl, h2, t, us3, fp3, rfl, h3, rfl⟩ := h
  exact ⟨u, w, t, fp, fp2, fp3, rfl, h1, h2, h3⟩
def rL2 (r : R2) : List V → Hp → VK → Prop := fun us H Q => match us with | [x, y] => r x y H Q | _ => False
def rL1 (r : V → Hp → VK → Prop) : List V → Hp → VK → Prop := fun us H Q => match us with | [x] => r x H Q | _ => False
/-- two things, by a function of two -/
def f2 (f : D → D → Option D) : List D → Option D | [x, y] => f x y | _ => none
def f1 (f : D → Option D) : List D → Option D | [x] => f x | _ => none
theorem GOp.n {r : R2} {f : D → D → Option D} (h : GOp cl r f) : NOp cl (rL2 r) (f2 f) := by
  intro p A L B H ts ws δ σ xs us z Q j hr e k
  unfold f2 at e
  split at e
  · rename_i x y
    obtain ⟨u, w, f1, f2, rfl, h1, h2⟩ := hr.two
    exact h p A L B H ts ws δ σ x y u w f1 f2 z Q j h1 h2 e k
  · cases e
theorem GUn.n {r : V → Hp → VK → Prop} {f : D → Option D} (h : GUn cl r f) : NOp cl (rL1 r) (f1 f) := by
  intro p A L B H ts ws δ σ xs us z Q j hr e k
  unfold f1 at e
  split at e
  · rename_i x
    obtain ⟨u, fp, rfl, h1⟩ := hr.one
    exact h p A L B H ts ws δ σ x u fp z Q j h1 e k
  · cases e
variable {X : Cx} {e a c : Expr} {es : List Expr} {pos pp : Pos}
/-- the text of operations of two, of one -/
theorem b2n {r : R2} {e2 : Expr} (o : B2 X e a e2 r) : BN X e [a, e2] (rL2 r) := fun tes h => by
  cases h with
  | cons h1 h => cases h with
    | cons h2 h => cases h with
      | nil => exact o _ _ h1 h2
theorem b1n {r : V → Hp → VK → Prop} (o : B1 X e a r) : BN X e [a] (rL1 r) := fun tes h => by
  cases h with
  | cons h1 h => cases h with
    | nil => exact o _ h1
/-- a built-in's call -/
def Stars (X : Cx) : List Expr → Prop
  | [] => True
  | e :: es => starEach (e :: es) X.env = (false, eval e X.env) :: starEach es X.env ∧ Stars X es
theorem PEs.pa {tes : List TE} (h : PEs X es tes) (hs : Stars X es) : L2.PA X es (tAll tes) := by
  induction h with
  | nil => exact pa_nil
  | cons h1 h ih => exact pa_cons h1 (ih hs.2) hs.1
end
end Fs
/-! F28 -/
/-! Slices, sums, copies of sequences. -/
namespace Fs
open PySem PySem.Spec PyProof.Rows L2
section
variable {cl : Ec} {xf : Nat → List Str} {W : WX} {ws : Nat → Bool} {A A' L L' B : Addr → Prop} {H H' : Hp} {δ δ' : Sl} {σ σ' : L2.St} {p q b : Bool} {te ta tb tc : TE} {tA : TA} {tt tu : TT} {t u : TS} {ts : List D} {vs : List V}
variable {X : Cx} {e a c o : Expr} {es : List Expr} {pos pp p2 apos : Pos}
/-- the items of a list -/
def seqL : D → Option (List D)
  | .n .lst _ xs => some xs
  | .s ns => some (ns.map D.int)
  | _ => none
def seqT : D → Option (List D)
  | .n .tup _ xs => some xs
  | _ => none
theorem Rp.seqL {x : D} {v : V} {fp : List Addr} {ds : List D} (h : Rp cl A L H true x v fp) (e : Fs.seqL x = some ds) : ∃ a vs fp', v = .ref a ∧ SqL cl.K H a vs ∧ Rps cl A L H true ds vs fp' := by
  unfold Fs.seqL at e
  split at e
  · cases e
    obtain ⟨a, o, vs, fp', rfl, ho, hs, hr, hf⟩ := h.node
    cases hs
    exact ⟨a, vs, fp', rfl, SqL.of ho, hr⟩
  · rename_i ns
    cases e
    obtain ⟨a, rfl, h2, _, _⟩ := h.scr
    exact ⟨a, ns.map V.int, [], rfl, h2, Rps.ints⟩
  · cases e
theorem Rp.seqT {x : D} {v : V} {fp : List Addr} {ds : List D} (h : Rp cl A L H true x v fp) (e : Fs.seqT x = some ds) : ∃ a vs fp', v = .ref a ∧ SqT cl.K H a vs ∧ Rps cl A L H true ds vs fp' := by
  unfold Fs.seqT at e
  split at e
  · cases e
    obtain ⟨a, o, vs, fp', rfl, ho, hs, hr, hf⟩ := h.node
    cases hs
    exact ⟨a, vs, fp', rfl, SqT.of ho, hr⟩
  · cases e
/-! slices -/
def cutD {α : Type} (xs : List α) (lo hi : Option Int) : List α := (xs.drop (HT.sIx xs.length 0 lo)).take (HT.sIx xs.length xs.length hi - HT.sIx xs.length 0 lo)
def partD : D → Option (Option Int)
  | .v .non => some none
  | .v (.int i) => some (some i)
  | _ => none
def partV : V → Option Int
  | .int i => some i
  | _ => none
theorem Rps.drop : ∀ {ds : List D} {vs : List V} {fp : List Addr} (n : Nat), Rps cl A L H b ds vs fp → ∃ fp', Rps cl A L H b (ds.drop n) (vs.drop n) fp'
  | [], vs, fp, n, h => by
    simp only [Rps] at h
    rw [h.1, List.drop_nil, List.drop_nil]
    exact ⟨[], by simp [Rps]⟩
  | d :: ds, vs, fp, 0, h => ⟨fp, h⟩
  | d :: ds, vs, fp, n + 1, h => by
    simp only [Rps] at h
    obtain ⟨v, vs', f1, f2, rfl, rfl, h3, h4⟩ := h
    exact h4.drop n
theorem Rps.take : ∀ {ds : List D} {vs : List V} {fp : List Addr} (n : Nat), Rps cl A L H b ds vs fp → ∃ fp', Rps cl A L H b (ds.take n) (vs.take n) fp'
  | [], vs, fp, n, h => by
    simp only [Rps] at h
    rw [h.1, List.take_nil, List.take_nil]
    exact ⟨[], by simp [Rps]⟩
  | d :: ds, vs, fp, 0, h => ⟨[], by simp [Rps]⟩
  | d :: ds, vs, fp, n + 1, h => by
    simp only [Rps] at h
    obtain ⟨v, vs', f1, f2, rfl, rfl, h3, h4⟩ := h
    obtain ⟨f, h5⟩ := h4.take n
    refine ⟨f1 ++ f, ?_⟩
    simp only [List.take_succ_cons, Rps]
    exact ⟨v, _, f1, f, rfl, rfl, h3, h5⟩
theorem Rps.cut {ds : List D} {fp : List Addr} {lo hi : Option Int} (h : Rps cl A L H b ds vs fp) : ∃ fp', Rps cl A L H b (cutD ds lo hi) (cutV vs lo hi) fp' := by
  obtain ⟨f1, h1⟩ := h.drop (HT.sIx vs.length 0 lo)
  obtain ⟨f2, h2⟩ := h1.take (HT.sIx vs.length vs.length hi - HT.sIx vs.length 0 lo)
  refine ⟨f2, ?_⟩
  unfold cutD cutV
  rw [h.length]
  exact h2
theorem all_cut {f : D → Bool} {ds : List D} {lo hi : Option Int} (h : ds.all f = true) : (cutD ds lo hi).all f = true := by
  rw [List.all_eq_true] at h ⊢
  intro x hx
  exact h x (List.mem_of_mem_drop (List.mem_of_mem_take hx))
def slD : List D → Option D
  | [x, l, h] => (partD l).bind fun lo => (partD h).bind fun hi => match x with
    | .v (.str z) => if z.length ≤ 100000 then some (.str (cutS z lo hi)) else none
    | .n .lst _ xs => if xs.all D.kept then some (.n .lst .own (cutD xs lo hi)) else none
    | .s ns => some (.n .lst .own (cutD (ns.map D.int) lo hi))
    | .n .tup .shr xs => if xs.all D.kept then some (.n .tup .shr (cutD xs lo hi)) else none
    | _ => none
  | _ => none
def rSlAll (K : PySem.W.Frag) : V → Option Int → Option Int → Hp → VK → Prop := fun x lo hi H Q => rSlS x lo hi H Q ∨ rSlL K x lo hi H Q ∨ rSlA K x lo hi H Q
theorem sl_all : SlR X (rSlAll X.K) := SlR.or sl_str (SlR.or sl_list sl_tupA)
def rL3 (r : V → Option Int → Option Int → Hp → VK → Prop) : List V → Hp → VK → Prop := fun us H Q => match us with | [x, l, h] => r x (partV l) (partV h) H Q | _ => False
theorem partD_ok {x : D} {v : V} {fp : List Addr} {i : Option Int} (h : Rp cl A L H true x v fp) (e : partD x = some i) : partV v = i := by
  unfold partD at e
  split at e
  · cases e; obtain ⟨rfl, _, _⟩ := h.leafv; rfl
  · cases e; obtain ⟨rfl, _, _⟩ := h.leafv; rfl
  · cases e
theorem cutD_whole {α : Type} {xs : List α} {lo hi : Option Int} (h : HT.sIx xs.length 0 lo = 0 ∧ HT.sIx xs.length xs.length hi = xs.length) : cutD xs lo hi = xs := by
  unfold cutD
  rw [h.1, h.2]
  simp
theorem na_sl : NA cl (rL3 (rSlAll cl.K)) slD := by
  intro A L H xs us z ad hr e
  unfold slD at e
  split at e
  · rename_i x l h
    obtain ⟨u, w, t, f1, f2, f3, rfl, h1, h2, h3⟩ := hr.three
    obtain ⟨lo, e1, e3⟩ := Option.bind_eq_some_iff.mp e
    obtain ⟨hi, e2, e4⟩ := Option.bind_eq_some_iff.mp e3
    clear e e3
    have e := e4
    clear e4
    have p1 := partD_ok h2 e1
    have p2 := partD_ok h3 e2
    subst p1 p2
    split at e
    · rename_i z'
      split at e
      · rename_i hl
        cases e
        obtain ⟨rfl, _, _⟩ := h1.leafv
        exact .inl ⟨_, rfl, rfl, fun Q q => .inl ⟨z', rfl, sz_of hl, q⟩⟩
      · cases e
    · rename_i w' ys
      split at e
      · rename_i hk
        cases e
        obtain ⟨a, vs, fp', rfl, ho, hr⟩ := h1.seqL rfl
        obtain ⟨fp2, h4⟩ := hr.cut (lo := partV w) (hi := partV t)
        exact .inr (.inl ⟨.lst, .own, _, _, fp2, _, rfl, .inl rfl, all_cut hk, h4, rfl, fun Q q => .inr (.inl ⟨a, vs, rfl, ho, q⟩)⟩)
      · cases e
    · rename_i ns
      cases e
      obtain ⟨a, vs, fp', rfl, ho, hr⟩ := h1.seqL rfl
      obtain ⟨fp2, h4⟩ := hr.cut (lo := partV w) (hi := partV t)
      exact .inr (.inl ⟨.lst, .own, _, _, fp2, _, rfl, .inl rfl, all_cut (by simp [D.kept]), h4, rfl, fun Q q => .inr (.inl ⟨a, vs, rfl, ho, q⟩)⟩)
    · rename_i ys
      split at e
      · rename_i hk
        cases e
        obtain ⟨a, vs, fp', rfl, ho, hr⟩ := h1.seqT rfl
        have hlen := hr.length
        by_cases hw : HT.sIx ys.length 0 (partV w) = 0 ∧ HT.sIx ys.length ys.length (partV t) = ys.length
        · rw [cutD_whole hw]
          refine .inr (.inr ⟨.ref a, f1, rfl, h1, fun Q q => .inr (.inr ⟨a, vs, rfl, ho, fun _ => q, fun n => absurd ?_ n⟩)⟩)
          rw [← hlen]; exact hw
        · obtain ⟨fp2, h4⟩ := hr.cut (lo := partV w) (hi := partV t)
          refine .inr (.inl ⟨.tup, .shr, _, _, fp2, _, rfl, .inr rfl, all_cut hk, h4, rfl, fun Q q => .inr (.inr ⟨a, vs, rfl, ho, fun n => absurd ?_ hw, fun _ => q⟩)⟩)
          rw [hlen]; exact n
      · cases e
    · cases e
  · cases e
/-- an int, for a part of a slice -/
def intP : D → Option D | .v (.int i) => some (.v (.int i)) | _ => none
def rInt : V → Hp → VK → Prop := fun x H Q => ∃ i, x = .int i ∧ Q (.int i) H
theorem pun_intP : PUn cl rInt intP := by
  intro A L H x u f1 z Q h e k
  unfold intP at e
  split at e
  · rename_i i
    cases e
    obtain ⟨rfl, rfl, hs⟩ := h.leafv
    exact ⟨i, rfl, k _ [] (Rp.leaf rfl) (by simp)⟩
  · cases e
theorem intP_kept : ∀ x z, intP x = some z → z.kept = true := by
  intro x z e
  unfold intP at e
  split at e
  · cases e; rfl
  · cases e
theorem g_intP : GUn cl rInt intP := pun_intP.g intP_kept
/-- a part of a slice as an operand -/
def RoP (cl : Ec) (xf : Nat → List Str) (X : Cx) (W : WX) (lo : Option Expr) (od : Od) : Prop := ∃ tl te, PO X lo tl ∧ (tl = fun σ H Q => te σ H fun x H1 => Q (partV x) H1) ∧ ∀ tA os, SN cl xf W tA os → SN cl xf W (tCons te tA) (od :: os)
theorem ro_none : RoP cl xf X W none (.k (pC .non)) := ⟨_, tC .non, po_none, rfl, fun tA os h => sn_k (sp_c rfl) h⟩
theorem ro_k {pa : PP} (h : Rk cl X e pa) : RoP cl xf X W (some e) (.k (pUn intP pa)) := by
  obtain ⟨te, h1, h2⟩ := h
  exact ⟨_, _, po_some h1, rfl, fun tA os h => sn_k (sp_un pun_intP h2) h⟩
theorem ro_v {da : DE} (h : Rd cl xf X W true e da) : RoP cl xf X W (some e) (.v (d1 intP da)) := by
  obtain ⟨te, h1, h2⟩ := h
  exact ⟨_, _, po_some h1, rfl, fun tA os h => sn_v (se_1d g_intP h2) h⟩
/-- what is cut -/
def RoB (cl : Ec) (xf : Nat → List Str) (X : Cx) (W : WX) (e : Expr) (od : Od) : Prop := ∃ te, PE X e te ∧ ∀ tA os, SN cl xf W tA os → SN cl xf W (tCons te tA) (od :: os)
theorem rb_k {pa : PP} (h : Rk cl X e pa) : RoB cl xf X W e (.k pa) := by obtain ⟨te, h1, h2⟩ := h; exact ⟨te, h1, fun _ _ h => sn_k h2 h⟩
theorem rb_v {da : DE} (h : Rd cl xf X W true e da) : RoB cl xf X W e (.v da) := by obtain ⟨te, h1, h2⟩ := h; exact ⟨te, h1, fun _ _ h => sn_v h2 h⟩
theorem d_sl {lo hi : Option Expr} {ob ol oh : Od} (hK : X.K = cl.K) (hb : RoB cl xf X W e ob) (hl : RoP cl xf X W lo ol) (hh : RoP cl xf X W hi oh) : Rd cl xf X W p (.Subscript e (.Slice lo hi none p2) pos) (dN slD [ob, ol, oh]) := by
  obtain ⟨te, h1, h2⟩ := hb
  obtain ⟨tl, tl', h3, rfl, h4⟩ := hl
  obtain ⟨th, th', h5, rfl, h6⟩ := hh
  have hn := se_n (xf := xf) (W := W) (p := p) na_sl.n (h2 _ _ (h4 _ _ (h6 _ _ sn_nil)))
  exact ⟨_, pe_slice (r := rSlAll cl.K) (by rw [← hK]; exact sl_all) h1 h3 h5, hn⟩
/-! the same where something changes the state -/
def RzP (cl : Ec) (xf : Nat → List Str) (X : Cx) (W : WX) (lo : Option Expr) (k : AK) : Prop := ∃ tl te, PO X lo tl ∧ (tl = fun σ H Q => te σ H fun x H1 => Q (partV x) H1) ∧ ∀ tA ks, SQ cl xf W tA ks → SQ cl xf W (tCons te tA) (k :: ks)
theorem rz_none : RzP cl xf X W none (.v (dP (pC .non))) := ⟨_, tC .non, po_none, rfl, fun tA os h => sq_val (se_p (sp_c rfl)) h⟩
theorem rz_v {da : DE} (h : Rd cl xf X W false e da) : RzP cl xf X W (some e) (.v (d1 intP da)) := by
  obtain ⟨te, h1, h2⟩ := h
  exact ⟨_, _, po_some h1, rfl, fun tA os h => sq_val (se_1d g_intP h2) h⟩
def RzB (cl : Ec) (xf : Nat → List Str) (X : Cx) (W : WX) (e : Expr) (k : AK) : Prop := ∃ te, PE X e te ∧ ∀ tA ks, SQ cl xf W tA ks → SQ cl xf W (tCons te tA) (k :: ks)
theorem zb_v {da : DE} (h : Rd cl xf X W false e da) : RzB cl xf X W e (.v da) := by obtain ⟨te, h1, h2⟩ := h; exact ⟨te, h1, fun _ _ h => sq_val h2 h⟩
theorem zb_l (i : Nat) {x : Str} (hN : X.N[i]? = some x := by rfl) (hv : Vis X.env.scope x := by first | exact Or.inl rfl | exact Or.inr (Or.inl rfl) | exact Or.inr (Or.inr rfl)) (hd : (x == ("__debug__" : Str)) = false := by decide) (hcd : (x == ("__classdict__" : Str)) = false := by decide) : RzB cl xf X W (.Name x pos) (.l i) := ⟨_, pe_var hN hv hd hcd, fun _ _ h => sq_l h⟩
theorem d_slI {lo hi : Option Expr} {ob ol oh : AK} (hK : X.K = cl.K) (hb : RzB cl xf X W e ob) (hl : RzP cl xf X W lo ol) (hh : RzP cl xf X W hi oh) : Rd cl xf X W false (.Subscript e (.Slice lo hi none p2) pos) (dNI slD [ob, ol, oh]) := by
  obtain ⟨te, h1, h2⟩ := hb
  obtain ⟨tl, tl', h3, rfl, h4⟩ := hl
  obtain ⟨th, th', h5, rfl, h6⟩ := hh
  have hn := se_ni (xf := xf) (W := W) na_sl.n (h2 _ _ (h4 _ _ (h6 _ _ sq_nil)))
  exact ⟨_, pe_slice (r := rSlAll cl.K) (by rw [← hK]; exact sl_all) h1 h3 h5, hn⟩
end
end Fs
/-! F29 -/
set_option maxHeartbeats 2000000
/-! New objects and methods as calls of any kind. -/
namespace Fs
open PySem PySem.Spec PyProof.Rows L2
def spMk (C : Addr) (sp : Sp) : Sp := fun vs H Q E => ∀ x dx, H x = none → H dx = none → dx ≠ x → sp (.ref x :: vs) (upd (upd H dx (.own x)) x (.ins C dx [])) (fun v H2 => v = .non ∧ Q (.ref x) H2) E
def mkOut : Out D → Out D
  | .ok (.v .non) (some o :: ios) => if o.free then .ok o ios else .bad
  | .exc c' xs (_ :: ios) => .exc c' xs ios
  | _ => .bad
def mkF (c : Nat) (F : List D → Out D) : List D → Out D := fun ds => mkOut (F (.n (.obj c []) .own [] :: ds))
theorem mkOut_ok {d : D} {ios : Sl} : mkOut (.ok d ios) = .bad ∨ ∃ o rest, d = .v .non ∧ ios = some o :: rest ∧ o.free = true ∧ mkOut (.ok d ios) = .ok o rest := by
  unfold mkOut
  split
  · rename_i o rest eq
    cases eq
    by_cases h : o.free = true
    · rw [if_pos h]; exact .inr ⟨o, rest, rfl, rfl, h, rfl⟩
    · rw [if_neg h]; exact .inl rfl
  · rename_i eq; cases eq
  · exact .inl rfl
section
variable {cl : Ec} {xf : Nat → List Str} {X : Cx} {W : WX} {ws : Nat → Bool} {A L B : Addr → Prop} {H : Hp} {b p : Bool} {tA : TA} {δ : Sl} {σ : L2.St}
theorem spMk_ok {c np : Nat} {F : List D → Out D} : ∀ vs H Q E, spF cl xf np (mkF c F) vs H Q E → spMk (cl.c c) (spF cl xf (np + 1) F) vs H Q E := by
  intro vs H Q E h x dx hx hdx ne
  obtain ⟨A, L, B, ds, j, hl, k⟩ := h
  obtain ⟨f0, g, h1, h2, h3, h4, h5⟩ := j.ex
  simp only [Rps] at h1
  obtain ⟨_, rfl⟩ := h1
  have up : ∀ a, H a ≠ none → upd (upd H dx (.own x)) x (.ins (cl.c c) dx []) a = H a := fun a h => by
    rw [upd_ne (fun z => h (by rw [z]; exact hx)), upd_ne (fun z => h (by rw [z]; exact hdx))]
  have nx : Nx A B H (fun a => A a ∨ a = x) (upd (upd H dx (.own x)) x (.ins (cl.c c) dx [])) := by
    refine ⟨fun a h => h.elim .inl fun z => .inr (by rw [z]; exact hx), fun a o h _ => by rw [up a (by rw [h]; simp)]; exact h, fun a h => ⟨up a (j.ad a (j.ba a h)), .inl (j.ba a h)⟩, fun a h => ?_⟩
    cases z : H a with
    | none => rfl
    | some o => rw [up a (by rw [z]; simp), z] at h; cases h
  have gA : ∀ a ∈ g, A a := fun a ha => (h2.inA a ha).1
  have xg : x ∉ g := fun z => j.ad x (gA x z) hx
  have xA : ¬ A x := fun z => j.ad x z hx
  have jc : Jt false cl (fun a => A a ∨ a = x) L B (upd (upd H dx (.own x)) x (.ins (cl.c c) dx [])) [] [] ((.n (.obj c []) .own [] :: ds).map some) ((V.ref x :: vs).map some) := by
    refine ⟨⟨[], x :: g, by simp [Rps], ?_, by simpa [xg] using h3, by simp, fun _ a ha q => ?_⟩, j.lb, fun a h => .inl (j.ba a h), fun a h => ?_⟩
    · simp only [List.map_cons, Rpo]
      refine ⟨.ref x, _, [x], g, rfl, by simp, ?_, ?_⟩
      · simp only [Rp]
        exact ⟨x, _, [], rfl, upd_same, ⟨rfl, dx, rfl⟩, .inr rfl, [], rfl, by simp [Rps]⟩
      · exact h2.step nx.both (fun a ha => ⟨up a (j.ad a (gA a ha)), .inl (gA a ha)⟩) (fun a hl => ⟨up a (j.ad a (j.ba a (j.lb a hl))), hl⟩)
    · rcases List.mem_cons.mp ha with z | z
      · rw [z] at q; exact xA (j.ba _ q)
      · exact h5 rfl a z q
    · rcases h with h | h
      · rw [up a (j.ad a h)]; exact j.ad a h
      · rw [h, upd_same]; simp
  refine ⟨_, L, B, _, jc, by simp [hl], ?_⟩
  unfold mkF at k
  cases e2 : F (.n (.obj c []) .own [] :: ds) with
  | bad => rw [e2] at k; exact k.elim
  | exc c' xs ios =>
    rw [e2] at k
    intro d us' A2 H2 n2 x2 j2
    cases ios with
    | nil => exact k.elim
    | cons o ios =>
      refine k d us' A2 H2 (nx.trans n2) x2 ?_
      obtain ⟨f2, g2, q1, q2, q3, q4, q5⟩ := j2.ex
      have nd := List.nodup_append.mp q3
      cases o with
      | none =>
        simp only [List.map_cons, Rpo] at q2
        obtain ⟨y, σ', e3, q2⟩ := q2
        cases e3
        exact ⟨⟨f2, g2, q1, q2, q3, q4, q5⟩, j2.lb, j2.ba, j2.ad⟩
      | some o =>
        simp only [List.map_cons, Rpo] at q2
        obtain ⟨vx, σ', g3, g4, e3, rfl, q6, q7⟩ := q2
        cases e3
        exact ⟨⟨f2, g4, q1, q7, List.nodup_append.mpr ⟨nd.1, (List.nodup_append.mp nd.2.1).2.1, fun a ha c hc => nd.2.2 a ha c (List.mem_append_right _ hc)⟩, q4, fun hp a ha => q5 hp a (List.mem_append_right _ ha)⟩, j2.lb, j2.ba, j2.ad⟩
  | ok d ios =>
    rw [e2] at k
    intro v A2 H2 n2 j2
    rcases mkOut_ok (d := d) (ios := ios) with hb | ⟨o, rest, rfl, rfl, hfr, hb⟩
    · rw [hb] at k; exact k.elim
    · rw [hb] at k
      obtain ⟨f2, g2, q1, q2, q3, q4, q5⟩ := j2.ex
      obtain ⟨u, _, e0, h1⟩ := j2.one
      cases e0
      simp only [List.map_cons, Rpo] at q2
      obtain ⟨vx, σ', g3, g4, e3, rfl, q6, q7⟩ := q2
      simp only [List.cons.injEq, Option.some.injEq] at e3
      obtain ⟨rfl, rfl⟩ := e3
      have nd := List.nodup_append.mp q3
      refine ⟨h1.leafv.1, k (.ref x) A2 H2 (nx.trans n2) ⟨⟨g3, g4, ?_, q7, nd.2.1, fun a ha => q5 rfl a (List.mem_append_left _ ha), fun hp a ha => q5 hp a (List.mem_append_right _ ha)⟩, j2.lb, j2.ba, j2.ad⟩⟩
      simp only [Rps]
      exact ⟨_, [], g3, [], rfl, by simp, q6.free hfr, rfl, rfl⟩
variable {e o : Expr} {es : List Expr} {pos pp apos : Pos} {k mm np c : Nat} {x m : Str} {F : List D → Out D} {da' : DA} {pa : PP} {da : DE}
/-! new objects -/
theorem d_mk (M : Kc cl xf X.prog X.w X.K X.mg X.base x c k (np + 1) F) (hr : RoomG mm X.A) (hkm : k + 1 ≤ mm) (tk : Takes X W) (ha : Rc cl xf X W (e :: es) da') (hn : DL np da') (hg : Gl X x := by rfl)
    (hdb : (x == ("__debug__" : Str)) = false := by decide) (he : starEach (e :: es) X.env = (false, eval e X.env) :: starEach es X.env := by rfl) (hpl : (backTo pos (starEach es X.env)).any (·.1) = false := by rfl) : Rd cl xf X W p (.Call (.Name x pp) (e :: es) [] pos) (dCall (mkF c F) da') := by
  obtain ⟨ta, h1, h2⟩ := ha
  obtain ⟨f, fd, ps, hF, hM, hb⟩ := M.ex
  exact ⟨_, pe_makeE hM hF (hr.mono hkm) hg M.mgx hb (fun σ => passAt tk σ) h1 hdb he hpl, (se_callG (sp := spMk (cl.c c) (spF cl xf (np + 1) F)) spMk_ok h2 hn).to⟩
theorem d_mk0 (M : Kc cl xf X.prog X.w X.K X.mg X.base x c k 1 F) (hr : RoomG mm X.A) (hkm : k + 1 ≤ mm) (tk : Takes X W) (hg : Gl X x := by rfl) (hdb : (x == ("__debug__" : Str)) = false := by decide) : Rd cl xf X W p (.Call (.Name x pp) [] [] pos) (dCall (mkF c F) daNil) := by
  obtain ⟨f, fd, ps, hF, hM, hb⟩ := M.ex
  exact ⟨_, pe_make0E hM hF (hr.mono hkm) hg M.mgx hb (fun σ => passAt tk σ) hdb, (se_callG (sp := spMk (cl.c c) (spF cl xf 1 F)) (np := 0) spMk_ok sc_nil dl_nil).to⟩
def gYes : Sl → Bool := fun _ => true
theorem SQ.g {ks : List AK} (h : SQ cl xf W tA ks) : SQg cl xf W gYes tA ks := fun A L B H δ σ R _ => h A L B H δ σ R
theorem d_mkIO {ks : List AK} (M : Kc cl xf X.prog X.w X.K X.mg X.base x c k (np + 1) F) (hr : RoomG mm X.A) (hkm : k + 1 ≤ mm) (tk : Takes X W) (ha : Rq cl xf X W (e :: es) ks) (hn : ks.length = np) (hg : Gl X x := by rfl)
    (hdb : (x == ("__debug__" : Str)) = false := by decide) (he : starEach (e :: es) X.env = (false, eval e X.env) :: starEach es X.env := by rfl) (hpl : (backTo pos (starEach es X.env)).any (·.1) = false := by rfl) : Rd cl xf X W false (.Call (.Name x pp) (e :: es) [] pos) (dG gYes (dCallIO (mkF c F) ks)) := by
  obtain ⟨ta, h1, h2⟩ := ha
  obtain ⟨f, fd, ps, hF, hM, hb⟩ := M.ex
  exact ⟨_, pe_makeE hM hF (hr.mono hkm) hg M.mgx hb (fun σ => passAt tk σ) h1 hdb he hpl, se_callIOG (sp := spMk (cl.c c) (spF cl xf (np + 1) F)) spMk_ok h2.g hn⟩
/-! methods of objects that they change, or with arguments that change something -/
def gRc (c : Nat) (m : Str) (i : Nat) : Sl → Bool := fun δ => (pRc c m (pVar i) δ).isSome
theorem gRc_ok {i : Nat} {ts : List D} {vs : List V} (j : Jt p cl A L B H ts vs δ σ) (hg : gRc c m i δ = true) : (δ[i]?).join.isSome = true ∧ ∃ v, σ[i]? = some (some v) ∧ ∃ a dx fs, v = .ref a ∧ H a = some (.ins (cl.c c) dx fs) ∧ fs.lookup m = none := by
  obtain ⟨g, hg2, nd, _⟩ := j.drop0
  obtain ⟨z, hz⟩ := Option.isSome_iff_exists.mp hg
  unfold pRc pVar at hz
  obtain ⟨y, h1, h2⟩ := Option.bind_eq_some_iff.mp hz
  obtain ⟨v, f1, g1, g2, g3⟩ := hg2.get (join_some h1)
  exact ⟨by rw [h1]; rfl, v, g1, (rcD_ok g2 h2).2⟩
theorem sq_rcO {i : Nat} {ks : List AK} (hr : SQ cl xf W tA ks) : SQg cl xf W (gRc c m i) (tCons (tRc (cl.c c) m (tVar i)) tA) (.o i :: ks) := fun A L B H δ σ R hg j k => by
  obtain ⟨hs, v, hv, hx⟩ := gRc_ok j hg
  refine ⟨v, hv, hx, hr A L B H δ σ _ j ?_⟩
  unfold dArgs at k
  rw [if_pos hs] at k
  cases e2 : dArgs ks δ with
  | bad => rw [e2] at k; exact k.elim
  | exc c xs s => rw [e2] at k; exact k
  | ok xs s =>
    rw [e2] at k
    exact fun tv us A2 H2 n2 j2 w => k tv (v :: us) A2 H2 n2 j2 ⟨v, us, hv, rfl, w⟩
theorem sq_rcL {i : Nat} {ks : List AK} (hr : SQ cl xf W tA ks) : SQg cl xf W (gRc c m i) (tCons (tRc (cl.c c) m (tVar i)) tA) (.l i :: ks) := fun A L B H δ σ R hg j k => by
  obtain ⟨hs, v, hv, hx⟩ := gRc_ok j hg
  refine ⟨v, hv, hx, hr A L B H δ σ _ j ?_⟩
  unfold dArgs at k
  rw [if_pos hs] at k
  cases e2 : dArgs ks δ with
  | bad => rw [e2] at k; exact k.elim
  | exc c xs s => rw [e2] at k; exact k
  | ok xs s =>
    rw [e2] at k
    exact fun tv us A2 H2 n2 j2 w => k tv (v :: us) A2 H2 n2 j2 ⟨v, us, hv, rfl, w⟩
/-- how the receiver is handed -/
def Rrc (cl : Ec) (xf : Nat → List Str) (X : Cx) (W : WX) (c : Nat) (m : Str) (o : Expr) (g : Sl → Bool) (k : AK) : Prop := ∃ te, PE X o te ∧ ∀ tA ks, SQ cl xf W tA ks → SQg cl xf W g (tCons (tRc (cl.c c) m te) tA) (k :: ks)
theorem rc_o (i : Nat) {y : Str} (hN : X.N[i]? = some y := by rfl) (hv : Vis X.env.scope y := by first | exact Or.inl rfl | exact Or.inr (Or.inl rfl) | exact Or.inr (Or.inr rfl)) (hd : (y == ("__debug__" : Str)) = false := by decide) (hcd : (y == ("__classdict__" : Str)) = false := by decide) : Rrc cl xf X W c m (.Name y pos) (gRc c m i) (.o i) := ⟨_, pe_var hN hv hd hcd, fun _ _ h => sq_rcO h⟩
theorem rc_l (i : Nat) {y : Str} (hN : X.N[i]? = some y := by rfl) (hv : Vis X.env.scope y := by first | exact Or.inl rfl | exact Or.inr (Or.inl rfl) | exact Or.inr (Or.inr rfl)) (hd : (y == ("__debug__" : Str)) = false := by decide) (hcd : (y == ("__classdict__" : Str)) = false := by decide) : Rrc cl xf X W c m (.Name y pos) (gRc c m i) (.l i) := ⟨_, pe_var hN hv hd hcd, fun _ _ h => sq_rcL h⟩
theorem rc_v {da : DE} (h : Rd cl xf X W false o da) : Rrc cl xf X W c m o gYes (.v (dRc c m da)) := by
  obtain ⟨te, h1, h2⟩ := h
  exact ⟨te, h1, fun _ _ h => (sq_val (se_rc h2) h).g⟩
theorem d_mio {ks : List AK} {g : Sl → Bool} {kr : AK} (M : Mt cl xf X.prog X.w X.K X.mg X.base c m k np F) (hr : RoomG mm X.A) (hkm : k ≤ mm) (tk : Takes X W) (ho : Rrc cl xf X W c m o g kr) (ha : Rq cl xf X W (e :: es) ks) (hn : ks.length + 1 = np)
    (hst : starEach (e :: es) X.env = (false, eval e X.env) :: starEach es X.env := by rfl) (hpl : (backTo pos (starEach es X.env)).any (·.1) = false := by rfl) {pl : Sem Bool}
    (ht : eval (.Call (.Attribute o m apos) (e :: es) [] pos) X.env = (do
      let r ← eval o X.env
      standAt apos.atName
      let (g, one) ← holding [r] (getMethod r m pl)
      callWith pos g one (backTo pos (starEach (e :: es) X.env)) (backToKw pos (keywordEach [] X.env))) := by rfl) : Rd cl xf X W false (.Call (.Attribute o m apos) (e :: es) [] pos) (dG g (dCallIO F (kr :: ks))) := by
  obtain ⟨to, h1, h2⟩ := ho
  obtain ⟨ta, h3, h4⟩ := ha
  obtain ⟨f, fd, ps, hF, hM, hb⟩ := M.ex
  refine ⟨_, pe_methE (pl := pl) h1 M.cls hM hF (hr.mono hkm) hb (fun σ => passAt tk σ) h3 hst hpl ht, ?_⟩
  rw [tMethE_eq]
  exact se_callIOG (fun _ _ _ _ h => h) (h2 _ _ h4) hn
theorem d_mio0 {g : Sl → Bool} {kr : AK} (M : Mt cl xf X.prog X.w X.K X.mg X.base c m k 1 F) (hr : RoomG mm X.A) (hkm : k ≤ mm) (tk : Takes X W) (ho : Rrc cl xf X W c m o g kr) {pl : Sem Bool}
    (ht : eval (.Call (.Attribute o m apos) [] [] pos) X.env = (do
      let r ← eval o X.env
      standAt apos.atName
      let (g, one) ← holding [r] (getMethod r m pl)
      callWith pos g one (backTo pos (starEach [] X.env)) (backToKw pos (keywordEach [] X.env))) := by rfl) : Rd cl xf X W false (.Call (.Attribute o m apos) [] [] pos) (dG g (dCallIO F [kr])) := by
  obtain ⟨to, h1, h2⟩ := ho
  obtain ⟨f, fd, ps, hF, hM, hb⟩ := M.ex
  refine ⟨_, pe_meth0E (pl := pl) h1 M.cls hM hF (hr.mono hkm) hb (fun σ => passAt tk σ) ht, ?_⟩
  rw [tMethE_eq]
  exact se_callIOG (fun _ _ _ _ h => h) (h2 _ _ sq_nil) rfl
end
end Fs
/-! R1 -/
set_option maxHeartbeats 2000000
/-! Rules of the machine: list(d.values()), tuple(d.values()). -/
namespace Rm
open PySem PySem.W PySem.Spec PyProof.Rows L2
section
variable {prog : Program} {w : World} {A : Around} {E : Value → Shared → Prop} {s : Shared} {T : String} {r d : Addr} {n : Nat} {P : Nat → Value → Prop} {OK : Heap → Prop}
theorem collect_src {Q : List Value → Shared → Prop} (K : KdlSrc prog w T r d n P OK) (hh : A.handled = none) (hok : OK s.heap) (hn : n ≤ sizeLine)
    (hQ : ∀ (h' : Heap) (tk : Nat) (acc : Array Value), (∀ b o, s.heap.get? b = some o → h'.get? b = some o) → ItemsOf P acc n → Q acc.toList { s with heap := h', toks := tk }) :
    wpAny (model prog w) A (collect (.ref r)) Q E s := by
  unfold collect
  refine wpAny_bind (wpAny_runValue (codeAny_builtin F.entry_proto_collect ?_))
  rw [Around.under_plainId F.plain_proto_collect _]
  show wpAny _ A.in1 (newList [] >>= fun l => again (.builtin "list.__iadd__" ⟨[l, .ref r], []⟩)) _ _ s
  refine wpAny_bind (wpAny_newObj_type ?_)
  refine wpAny_pure ⟨plainId_quiet F.plain_list_iadd _, codeAny_builtin F.entry_list_iadd ?_⟩
  rw [Around.under_plainId F.plain_list_iadd _]
  show wpAny _ A.in1 (Builtin.List.listExtendWith (.ref s.heap.objs.size) (.ref r) (.ref s.heap.objs.size)) _ _ _
  have hS : (s.heap.push { cls := .type "list", data := .seq ([] : List Value).toArray }).get? s.heap.objs.size = some { cls := .type "list", data := .seq #[] 0 } := Heap.get?_push_size _ rfl
  have hlt := K.there _ hok
  refine wpAny_mono (kdl_extend (A := A) (R := fun rr s' => rr = .ok (.ret (.ref s.heap.objs.size)) ∧ ∃ (h' : Heap) (tk : Nat) (acc : Array Value) (c' : Nat), s' = { s with heap := h', toks := tk } ∧
      (∀ b o, s.heap.get? b = some o → h'.get? b = some o) ∧ h'.get? s.heap.objs.size = some { cls := .type "list", dict := none, data := .seq acc c', slots := #[] } ∧ ItemsOf P acc n)
    (s := { s with heap := s.heap.push { cls := .type "list", data := .seq ([] : List Value).toArray } }) K hh (K.keep _ _ hok fun b _ o e => Heap.get?_push_of_some _ e) _ (Nat.ne_of_gt hlt.1) (Nat.ne_of_gt hlt.2) _ 0 hS
    (fun h' tk acc c' hk e hi => ⟨rfl, h', tk, acc, c', rfl, fun b o q => hk b o (Nat.ne_of_lt (Heap.lt_size q)) (Heap.get?_push_of_some _ q), e, hi⟩) hn) (fun fin s' h => ?_) (fun e s' h => ?_)
  · cases fin with
    | done f =>
      obtain ⟨e, h', tk, acc, c', rfl, hk, hS', hi⟩ := h
      cases e
      show wpAny _ A (load s.heap.objs.size >>= _) _ _ _
      exact wpAny_bind (wpAny_load hS' (wpAny_pure (hQ h' tk acc hk hi)))
    | again c' =>
      refine ⟨h.1, codeAny_mono h.2 fun rr s'' hr' => ?_⟩
      obtain ⟨rfl, h', tk, acc, c', rfl, hk, hS', hi⟩ := hr'
      show wpAny _ A (load s.heap.objs.size >>= _) _ _ _
      exact wpAny_bind (wpAny_load hS' (wpAny_pure (hQ h' tk acc hk hi)))
  · exact absurd h.1 (by simp)
theorem code_tuple_src {Q₁ : Value → Shared → Prop} (K : KdlSrc prog w T r d n P OK) (hh : A.handled = none) (hok : OK s.heap) (hn : n ≤ sizeLine) (hT : (Value.type T == Value.type "tuple") = false)
    (h : ∀ (h' : Heap) (tk : Nat) (acc : Array Value), (∀ b o, s.heap.get? b = some o → h'.get? b = some o) → ItemsOf P acc n →
      Q₁ (.ref h'.objs.size) { s with heap := h'.push { cls := .type "tuple", data := .seq acc }, toks := tk }) :
    codeAny (model prog w) A (.call (.builtin "tuple.__new__") ⟨[.type "tuple", .ref r], []⟩) (wants Q₁ E) s := by
  refine codeAny_of_tree ?_
  show wpAny _ A.in1 (do checkBuiltinCall "tuple.__new__" ⟨[.type "tuple", .ref r], []⟩; again (.builtin "tuple.__new__" ⟨[.type "tuple", .ref r], []⟩)) _ _ s
  refine wpAny_bind (wpAny_of_eq (F.newCall_tuple_1 _) (wpAny_pure ⟨plainId_quiet F.plain_tuple_new _, codeAny_builtin F.entry_tuple_new ?_⟩))
  rw [Around.under_plainId F.plain_tuple_new _]
  have hsub := sub_tuple_self
  have hinit := init_tuple_lookup
  have hmh := madeHere_tuple
  have hTI : s.TypeIs (.ref r) T := K.type s hok
  have hh1 : A.in1.handled = none := hh
  wp_walk using wpAny_typeOf hTI, collect_src (A := A.in1) K hh1 hok hn
  intro h' tk acc hk hacc
  show wpAny _ _ (Builtin.Tuple.tupleExact acc.toList.toArray >>= fun v => ret v) _ _ _
  unfold Builtin.Tuple.tupleExact
  refine wpAny_bind (wpAny_newObj_type ?_ (by show acc.toList.toArray.size ≤ sizeLine; simp only [Array.toArray_toList]; rw [hacc.1]; exact hn))
  refine wpAny_pure ?_
  have e : acc.toList.toArray = acc := by simp
  rw [e]
  exact h h' tk acc hk hacc
theorem call_tuple_src {Q : Value → Shared → Prop} (K : KdlSrc prog w T r d n P OK) (hh : A.handled = none) (hok : OK s.heap) (hn : n ≤ sizeLine) (hT : (Value.type T == Value.type "tuple") = false)
    (hQ : ∀ (h' : Heap) (tk : Nat) (acc : Array Value), (∀ b o, s.heap.get? b = some o → h'.get? b = some o) → ItemsOf P acc n →
      Q (.ref h'.objs.size) { s with heap := h'.push { cls := .type "tuple", data := .seq acc }, toks := tk }) :
    wpAny (model prog w) A (call (.type "tuple") [.ref r]) Q E s := by
  refine callType_codes (Q₁ := fun obj s₁ => s₁.TypeIs obj "tuple" ∧ Q obj s₁) F.called_tuple (F.typeCall_tuple_1 _) F.entry_object_init
    (code_tuple_src (A := A.in1) K hh hok hn hT fun h' tk acc hk hacc => ⟨⟨_, Heap.get?_push_size _ rfl, rfl⟩, hQ h' tk acc hk hacc⟩) fun obj s₁ h₁ => ?_
  exact ⟨h₁.1, F.args_object_init_2 obj _, object_init_meets F.called_tuple.init.lookup F.called_tuple.made (by decide) prog w A.in1 _ s₁ ⟨h₁.1, rfl, h₁.2⟩⟩
end
theorem vals_snd {kvs : List (Key × V)} {vs : List (Key × Value)} (r : KV kvs vs) : Vals (kvs.map (·.2)) (vs.map (·.2)) := by
  unfold KV at r
  induction r with
  | nil => exact .nil
  | cons h _ ih => exact .cons h.2 ih
theorem items_snd {vs : List (Key × Value)} {acc : Array Value} (h : ItemsOf (fun i v => ∃ k, vs[i]? = some (k, v)) acc vs.length) : acc.toList = vs.map (·.2) :=
  kdl_vals_eq acc.toList (by rw [Array.length_toList]; exact h.1) fun j v e => h.2 j v (by rw [← Array.getElem?_toList]; exact e)
/-- what list(d.values()), tuple(d.values()) give -/
def rValsL : V → Hp → VK → Prop := fun x H Q => ∃ (d : Addr) (kvs : List (Key × V)), x = .ref d ∧ H d = some (.dK kvs) ∧ ∀ p, H p = none → Q (.ref p) (upd H p (.lst (kvs.map Prod.snd)))
def rValsT : V → Hp → VK → Prop := fun x H Q => ∃ (d : Addr) (kvs : List (Key × V)), x = .ref d ∧ H d = some (.dK kvs) ∧ ∀ p, H p = none → Q (.ref p) (upd H p (.tup (kvs.map Prod.snd)))
section
variable {X : Cx} {e : Expr} {te : TE} {p apos cpos pos : Pos}
theorem pe_listVals (hc : X.calm = true) (he : PE X e te) (hg : Gl X "list") (hm : X.mg "list" = none) (hv : bootBuiltins "list" = some (.type "list")) (hbase : attributeBase e "values" X.env (eval e X.env) = eval e X.env := by rfl) (hline : (apos.endLine == cpos.line) = true := by rfl)
    (hs : starEach [.Call (.Attribute e "values" apos) [] [] cpos] X.env = (false, eval (.Call (.Attribute e "values" apos) [] [] cpos) X.env) :: starEach [] X.env := by rfl) :
    PE X (.Call (.Name "list" p) [.Call (.Attribute e "values" apos) [] [] cpos] [] pos) (tUn rValsL te) := by
  refine ⟨fun pins s σ H Q I hq => ?_⟩
  refine wpAny_Call_Name_kw (ld_blt I hg hm hv ?_)
  refine PyProof.Rows.callWith_type1 ?_ hs rfl
  rw [hs]
  show wpAny _ _ (spliced ((false, eval (.Call (.Attribute e "values" apos) [] [] cpos) X.env) :: backTo pos (starEach [] X.env))) _ _ s
  refine Calls.spliced_cons ?_
  refine wpAny_Call_method (T := "dict") (id := "dict.values") hbase rfl hline F.plainAttrs_dict F.slot_dict_values F.type_dict_values (thn (he.run pins s σ H _ I hq) fun u s1 ⟨x, H1, I1, rx, d, kvs, ex, hd, q⟩ => ?_)
  subst ex
  obtain rfl : u = Value.ref d := rx
  obtain ⟨hz, hs0, vs, kv, hdo⟩ := I1.hok d _ hd
  obtain ⟨ep, hat⟩ := hdo.dictAt
  have lk : kvs.length = vs.length := Paired.length kv
  have I2 : Inv X pins σ H1 { s1 with heap := s1.heap.push { cls := .type "dict_values", data := .fields #[.ref d] } } := I1.kept (t' := s1.toks) fun b ob q => Heap.get?_push_of_some _ q
  refine ⟨hdo.typeIs, hdo.mapOf.noDict, ?_⟩
  show wpAny _ _ (callWith cpos (.builtin "dict.values") [.ref d] [] []) _ X.xe s1
  refine method_meetsIn F.slot_dict_values F.entry_dict_values rfl (PySem.evalArgs_none ⟨rfl, hdo.typeIs, F.args_dict_values_1 _, _, meets_dict_values (mixKind X.prog X.w) d hs0, ⟨vs, hdo⟩, ?_⟩)
  refine Calls.spliced_nil ?_
  refine kdl_call (kdl_values (knd := mixKind X.prog X.w) (kvs := vs) (ep := ep)) (I1.ok.hd hc) ⟨⟨_, Heap.get?_push_size _ rfl, rfl, rfl⟩, hat.push _⟩ (by omega) fun h' tk acc c hk hS hacc => ?_
  have ea := items_snd hacc
  refine ⟨.ref _, _, I2.laid (t' := tk) (o := .lst (kvs.map Prod.snd)) hk (Nat.le_refl _) ⟨by rw [List.length_map]; exact hz, acc.toList, c, by rw [ea]; exact vals_snd kv, by rw [Array.toArray_toList]; exact hS⟩, rfl, q _ (I2.hok.fresh (Nat.le_refl _))⟩
theorem pe_tupVals (hc : X.calm = true) (he : PE X e te) (hg : Gl X "tuple") (hm : X.mg "tuple" = none) (hv : bootBuiltins "tuple" = some (.type "tuple")) (hbase : attributeBase e "values" X.env (eval e X.env) = eval e X.env := by rfl) (hline : (apos.endLine == cpos.line) = true := by rfl)
    (hs : starEach [.Call (.Attribute e "values" apos) [] [] cpos] X.env = (false, eval (.Call (.Attribute e "values" apos) [] [] cpos) X.env) :: starEach [] X.env := by rfl) :
    PE X (.Call (.Name "tuple" p) [.Call (.Attribute e "values" apos) [] [] cpos] [] pos) (tUn rValsT te) := by
  refine ⟨fun pins s σ H Q I hq => ?_⟩
  refine wpAny_Call_Name_kw (ld_blt I hg hm hv ?_)
  refine PyProof.Rows.callWith_type1 ?_ hs rfl
  rw [hs]
  show wpAny _ _ (spliced ((false, eval (.Call (.Attribute e "values" apos) [] [] cpos) X.env) :: backTo pos (starEach [] X.env))) _ _ s
  refine Calls.spliced_cons ?_
  refine wpAny_Call_method (T := "dict") (id := "dict.values") hbase rfl hline F.plainAttrs_dict F.slot_dict_values F.type_dict_values (thn (he.run pins s σ H _ I hq) fun u s1 ⟨x, H1, I1, rx, d, kvs, ex, hd, q⟩ => ?_)
  subst ex
  obtain rfl : u = Value.ref d := rx
  obtain ⟨hz, hs0, vs, kv, hdo⟩ := I1.hok d _ hd
  obtain ⟨ep, hat⟩ := hdo.dictAt
  have lk : kvs.length = vs.length := Paired.length kv
  have I2 : Inv X pins σ H1 { s1 with heap := s1.heap.push { cls := .type "dict_values", data := .fields #[.ref d] } } := I1.kept (t' := s1.toks) fun b ob q => Heap.get?_push_of_some _ q
  refine ⟨hdo.typeIs, hdo.mapOf.noDict, ?_⟩
  show wpAny _ _ (callWith cpos (.builtin "dict.values") [.ref d] [] []) _ X.xe s1
  refine method_meetsIn F.slot_dict_values F.entry_dict_values rfl (PySem.evalArgs_none ⟨rfl, hdo.typeIs, F.args_dict_values_1 _, _, meets_dict_values (mixKind X.prog X.w) d hs0, ⟨vs, hdo⟩, ?_⟩)
  refine Calls.spliced_nil ?_
  refine call_tuple_src (kdl_values (knd := mixKind X.prog X.w) (kvs := vs) (ep := ep)) (I1.ok.hd hc) ⟨⟨_, Heap.get?_push_size _ rfl, rfl, rfl⟩, hat.push _⟩ (by omega) (by decide) fun h' tk acc hk hacc => ?_
  have ea := items_snd hacc
  have I3 : Inv X pins σ H1 { s1 with heap := h', toks := tk } := I2.kept (t' := tk) hk
  refine ⟨.ref _, _, I3.laid (t' := tk) (o := .tup (kvs.map Prod.snd)) (fun b o e => Heap.get?_push_of_some _ e) (Nat.le_refl _) ⟨by rw [List.length_map]; exact hz, acc.toList, by rw [ea]; exact vals_snd kv, ?_⟩, rfl, q _ (I3.hok.fresh (Nat.le_refl _))⟩
  rw [Array.toArray_toList]
  exact IsTup.new h' acc
end
end Rm
/-! R2 -/
set_option maxHeartbeats 2000000
/-! Rules of the machine: max(xs, default=d). -/
namespace Rm
open PySem PySem.W PySem.Spec PyProof.Rows L2
abbrev kwD (dv : Value) : List (Str × Value) := [("default", dv)]
theorem nmL : (toString "max" ++ toString ".loop" : String) = "max.loop" := by decide
section
variable {pr : Program} {wo : World} {Ar : Around} {R : Result → Shared → Prop} {it : Addr} {ft wt : List Addr} {m : Nat} {Pv : Nat → Value → Prop} {Sv : Nat → Heap → Prop} {dv : Value}
theorem maxD_go (Wk : Walks pr wo Ar.in1 it ft wt m Pv Sv) (bt : Nat → Nat → Bool) (hc : CmpOf pr wo Ar.in1 .Gt Pv bt) (Z : Addr) (hZ : Z ∉ ft) :
    ∀ (k j : Nat) (s : Shared) (vb : Value) (c : Nat), m - (j + 1) = k → j + 1 ≤ m → Sv (j + 1) s.heap → Pv (argBest bt j) vb →
    s.heap.get? Z = some { cls := .type "list", dict := none, data := .seq #[vb, vb] c, slots := #[] } →
    (∀ v h' tk, Pv (argBest bt (m - 1)) v → (∀ b o, b ∉ wt → b ≠ Z → s.heap.get? b = some o → h'.get? b = some o) → R (.ok (.ret v)) { s with heap := h', toks := tk }) →
    codeAny (model pr wo) Ar (.builtin "max.loop" ⟨[.ref it, .none, .ref Z], kwD dv⟩) R s := by
  have hZw : Z ∉ wt := fun z => hZ (Wk.sub _ z)
  intro k
  induction k with
  | zero =>
    intro j s vb c hk hj hs hb hh hR
    have hjm : j + 1 = m := by omega
    refine codeAny_builtin F.entry_max_loop ?_; rw [Around.under_plainId F.plain_max_loop _]
    show wpAny _ Ar.in1 (seqItems? (.ref Z) >>= _) _ _ s
    refine wpAny_bind (wpAny_seqItems hh rfl ?_)
    show wpAny _ Ar.in1 (tryCatch (pyNext (.ref it)) _ >>= _) _ _ s
    refine wpAny_bind (wpAny_tryCatch (Wk.done s _ _ (hjm ▸ hs) fun h1 tk q1 => ?_))
    have hh1 := q1 Z _ hZw hh
    show wpAny _ Ar.in1 (updateSeq Z (fun _ => #[]) >>= _) _ _ _
    refine wpAny_bind (wpAny_updateSeq hh1 rfl (wpAny_bind (wpAny_letGo (wpAny_pure ?_))))
    exact hR vb _ tk (by rw [← hjm]; exact hb) fun b o w1 w2 e => (Heap.get?_update_other _ _ (Ne.symm w2)).trans (q1 b o w1 e)
  | succ k ih =>
    intro j s vb c hk hj hs hb hh hR
    have hlt : j + 1 < m := by omega
    refine codeAny_builtin F.entry_max_loop ?_; rw [Around.under_plainId F.plain_max_loop _]
    show wpAny _ Ar.in1 (seqItems? (.ref Z) >>= _) _ _ s
    refine wpAny_bind (wpAny_seqItems hh rfl ?_)
    show wpAny _ Ar.in1 (tryCatch (pyNext (.ref it)) _ >>= _) _ _ s
    refine wpAny_bind (wpAny_tryCatch (Wk.item (j + 1) s _ _ hlt hs fun v h1 tk q0 hs1 q1 => ?_))
    have hh1 := q1 Z _ hZw hh
    show wpAny _ Ar.in1 (tryCatch (holding [v, v] (richCompare .Gt v vb >>= _)) _ >>= _) _ _ _
    refine wpAny_bind (wpAny_tryCatch (wpAny_holding (wpAny_bind (hc (j + 1) (argBest bt j) v vb _ _ _ q0 hb ?_))))
    refine wpAny_bind (wpAny_holding (wpAny_truthy_bool (wpAny_bind (wpAny_letGo (wpAny_pure ?_)))))
    cases hbt : bt (j + 1) (argBest bt j) with
    | true =>
      simp only [if_true]
      refine wpAny_bind (wpAny_updateSeq hh1 rfl (wpAny_bind (wpAny_letGo ?_))); rw [nmL]
      refine wpAny_pure ⟨plainId_quiet F.plain_max_loop _, ih (j + 1) _ v _ (by omega) hlt (Wk.frame _ _ _ hs1 fun b hf o e => (Heap.get?_update_other _ _ (fun z : Z = b => hZ (by rw [z]; exact hf))).trans e) (by simp only [argBest, hbt, if_true]; exact q0) (Heap.get?_update_self _ hh1 rfl)
        fun v2 h2 tk2 p2 q2 => hR v2 h2 tk2 p2 fun b o w1 w2 e => q2 b o w1 w2 ((Heap.get?_update_other _ _ (Ne.symm w2)).trans (q1 b o w1 e))⟩
    | false =>
      simp only [Bool.false_eq_true, if_false]
      refine wpAny_bind (wpAny_letGo ?_); rw [nmL]
      refine wpAny_pure ⟨plainId_quiet F.plain_max_loop _, ih (j + 1) _ vb c (by omega) hlt hs1 (by simp only [argBest, hbt, Bool.false_eq_true, if_false]; exact hb) hh1 fun v2 h2 tk2 p2 q2 => hR v2 h2 tk2 p2 fun b o w1 w2 e => q2 b o w1 w2 (q1 b o w1 e)⟩
theorem maxD_first (Wk : Walks pr wo Ar.in1 it ft wt m Pv Sv) (bt : Nat → Nat → Bool) (hc : CmpOf pr wo Ar.in1 .Gt Pv bt) (Z : Addr) (hZ : Z ∉ ft) {s : Shared} {c : Nat} (hs : Sv 0 s.heap)
    (hh : s.heap.get? Z = some { cls := .type "list", dict := none, data := .seq #[] c, slots := #[] })
    (hR : 0 < m → ∀ v h' tk, Pv (argBest bt (m - 1)) v → (∀ b o, b ∉ wt → b ≠ Z → s.heap.get? b = some o → h'.get? b = some o) → R (.ok (.ret v)) { s with heap := h', toks := tk })
    (hE : m = 0 → ∀ h' tk, (∀ b o, b ∉ wt → b ≠ Z → s.heap.get? b = some o → h'.get? b = some o) → R (.ok (.ret dv)) { s with heap := h', toks := tk }) :
    codeAny (model pr wo) Ar (.builtin "max.loop" ⟨[.ref it, .none, .ref Z], kwD dv⟩) R s := by
  have hZw : Z ∉ wt := fun z => hZ (Wk.sub _ z)
  refine codeAny_builtin F.entry_max_loop ?_; rw [Around.under_plainId F.plain_max_loop _]
  show wpAny _ Ar.in1 (seqItems? (.ref Z) >>= _) _ _ s
  refine wpAny_bind (wpAny_seqItems hh rfl ?_)
  show wpAny _ Ar.in1 (tryCatch (pyNext (.ref it)) _ >>= _) _ _ s
  rcases Nat.eq_zero_or_pos m with h0 | h0
  · refine wpAny_bind (wpAny_tryCatch (Wk.done s _ _ (h0 ▸ hs) fun h1 tk q1 => ?_))
    refine wpAny_bind (wpAny_rule (wpAny_pure ?_))
    exact hE h0 h1 tk fun b o w1 _ e => q1 b o w1 e
  · refine wpAny_bind (wpAny_tryCatch (Wk.item 0 s _ _ h0 hs fun v h1 tk q0 hs1 q1 => ?_))
    have hh1 := q1 Z _ hZw hh
    show wpAny _ Ar.in1 (updateSeq Z (fun _ => #[v, v]) >>= _) _ _ _
    refine wpAny_bind (wpAny_updateSeq hh1 rfl ?_); rw [nmL]
    refine wpAny_pure ⟨plainId_quiet F.plain_max_loop _, maxD_go Wk bt hc Z hZ _ 0 _ v _ rfl h0 (Wk.frame _ _ _ hs1 fun b hf o e => (Heap.get?_update_other _ _ (fun z : Z = b => hZ (by rw [z]; exact hf))).trans e) q0 (Heap.get?_update_self _ hh1 rfl)
      fun v2 h2 tk2 p2 q2 => hR h0 v2 h2 tk2 p2 fun b o w1 w2 e => q2 b o w1 w2 ((Heap.get?_update_other _ _ (Ne.symm w2)).trans (q1 b o w1 e))⟩
end
section
variable {pr : Program} {wo : World} {Ar : Around} {E : Value → Shared → Prop} {s : Shared}
theorem args_maxD (a d : Value) : argsOk "max" ⟨[a], [(Str.ofString "default", d)]⟩ := by unfold argsOk; kernel_rfl
theorem maxD_ints {Q : Value → Shared → Prop} {l : Addr} {xs : Array (Int × Tok)} {dv : Value} (ha : Ar.handled = none) (hl : s.heap.IsList l (intItems xs))
    (h1 : 0 < xs.size → ∀ v h' tk, (intItems xs)[argBest (fun i j => decide (numAt xs i > numAt xs j)) (xs.size - 1)]? = some v → (∀ b o, s.heap.get? b = some o → h'.get? b = some o) → Q v { s with heap := h', toks := tk })
    (h2 : xs.size = 0 → ∀ h' tk, (∀ b o, s.heap.get? b = some o → h'.get? b = some o) → Q dv { s with heap := h', toks := tk }) :
    wpAny (model pr wo) Ar (call (.builtin "max") [.ref l] [(Str.ofString "default", dv)]) Q E s := by
  refine PyProof.Rows.kmk_tree F.kind_max F.plain_max F.entry_max (args_maxD _ _) ?_
  show wpAny _ Ar.in1 (Builtin.Builtins.bindParams "max" ["key", "default"] 0 ⟨[], [(Str.ofString "default", dv)]⟩ >>= _) _ _ s
  refine wpAny_bind (wpAny_of_eq (show Builtin.Builtins.bindParams "max" ["key", "default"] 0 ⟨[], [(Str.ofString "default", dv)]⟩ = pure [none, some dv] from rfl) ?_)
  refine wpAny_bind (wpAny_pure (wpAny_bind (iter_intList hl fun s₂ e st hfp hlI => ?_)))
  subst e
  refine wpAny_bind (wpAny_newObj_type ?_); rw [nmL]
  refine wpAny_pure ⟨plainId_quiet F.plain_max_loop _, maxD_first (Walks.list (A := Ar.in1) ha _ l hlI (intItems xs)) (fun i j => decide (numAt xs i > numAt xs j)) (CmpOf.ints_gt (numAt xs) (fun _ _ => intItems_at)) _ (fun hm => Nat.lt_irrefl _ (hfp _ hm)) ?_ (Heap.get?_push_size _ rfl) (fun h0 v h' tk p q => ?_) (fun h0 h' tk q => ?_)⟩
  · exact (Walks.list (prog := pr) (w := wo) (A := Ar.in1) ha _ l hlI (intItems xs)).frame _ _ _ st fun b _ o e => Heap.get?_push_of_some _ e
  · have h0' : 0 < xs.size := by simpa [intItems] using h0
    exact h1 h0' v h' tk (by simpa [intItems] using p) (old_kept fun b o w1 e => q b o w1 (Nat.ne_of_lt (Heap.lt_size e)) (Heap.get?_push_of_some _ e))
  · have h0' : xs.size = 0 := by simpa [intItems] using h0
    exact h2 h0' h' tk (old_kept fun b o w1 e => q b o w1 (Nat.ne_of_lt (Heap.lt_size e)) (Heap.get?_push_of_some _ e))
end
/-- max(xs, default=d) of ints -/
def rMaxDf (K : PySem.W.Frag) : List V → List V → Hp → VK → Prop := fun vs zs H Q => ∃ (a : Addr) (ns : List Int) (d : V), vs = [V.ref a] ∧ zs = [d] ∧ SqL K H a (ns.map V.int) ∧ (ns = [] → Q d H) ∧ (ns ≠ [] → ∀ m, m ∈ ns → (∀ y, y ∈ ns → y ≤ m) → Q (.int m) H)
theorem cr_maxDf {X : Cx} (hc : X.calm = true) : CallRK X (.builtin "max") [Str.ofString "default"] (rMaxDf X.K) := by
  intro pins s σ H vs zs us ws Q I r rz h
  obtain ⟨a, ns, d, rfl, rfl, hs, q0, q1⟩ := h
  obtain ⟨its, rv, hl, _⟩ := I.list hs
  obtain rfl := Vals.ref1 r
  obtain ⟨w1, rfl, e1⟩ := vals1 rz
  have hi := rv.ints
  obtain ⟨xs, e⟩ := hi.allInts.items
  have hn : numsOf (intItems xs).toList = ns := by rw [← e]; exact hi.numsOf
  rw [nums_intItems] at hn
  subst hn
  have hl2 := hl.isList
  rw [e] at hl2
  refine maxD_ints (I.ok.hd hc) hl2 (fun h0 v h' tk hv hk => ?_) (fun h0 h' tk hk => ?_)
  · obtain ⟨t, rfl⟩ := intItems_at hv
    obtain ⟨b1, b2⟩ := argBest_gt (numAt xs) (xs.size - 1)
    refine ⟨.int _, H, I.kept hk, ⟨_, rfl⟩, q1 (fun z => ?_) _ ?_ fun a ha => ?_⟩
    · have := congrArg List.length z
      rw [List.length_map, Array.length_toList, List.length_nil] at this
      omega
    · rw [numAt_eq]; exact PySem.getD_mem (by rw [List.length_map, Array.length_toList]; omega)
    · obtain ⟨j, hj, rfl⟩ := mem_getD ha
      rw [List.length_map, Array.length_toList] at hj
      rw [← numAt_eq]; exact b2 j (by omega)
  · refine ⟨d, H, I.kept hk, e1, q0 ?_⟩
    apply List.eq_nil_of_length_eq_zero
    simp [h0]
end Rm
/-! R3 -/
set_option maxHeartbeats 4000000
/-! Rules of the machine: set(xs) of a list of ints. -/
namespace Rm
open PySem PySem.W PySem.Spec PyProof.Rows L2
/-- a set as it is made -/
abbrev nSet (wo : World) : Obj := { cls := .type "set", dict := none, data := .set #[] 0 (.fresh 0 0 (!wo.params.followText "set-order")) }
section
variable {pr : Program} {wo : World} {Ar : Around} {Er : Value → Shared → Prop} {s : Shared}
theorem init_list {lo : Addr} {its : Array Value} {ns : List Int} {Q2 : Value → Shared → Prop} (ha : Ar.handled = none) (hl : s.heap.IsList lo its) (hv : IntsAre its.toList ns) (hb : ns.length + 1 < scanBound)
    (hQ : ∀ h' tk c, SetR wo h' s.heap.objs.size (fun j => decide (j ∈ ns)) c → c ≤ ns.length → (∀ b o, s.heap.get? b = some o → h'.get? b = some o) → Q2 .none { s with heap := h', toks := tk }) :
    wpAny (model pr wo) Ar.in1.in1 (Builtin.«set.__init__» ⟨[.ref s.heap.objs.size, .ref lo], []⟩)
      (fun fin s' => match fin with
        | .done f => wants Q2 Er (.ok f) s'
        | .again c' => c'.quiet = true ∧ codeAny (model pr wo) Ar.in1 c' (wants Q2 Er) s')
      (fun e s' => wants Q2 Er (.error e) s') { s with heap := s.heap.push (nSet wo) } := by
  have hz : its.size = ns.length := by have q := IntsAre.length hv; rw [Array.length_toList] at q; exact q
  have hS : (s.heap.push (nSet wo)).get? s.heap.objs.size = some (nSet wo) := Heap.get?_push_size _ rfl
  have hT : Shared.TypeIs { s with heap := s.heap.push (nSet wo) } (.ref s.heap.objs.size) "set" := ⟨_, hS, rfl⟩
  obtain ⟨ol, hol, hcl, nl, hdl⟩ := hl
  obtain ⟨oc, od, odt, osl⟩ := ol
  simp only at hcl hdl; subst hcl; subst hdl
  have hol2 : (s.heap.push (nSet wo)).get? lo = some { cls := .type "list", dict := od, data := .seq its nl, slots := osl } := Heap.get?_push_of_some _ hol
  have hs1 := F.sub_list_set; have hs2 := F.sub_list_frozenset
  have hne : (Value.type "list" == Value.type "dict") = false := by decide
  have hl1 : (s.heap.push (nSet wo)).IsList lo its := ⟨_, hol2, rfl, nl, rfl⟩
  have hlS : lo < s.heap.objs.size := Heap.lt_size hol
  unfold Builtin.«set.__init__» noKeywords Builtin.Frozenset.updateFrom; generalize hPI : pyIter = PI
  wp_walk
  subst hPI
  refine wpAny_pyIter_list hl1 (wpAny_bind (wpAny_runValue ?_))
  have hh3 : Ar.in1.in1.in1.handled = none := by simp [ha]
  have hnI : lo ≠ (s.heap.push (nSet wo)).objs.size := by rw [Heap.size_push]; exact Nat.ne_of_lt (Nat.lt_succ_of_lt hlS)
  have hSf : s.heap.objs.size ∉ [(s.heap.push (nSet wo)).objs.size, lo] := by
    rw [Heap.size_push]; simp only [List.mem_cons, List.not_mem_nil, or_false, not_or]; exact ⟨Nat.ne_of_lt (Nat.lt_succ_self _), Nat.ne_of_gt hlS⟩
  have hval : ∀ (i : Nat) (v : Value), its[i]? = some v → ∃ k t, ns[i]? = some k ∧ v = .int k t := fun i v q => by
    have hi : i < ns.length := by rw [← hz]; exact (Array.getElem?_eq_some_iff.mp q).1
    obtain ⟨t, e⟩ := PyProof.Rows.IntsAre.int_at hv i v (by rw [Array.getElem?_toList]; exact q)
    exact ⟨ns[i], t, List.getElem?_eq_getElem hi, by rw [e, List.getD_eq_getElem?_getD, List.getElem?_eq_getElem hi] <;> rfl⟩
  refine set_update_ints ((Walks.list hh3 _ lo hnI its).toS) s.heap.objs.size hSf ns hz hb hval (its.size - 0) 0 _ (by omega) (Nat.zero_le _) ⟨⟨_, Heap.get?_push_size _ rfl, rfl, rfl⟩, (hl1.push _)⟩ ⟨0, Nat.le_refl 0, setR_new_at (Heap.get?_push_of_some _ hS)⟩ fun s' c' hm hc' hS' => ?_
  obtain ⟨h', g2, d2, tk', os'⟩ := s'
  have eg : g2 = s.gens := hm.gens
  have ed : d2 = s.drawn := hm.drawn
  have eo : os' = s.os := hm.os
  subst eg; subst ed; subst eo
  rw [hz] at hc'
  refine wpAny_pure (wpAny_pure (hQ h' tk' c' hS' hc' fun b o e => hm.heap b o ?_ (Heap.get?_push_of_some _ (Heap.get?_push_of_some _ e))))
  have hb0 : b < s.heap.objs.size := Heap.lt_size e
  simp only [List.mem_cons, List.not_mem_nil, or_false, not_or]
  exact ⟨Nat.ne_of_lt hb0, by rw [Heap.size_push]; exact Nat.ne_of_lt (Nat.lt_succ_of_lt hb0)⟩
theorem set_list {lo : Addr} {its : Array Value} (ns : List Int) {Q : Value → Shared → Prop} (ha : Ar.handled = none) (hl : s.heap.IsList lo its) (hv : IntsAre its.toList ns) (hb : ns.length + 1 < scanBound)
    (h : ∀ (h' : Heap) (tk c : Nat), SetR wo h' s.heap.objs.size (fun j => decide (j ∈ ns)) c → c ≤ ns.length → (∀ b o, s.heap.get? b = some o → h'.get? b = some o) → Q (.ref s.heap.objs.size) { s with heap := h', toks := tk }) :
    wpAny (model pr wo) Ar (call (.type "set") [.ref lo]) Q Er s := by
  obtain ⟨c, tl, hmro⟩ := F.called_set.mro
  have hmade := F.called_set.made; have hsub := F.called_set.sub
  refine wpAny_call (codeAny_of_tree ?_)
  show wpAny _ _ (callAny (.type "set") _) _ _ _
  refine wpAny_pure ⟨Code.quiet_builtin _ (by decide +kernel), codeAny_builtin F.entry_type_call ?_⟩
  rw [Around.under_plain (weight_type_call_type "set" [.ref lo] []) rfl]
  have h1 := F.called_set.notType; have h2 := F.called_set.canCreate; have hct := F.typeCall_set_1 (.ref lo)
  repeat (any_goals (first | assumption | wp_step))
  refine codeAny_mono (code_set_led1 (.ref lo) (E := Er) (Q₁ := fun obj s₁ => obj = .ref s.heap.objs.size ∧ s₁ = { s with heap := s.heap.push (nSet wo) }) ⟨rfl, rfl⟩) fun r s₁ hr => ?_
  cases r with
  | error e => exact hr
  | ok fl =>
    cases fl with
    | ret obj =>
      obtain ⟨rfl, rfl⟩ := hr
      have hT : Shared.TypeIs { s with heap := s.heap.push (nSet wo) } (.ref s.heap.objs.size) "set" := ⟨_, Heap.get?_push_size _ rfl, rfl⟩
      have hli := F.called_set.init.lookup; have hbi := F.called_set.init.bind (.ref s.heap.objs.size)
      repeat (any_goals (first | assumption | wp_step))
      refine codeAny_mono (codeAny_call_builtin (R := wants (fun r s₂ => r = .none ∧ Q (.ref s.heap.objs.size) s₂) Er) F.called_set.init.plain F.entry_set_init (check_set_init_1 hT (init_list ha hl hv hb fun h' tk c q1 q2 q3 => ⟨rfl, h h' tk c q1 q2 q3⟩))) fun r₂ s₂ hr₂ => ?_
      cases r₂ with
      | error e => exact hr₂
      | ok fl₂ =>
        cases fl₂ with
        | ret r =>
          obtain ⟨rfl, hr₂⟩ := hr₂
          repeat (any_goals (first | assumption | wp_step))
        | _ => exact hr₂.elim
    | _ => exact hr.elim
end
/-- set(xs) of a list of ints -/
def rSetL (K : PySem.W.Frag) (wo : World) : List V → Hp → VK → Prop := fun xs H Q => ∃ (l : Addr) (ns : List Int), xs = [V.ref l] ∧ SqL K H l (ns.map V.int) ∧ ns.length ≤ 4000 ∧ ∀ p c, H p = none → c ≤ ns.length → Q (.ref p) (upd H p (SetO wo p (fun j => decide (j ∈ ns)) c))
theorem cr_setL {X : Cx} (hc : X.calm = true) : CallR X (.type "set") (rSetL X.K X.w) := by
  intro pins s σ H vs us Q I r h
  obtain ⟨a, ns, rfl, hs, hn, q⟩ := h
  obtain ⟨its, rv, hl, _⟩ := I.list hs
  rw [Vals.ref1 r]
  refine set_list ns (I.ok.hd hc) hl.isList rv.ints (by unfold scanBound; omega) fun h' tk c hS hc' hk => ?_
  exact ⟨.ref _, _, I.laid (t' := tk) hk (Nat.le_refl _) (setO_new hS), rfl, q _ c (I.hok.fresh (Nat.le_refl _)) hc'⟩
/-- sorted(set(xs)) -/
def rSortSet (K : PySem.W.Frag) (wo : World) : V → Hp → VK → Prop := fun x H Q => rSetL K wo [x] H fun y H2 => rSortedSet wo [y] H2 Q
theorem pe_sortSet {X : Cx} {e : Expr} {te : TE} {p1 p2 q1 q2 : Pos} (hc : X.calm = true) (hg : Gl X "sorted") (hm : X.mg "sorted" = none) (hg2 : Gl X "set") (hm2 : X.mg "set" = none) (he : PE X e te)
    (hs : starEach [e] X.env = (false, eval e X.env) :: starEach [] X.env := by rfl) (hs2 : starEach [.Call (.Name "set" p2) [e] [] q2] X.env = (false, eval (.Call (.Name "set" p2) [e] [] q2) X.env) :: starEach [] X.env := by rfl) :
    PE X (.Call (.Name "sorted" p1) [.Call (.Name "set" p2) [e] [] q2] [] q1) (tUn (rSortSet X.K X.w) te) := by
  have h1 := pe_callTy (X := X) (x := "set") (p := p2) (pos := q2) (cr_setL hc) hg2 hm2 (by decide +kernel) (pa_cons he pa_nil hs) (by decide) (by decide) hs
  exact pe_callB (X := X) (x := "sorted") (p := p1) (pos := q1) (cr_sortedSet hc) hg hm (by decide +kernel) (pa_cons h1 pa_nil hs2) (by decide) (by decide) hs2
end Rm
/-! F30 -/
/-! Operations of sequences of ints; copies; in. -/
namespace Fs
open PySem PySem.Spec PyProof.Rows L2
/-! sorted lists of ints -/
def insU (x : Int) : List Int → List Int
  | [] => [x]
  | y :: ys => if x < y then x :: y :: ys else if x = y then y :: ys else y :: insU x ys
def sset (ns : List Int) : List Int := ns.foldr insU []
def insD (x : Int) : List Int → List Int
  | [] => [x]
  | y :: ys => if x ≤ y then x :: y :: ys else y :: insD x ys
def isrt (ns : List Int) : List Int := ns.foldr insD []
theorem mem_insU {x z : Int} : ∀ {ys : List Int}, z ∈ insU x ys ↔ z = x ∨ z ∈ ys
  | [] => by simp [insU]
  | y :: ys => by
    unfold insU
    split
    · simp
    · split
      · rename_i h; subst h; simp
      · simp only [List.mem_cons, mem_insU (ys := ys)]
        constructor
        · rintro (h | h | h)
          · exact .inr (.inl h)
          · exact .inl h
          · exact .inr (.inr h)
        · rintro (h | h | h)
          · exact .inr (.inl h)
          · exact .inl h
          · exact .inr (.inr h)
theorem insU_rising {x : Int} : ∀ {ys : List Int}, ys.Pairwise (· < ·) → (insU x ys).Pairwise (· < ·)
  | [], _ => by simp [insU]
  | y :: ys, h => by
    have h' := List.pairwise_cons.mp h
    unfold insU
    split
    · rename_i hlt
      refine List.pairwise_cons.mpr ⟨fun a ha => ?_, h⟩
      rcases List.mem_cons.mp ha with rfl | ha
      · exact hlt
      · exact Int.lt_trans hlt (h'.1 a ha)
    · split
      · exact h
      · rename_i h1 h2
        refine List.pairwise_cons.mpr ⟨fun a ha => ?_, insU_rising h'.2⟩
        rcases mem_insU.mp ha with rfl | ha
        · omega
        · exact h'.1 a ha
theorem mem_sset {z : Int} : ∀ {ns : List Int}, z ∈ sset ns ↔ z ∈ ns
  | [] => by simp [sset]
  | n :: ns => by
    show z ∈ insU n (sset ns) ↔ _
    rw [mem_insU, mem_sset, List.mem_cons]
theorem sset_rising : ∀ (ns : List Int), (sset ns).Pairwise (· < ·)
  | [] => .nil
  | n :: ns => insU_rising (sset_rising ns)
theorem rising_eq : ∀ {xs ys : List Int}, xs.Pairwise (· < ·) → ys.Pairwise (· < ·) → (∀ z, z ∈ xs ↔ z ∈ ys) → xs = ys
  | [], [], _, _, _ => rfl
  | [], y :: ys, _, _, h => by have := (h y).mpr List.mem_cons_self; cases this
  | x :: xs, [], _, _, h => by have := (h x).mp List.mem_cons_self; cases this
  | x :: xs, y :: ys, hx, hy, h => by
    have hx' := List.pairwise_cons.mp hx
    have hy' := List.pairwise_cons.mp hy
    have e : x = y := by
      have h1 := List.mem_cons.mp ((h x).mp List.mem_cons_self)
      have h2 := List.mem_cons.mp ((h y).mpr List.mem_cons_self)
      rcases h1 with h1 | h1
      · exact h1
      · rcases h2 with h2 | h2
        · exact h2.symm
        · have a := hy'.1 x h1
          have b := hx'.1 y h2
          omega
    subst e
    rw [rising_eq hx'.2 hy'.2 fun z => ?_]
    constructor
    · intro hz
      have h1 := List.mem_cons.mp ((h z).mp (List.mem_cons_of_mem _ hz))
      rcases h1 with h1 | h1
      · have := hx'.1 z hz; omega
      · exact h1
    · intro hz
      have h1 := List.mem_cons.mp ((h z).mpr (List.mem_cons_of_mem _ hz))
      rcases h1 with h1 | h1
      · have := hy'.1 z hz; omega
      · exact h1
theorem insD_perm {x : Int} : ∀ {ys : List Int}, (insD x ys).Perm (x :: ys)
  | [] => .refl _
  | y :: ys => by
    unfold insD
    split
    · exact .refl _
    · exact ((insD_perm (ys := ys)).cons y).trans (.swap x y ys)
theorem isrt_perm : ∀ (ns : List Int), (isrt ns).Perm ns
  | [] => .refl _
  | n :: ns => insD_perm.trans ((isrt_perm ns).cons n)
theorem insD_sorted {x : Int} : ∀ {ys : List Int}, ys.Pairwise (· ≤ ·) → (insD x ys).Pairwise (· ≤ ·)
  | [], _ => by simp [insD]
  | y :: ys, h => by
    have h' := List.pairwise_cons.mp h
    unfold insD
    split
    · rename_i hle
      refine List.pairwise_cons.mpr ⟨fun a ha => ?_, h⟩
      rcases List.mem_cons.mp ha with rfl | ha
      · exact hle
      · exact Int.le_trans hle (h'.1 a ha)
    · refine List.pairwise_cons.mpr ⟨fun a ha => ?_, insD_sorted h'.2⟩
      rcases List.mem_cons.mp (insD_perm.mem_iff.mp ha) with rfl | ha
      · omega
      · exact h'.1 a ha
theorem isrt_sorted : ∀ (ns : List Int), (isrt ns).Pairwise (· ≤ ·)
  | [] => .nil
  | n :: ns => insD_sorted (isrt_sorted ns)
theorem sorted_eq : ∀ {xs ys : List Int}, xs.Pairwise (· ≤ ·) → ys.Pairwise (· ≤ ·) → xs.Perm ys → xs = ys
  | [], ys, _, _, h => (List.nil_perm.mp h).symm
  | x :: xs, [], _, _, h => by have := h.length_eq; simp at this
  | x :: xs, y :: ys, hx, hy, h => by
    have hx' := List.pairwise_cons.mp hx
    have hy' := List.pairwise_cons.mp hy
    have e : x = y := by
      have h1 := List.mem_cons.mp (h.mem_iff.mp (List.mem_cons_self (a := x) (l := xs)))
      have h2 := List.mem_cons.mp (h.mem_iff.mpr (List.mem_cons_self (a := y) (l := ys)))
      rcases h1 with h1 | h1
      · exact h1
      · rcases h2 with h2 | h2
        · exact h2.symm
        · have a := hy'.1 x h1
          have b := hx'.1 y h2
          omega
    subst e
    rw [sorted_eq hx'.2 hy'.2 ((List.perm_cons x).mp h)]
/-- the greatest, the least -/
def maxI : List Int → Option Int
  | [] => none
  | n :: ns => match maxI ns with
    | none => some n
    | some m => some (if n ≤ m then m else n)
def minI : List Int → Option Int
  | [] => none
  | n :: ns => match minI ns with
    | none => some n
    | some m => some (if m ≤ n then m else n)
theorem maxI_none : ∀ {ns : List Int}, maxI ns = none → ns = []
  | [], _ => rfl
  | n :: ns, h => by unfold maxI at h; split at h <;> cases h
theorem minI_none : ∀ {ns : List Int}, minI ns = none → ns = []
  | [], _ => rfl
  | n :: ns, h => by unfold minI at h; split at h <;> cases h
theorem maxI_ok : ∀ {ns : List Int} {m : Int}, maxI ns = some m → m ∈ ns ∧ ∀ y ∈ ns, y ≤ m
  | [], m, h => by cases h
  | n :: ns, m, h => by
    unfold maxI at h
    split at h
    · rename_i e
      cases h
      have := maxI_none e
      subst this
      simp
    · rename_i m' e
      cases h
      have ih := maxI_ok e
      split
      · rename_i hle
        exact ⟨List.mem_cons_of_mem _ ih.1, fun y hy => by rcases List.mem_cons.mp hy with rfl | hy; exact hle; exact ih.2 y hy⟩
      · exact ⟨List.mem_cons_self, fun y hy => by rcases List.mem_cons.mp hy with rfl | hy; omega; have := ih.2 y hy; omega⟩
theorem minI_ok : ∀ {ns : List Int} {m : Int}, minI ns = some m → m ∈ ns ∧ ∀ y ∈ ns, m ≤ y
  | [], m, h => by cases h
  | n :: ns, m, h => by
    unfold minI at h
    split at h
    · rename_i e
      cases h
      have := minI_none e
      subst this
      simp
    · rename_i m' e
      cases h
      have ih := minI_ok e
      split
      · rename_i hle
        exact ⟨List.mem_cons_of_mem _ ih.1, fun y hy => by rcases List.mem_cons.mp hy with rfl | hy; exact hle; exact ih.2 y hy⟩
      · exact ⟨List.mem_cons_self, fun y hy => by rcases List.mem_cons.mp hy with rfl | hy; omega; have := ih.2 y hy; omega⟩
section
variable {cl : Ec} {xf : Nat → List Str} {W : WX} {ws : Nat → Bool} {A A' L L' B : Addr → Prop} {H H' : Hp} {δ δ' : Sl} {σ σ' : L2.St} {p q b : Bool} {te ta tb tc : TE} {tA : TA} {tt tu : TT} {t u : TS} {ts : List D} {vs : List V}
variable {X : Cx} {e a c o : Expr} {es : List Expr} {pos pp p2 apos : Pos}
/-- ints -/
def intsD : List D → Option (List Int)
  | [] => some []
  | .v (.int i) :: ds => (intsD ds).map fun ns => i :: ns
  | _ => none
theorem intsD_ok : ∀ {ds : List D} {vs : List V} {fp : List Addr} {ns : List Int}, Rps cl A L H b ds vs fp → intsD ds = some ns → vs = ns.map V.int
  | [], vs, fp, ns, h, e => by
    cases e
    simp only [Rps] at h
    rw [h.1]; rfl
  | d :: ds, vs, fp, ns, h, e => by
    unfold intsD at e
    split at e
    · rename_i he; cases he
    · rename_i i ds' he
      cases he
      obtain ⟨ns', e1, rfl⟩ := Option.map_eq_some_iff.mp e
      simp only [Rps] at h
      obtain ⟨v, vs', f1, f2, rfl, rfl, h3, h4⟩ := h
      obtain ⟨rfl, _, _⟩ := h3.leafv
      rw [intsD_ok h4 e1]; rfl
    · cases e
def seqI (x : D) : Option (List Int) := (seqL x).bind intsD
theorem Rp.seqI {x : D} {v : V} {fp : List Addr} {ns : List Int} (h : Rp cl A L H true x v fp) (e : Fs.seqI x = some ns) : ∃ a, v = .ref a ∧ SqL cl.K H a (ns.map V.int) := by
  unfold Fs.seqI at e
  obtain ⟨ds, e1, e2⟩ := Option.bind_eq_some_iff.mp e
  obtain ⟨a, vs, fp', rfl, h2, h3⟩ := h.seqL e1
  exact ⟨a, rfl, by rw [← intsD_ok h3 e2]; exact h2⟩
theorem NA.one {r : V → Hp → VK → Prop} {f : D → Option D} (h : ∀ A L H x u fp z, (∀ a, A a → H a ≠ none) → Rp cl A L H true x u fp → f x = some z → NAlt cl A L H (r u H) z) : NA cl (rL1 r) (f1 f) := by
  intro A L H xs us z ad hr e
  unfold f1 at e
  split at e
  · obtain ⟨u, fp, rfl, h1⟩ := hr.one
    exact h A L H _ u fp z ad h1 e
  · cases e
theorem NA.two {r : R2} {f : D → D → Option D} (h : ∀ A L H x y u w fp gp z, (∀ a, A a → H a ≠ none) → Rp cl A L H true x u fp → Rp cl A L H true y w gp → f x y = some z → NAlt cl A L H (r u w H) z) : NA cl (rL2 r) (f2 f) := by
  intro A L H xs us z ad hr e
  unfold f2 at e
  split at e
  · obtain ⟨u, w, fp, gp, rfl, h1, h2⟩ := hr.two
    exact h A L H _ _ u w fp gp z ad h1 h2 e
  · cases e
theorem NAlt.sc {s : V} {r : VK → Prop} (hs : sc s = true) (h : ∀ Q : VK, Q s H → r Q) : NAlt cl A L H r (.v s) := .inl ⟨s, rfl, hs, h⟩
theorem NAlt.new {k : Kd} {w : Fl} {ds : List D} {vs : List V} {fp : List Addr} {o : HO} {r : VK → Prop} (hw : w = .own ∨ w = .shr) (hk : ds.all D.kept = true) (hr : Rps cl A L H true ds vs fp) (hs : Shape cl k vs o) (h : ∀ Q : VK, (∀ p0, H p0 = none → Q (.ref p0) (upd H p0 o)) → r Q) : NAlt cl A L H r (.n k w ds) := .inr (.inl ⟨k, w, ds, vs, fp, o, rfl, hw, hk, hr, hs, h⟩)
theorem NAlt.old {z : D} {u : V} {fp : List Addr} {r : VK → Prop} (hk : z.kept = true) (hr : Rp cl A L H true z u fp) (h : ∀ Q : VK, Q u H → r Q) : NAlt cl A L H r z := .inr (.inr ⟨u, fp, hk, hr, h⟩)
/-! sums, greatest, least -/
def sumD (x : D) : Option D := (seqI x).map fun ns => .int ns.sum
theorem na_sum : NA cl (rSum cl.K) (f1 sumD) := by
  have h : NA cl (rL1 fun x H Q => rSum cl.K [x] H Q) (f1 sumD) := NA.one fun A L H x u fp z ad h e => by
    obtain ⟨ns, e1, rfl⟩ := Option.map_eq_some_iff.mp e
    obtain ⟨a, rfl, h2⟩ := h.seqI e1
    exact .sc rfl fun Q q => ⟨a, ns, rfl, h2, q⟩
  intro A L H xs us z ad hr e
  have h2 := h A L H xs us z ad hr e
  match us, h2 with
  | [u], h2 => exact h2
  | [], h2 => exact h2.imp fun _ z => z.elim
  | _ :: _ :: _, h2 => exact h2.imp fun _ z => z.elim
def maxLD (x : D) : Option D := (seqI x).bind fun ns => (maxI ns).map D.int
def minLD (x : D) : Option D := (seqI x).bind fun ns => (minI ns).map D.int
def rMax1 (K : PySem.W.Frag) : V → Hp → VK → Prop := fun x H Q => rMax K [x] H Q
def rMin1 (K : PySem.W.Frag) : V → Hp → VK → Prop := fun x H Q => rMin K [x] H Q
theorem na_maxL : NA cl (rL1 (rMax1 cl.K)) (f1 maxLD) := NA.one fun A L H x u fp z ad h e => by
  obtain ⟨ns, e1, e2⟩ := Option.bind_eq_some_iff.mp e
  obtain ⟨m, e3, rfl⟩ := Option.map_eq_some_iff.mp e2
  obtain ⟨a, rfl, h2⟩ := h.seqI e1
  have hm := maxI_ok e3
  refine .sc rfl fun Q q => ⟨a, ns, rfl, h2, List.length_pos_of_mem hm.1, fun m' h1 h2 => ?_⟩
  have := hm.2 m' h1
  have := h2 m hm.1
  rw [show m' = m by omega]
  exact q
theorem na_minL : NA cl (rL1 (rMin1 cl.K)) (f1 minLD) := NA.one fun A L H x u fp z ad h e => by
  obtain ⟨ns, e1, e2⟩ := Option.bind_eq_some_iff.mp e
  obtain ⟨m, e3, rfl⟩ := Option.map_eq_some_iff.mp e2
  obtain ⟨a, rfl, h2⟩ := h.seqI e1
  have hm := minI_ok e3
  refine .sc rfl fun Q q => ⟨a, ns, rfl, h2, List.length_pos_of_mem hm.1, fun m' h1 h2 => ?_⟩
  have := hm.2 m' h1
  have := h2 m hm.1
  rw [show m' = m by omega]
  exact q
/-- max(xs, default=d) -/
def maxDfD (x d : D) : Option D := (seqI x).bind fun ns => match maxI ns with
  | some m => some (.int m)
  | none => if d.kept then some d else none
theorem na_maxDf : NA cl (rL2 fun x y H Q => Rm.rMaxDf cl.K [x] [y] H Q) (f2 maxDfD) := NA.two fun A L H x y u w fp gp z ad h h' e => by
  obtain ⟨ns, e1, e2⟩ := Option.bind_eq_some_iff.mp e
  obtain ⟨a, rfl, h2⟩ := h.seqI e1
  split at e2
  · rename_i m hm0
    cases e2
    have hm := maxI_ok hm0
    refine .sc rfl fun Q q => ⟨a, ns, w, rfl, rfl, h2, fun z => ?_, fun _ m' h1 h2 => ?_⟩
    · rw [z] at hm; exact absurd hm.1 (by simp)
    · have := hm.2 m' h1
      have := h2 m hm.1
      rw [show m' = m by omega]
      exact q
  · rename_i hn
    split at e2
    · rename_i hk
      cases e2
      exact .old hk h' fun Q q => ⟨a, ns, w, rfl, rfl, h2, fun _ => q, fun z => absurd (maxI_none hn) z⟩
    · cases e2
/-! sorted -/
def sortD (x : D) : Option D := (seqI x).map fun ns => .n .lst .own ((isrt ns).map D.int)
theorem ints_kept (ns : List Int) : (ns.map D.int).all D.kept = true := by simp [D.kept]
theorem na_sort : NA cl (rL1 fun x H Q => rSortedI cl.K [x] H Q) (f1 sortD) := NA.one fun A L H x u fp z ad h e => by
  obtain ⟨ns, e1, rfl⟩ := Option.map_eq_some_iff.mp e
  obtain ⟨a, rfl, h2⟩ := h.seqI e1
  refine .new (.inl rfl) (ints_kept _) Rps.ints rfl fun Q q => ⟨a, ns, rfl, h2, fun ns' p hp hs hn => ?_⟩
  rw [sorted_eq hs (isrt_sorted ns) (hp.trans (isrt_perm ns).symm)]
  exact q p hn
def sortSetD (x : D) : Option D := (seqI x).bind fun ns => if ns.length < 64 then some (.n .lst .own ((sset ns).map D.int)) else none
theorem no_sortSet {w : World} : NOp cl (rL1 (Rm.rSortSet cl.K w)) (f1 sortSetD) := by
  intro p A L B H ts ws δ σ xs us z Q j hr e k
  unfold f1 at e
  split at e
  · obtain ⟨u, fp, rfl, h1⟩ := hr.one
    obtain ⟨ns, e1, e2⟩ := Option.bind_eq_some_iff.mp e
    split at e2
    · rename_i hl
      cases e2
      obtain ⟨a, rfl, h2⟩ := h1.seqI e1
      refine ⟨a, ns, rfl, h2, by omega, fun p0 c hp hc => ⟨p0, _, c, rfl, upd_same, by omega, fun out p1 ho hm hn hp1 => ?_⟩⟩
      have e3 : out = sset ns := rising_eq ho (sset_rising ns) fun z => by rw [hm z, mem_sset]; simp
      subst e3
      have g := j.grow (o := SetO w p0 (fun j => decide (j ∈ ns)) c) hp
      have h := (g.2.keptL (ints_kept (sset ns)) (Rps.ints (b := true))).alloc (k := .lst) (o := .lst ((sset ns).map V.int)) hp1 rfl
      exact k _ _ _ (g.1.trans h.1) h.2
    · cases e2
  · cases e
/-! copies -/
/-- a key as a thing -/
def keyDv : Key → D
  | .inl i => .int i
  | .inr x => .str x
theorem keys_rps : ∀ (ks : List Key), Rps cl A L H b (ks.map keyDv) (ks.map kV) []
  | [] => by simp [Rps]
  | k :: ks => by
    simp only [List.map_cons, Rps]
    refine ⟨kV k, _, [], [], rfl, rfl, ?_, keys_rps ks⟩
    cases k <;> exact Rp.leaf rfl
theorem keys_kept (ks : List Key) : (ks.map keyDv).all D.kept = true := by
  rw [List.all_eq_true]
  intro x hx
  obtain ⟨k, _, rfl⟩ := List.mem_map.mp hx
  cases k <;> rfl
def listD (x : D) : Option D := match x with
  | .n .lst _ xs => if xs.all D.kept then some (.n .lst .own xs) else none
  | .n .tup _ xs => if xs.all D.kept then some (.n .lst .own xs) else none
  | .s ns => some (.n .lst .own (ns.map D.int))
  | .n (.dct ks) _ _ => some (.n .lst .own (ks.map keyDv))
  | _ => none
theorem zip_fst : ∀ {α β : Type} (ks : List α) (vs : List β), ks.length = vs.length → (ks.zip vs).map (·.1) = ks
  | _, _, [], [], _ => rfl
  | _, _, [], _ :: _, h => by cases h
  | _, _, _ :: _, [], h => by cases h
  | _, _, k :: ks, v :: vs, h => by simp [zip_fst ks vs (by simpa using h)]
theorem zip_snd : ∀ {α β : Type} (ks : List α) (vs : List β), ks.length = vs.length → (ks.zip vs).map Prod.snd = vs
  | _, _, [], [], _ => rfl
  | _, _, [], _ :: _, h => by cases h
  | _, _, _ :: _, [], h => by cases h
  | _, _, k :: ks, v :: vs, h => by simp [zip_snd ks vs (by simpa using h)]
def rListA (K : PySem.W.Frag) : V → Hp → VK → Prop := fun x H Q => (∃ p ys, [x] = [.ref p] ∧ (SqL K H p ys ∨ SqT K H p ys) ∧ ∀ l, H l = none → Q (.ref l) (upd H l (.lst ys))) ∨ rListD [x] H Q
theorem na_list : NA cl (rL1 (rListA cl.K)) (f1 listD) := NA.one fun A L H x u fp z ad h e => by
  unfold listD at e
  split at e
  · split at e
    · rename_i w xs hk
      cases e
      obtain ⟨a, vs, fp', rfl, ho, hr⟩ := h.seqL rfl
      exact .new (.inl rfl) hk hr rfl fun Q q => .inl ⟨a, vs, rfl, .inl ho, q⟩
    · cases e
  · split at e
    · rename_i w xs hk
      cases e
      obtain ⟨a, vs, fp', rfl, ho, hr⟩ := h.seqT rfl
      exact .new (.inl rfl) hk hr rfl fun Q q => .inl ⟨a, vs, rfl, .inr ho, q⟩
    · cases e
  · rename_i ns
    cases e
    obtain ⟨a, vs, fp', rfl, ho, hr⟩ := h.seqL rfl
    exact .new (.inl rfl) (ints_kept _) hr rfl fun Q q => .inl ⟨a, vs, rfl, .inl ho, q⟩
  · rename_i ks w xs
    cases e
    obtain ⟨a, o, vs, fp', rfl, ho, hs, hr, hf⟩ := h.node
    obtain ⟨hl, rfl⟩ := hs
    refine .new (.inl rfl) (keys_kept ks) (keys_rps ks) rfl fun Q q => .inr ⟨a, ks.zip vs, rfl, ho, fun p hp => ?_⟩
    have : (ks.zip vs).map (fun kv => kV kv.1) = ks.map kV := by
      have h3 := congrArg (List.map kV) (zip_fst ks vs hl)
      rw [List.map_map] at h3
      exact h3
    rw [this]
    exact q p hp
  · cases e
def tupD (x : D) : Option D := match x with
  | .n .lst _ xs => if xs.all D.kept then some (.n .tup .shr xs) else none
  | .s ns => some (.n .tup .shr (ns.map D.int))
  | .n .tup .shr xs => some (.n .tup .shr xs)
  | _ => none
def rTupA (K : PySem.W.Frag) : V → Hp → VK → Prop := fun x H Q => ∃ p ys, [x] = [.ref p] ∧ ((SqL K H p ys ∧ ∀ l, H l = none → Q (.ref l) (upd H l (.tup ys))) ∨ (SqT K H p ys ∧ Q (.ref p) H))
theorem na_tup : NA cl (rL1 (rTupA cl.K)) (f1 tupD) := NA.one fun A L H x u fp z ad h e => by
  unfold tupD at e
  split at e
  · split at e
    · rename_i w xs hk
      cases e
      obtain ⟨a, vs, fp', rfl, ho, hr⟩ := h.seqL rfl
      exact .new (.inr rfl) hk hr rfl fun Q q => ⟨a, vs, rfl, .inl ⟨ho, q⟩⟩
    · cases e
  · rename_i ns
    cases e
    obtain ⟨a, vs, fp', rfl, ho, hr⟩ := h.seqL rfl
    exact .new (.inr rfl) (ints_kept _) hr rfl fun Q q => ⟨a, vs, rfl, .inl ⟨ho, q⟩⟩
  · rename_i xs
    cases e
    obtain ⟨a, vs, fp', rfl, ho, hr⟩ := h.seqT rfl
    exact .old rfl h fun Q q => ⟨a, vs, rfl, .inr ⟨ho, q⟩⟩
  · cases e
/-- list(d.values()), tuple(d.values()) -/
def valsLD (x : D) : Option D := match x with
  | .n (.dct ks) _ xs => if xs.all D.kept then some (.n .lst .own xs) else none
  | _ => none
def valsTD (x : D) : Option D := match x with
  | .n (.dct ks) _ xs => if xs.all D.kept then some (.n .tup .shr xs) else none
  | _ => none
theorem na_valsL : NA cl (rL1 Rm.rValsL) (f1 valsLD) := NA.one fun A L H x u fp z ad h e => by
  unfold valsLD at e
  split at e
  · split at e
    · rename_i ks w xs hk
      cases e
      obtain ⟨a, o, vs, fp', rfl, ho, hs, hr, hf⟩ := h.node
      obtain ⟨hl, rfl⟩ := hs
      refine .new (.inl rfl) hk hr rfl fun Q q => ⟨a, _, rfl, ho, fun p hp => ?_⟩
      rw [zip_snd ks vs hl]
      exact q p hp
    · cases e
  · cases e
theorem na_valsT : NA cl (rL1 Rm.rValsT) (f1 valsTD) := NA.one fun A L H x u fp z ad h e => by
  unfold valsTD at e
  split at e
  · split at e
    · rename_i ks w xs hk
      cases e
      obtain ⟨a, o, vs, fp', rfl, ho, hs, hr, hf⟩ := h.node
      obtain ⟨hl, rfl⟩ := hs
      refine .new (.inr rfl) hk hr rfl fun Q q => ⟨a, _, rfl, ho, fun p hp => ?_⟩
      rw [zip_snd ks vs hl]
      exact q p hp
    · cases e
  · cases e
end
end Fs
/-! F31 -/
/-! in, isinstance, index, count, copies of lists, texts. -/
namespace Fs
open PySem PySem.Spec PyProof.Rows L2
section
variable {cl : Ec} {xf : Nat → List Str} {W : WX} {ws : Nat → Bool} {A A' L L' B : Addr → Prop} {H H' : Hp} {δ δ' : Sl} {σ σ' : L2.St} {p q b : Bool} {te ta tb tc : TE} {tA : TA} {tt tu : TT} {t u : TS} {ts : List D} {vs : List V}
variable {X : Cx} {e a c o : Expr} {es : List Expr} {pos pp p2 apos : Pos}
theorem flat_sc {x : V} (h : sc x = true) : flatV x = true := by cases x <;> first | rfl | cases h
/-- scalars -/
def valsD : List D → Option (List V)
  | [] => some []
  | .v x :: ds => (valsD ds).map fun vs => x :: vs
  | _ => none
theorem valsD_ok : ∀ {ds : List D} {vs : List V} {fp : List Addr} {ws : List V}, Rps cl A L H b ds vs fp → valsD ds = some ws → vs = ws ∧ ws.all flatV = true
  | [], vs, fp, ws, h, e => by
    cases e
    simp only [Rps] at h
    exact ⟨h.1, rfl⟩
  | d :: ds, vs, fp, ws, h, e => by
    unfold valsD at e
    split at e
    · rename_i he; cases he
    · rename_i i ds' he
      cases he
      obtain ⟨ns', e1, rfl⟩ := Option.map_eq_some_iff.mp e
      simp only [Rps] at h
      obtain ⟨v, vs', f1, f2, rfl, rfl, h3, h4⟩ := h
      obtain ⟨rfl, _, hs⟩ := h3.leafv
      obtain ⟨rfl, h5⟩ := valsD_ok h4 e1
      exact ⟨rfl, by simp [flat_sc hs, h5]⟩
    · cases e
def seqA (x : D) : Option (List D) := match x with
  | .n .tup _ xs => some xs
  | .n .lst _ xs => some xs
  | .s ns => some (ns.map D.int)
  | _ => none
theorem Rp.seqA {x : D} {v : V} {fp : List Addr} {ds : List D} (h : Rp cl A L H true x v fp) (e : Fs.seqA x = some ds) : ∃ a vs fp', v = .ref a ∧ (SqL cl.K H a vs ∨ SqT cl.K H a vs) ∧ Rps cl A L H true ds vs fp' := by
  unfold Fs.seqA at e
  split at e
  · cases e; obtain ⟨a, vs, fp', h1, h2, h3⟩ := h.seqT rfl; exact ⟨a, vs, fp', h1, .inr h2, h3⟩
  · cases e; obtain ⟨a, vs, fp', h1, h2, h3⟩ := h.seqL rfl; exact ⟨a, vs, fp', h1, .inl h2, h3⟩
  · cases e; obtain ⟨a, vs, fp', h1, h2, h3⟩ := h.seqL rfl; exact ⟨a, vs, fp', h1, .inl h2, h3⟩
  · cases e
/-- x in y: whether -/
def inB (x y : D) : Option Bool := match y with
  | .v (.str z) => match x with
    | .v (.str ⟨⟨[c]⟩⟩) => some (decide (c ∈ z.cps.toList))
    | _ => none
  | .n (.dct ks) _ xs => (keyD x).map fun k => (lkD ks xs k).isSome
  | _ => (seqA y).bind fun ds => match x, valsD ds with
    | .v x, some ws => some (inV x ws)
    | _, _ => match y, pd x, pds ds with
      | .n .lst _ _, some d, some es => if SeqAt.shaped d = true ∧ SeqAt.shaped (.list es) = true then some (es.any fun z => PyData.eqv z d) else none
      | _, _, _ => none
def inD (x y : D) : Option D := (inB x y).map D.bl
def notinD (x y : D) : Option D := (inB x y).map fun c => D.bl !c
def rDIn (neg : Bool) : R2 := fun y x H Q => ∃ a o, x = .ref a ∧ DGet H a y o ∧ Q (.bl (if neg then !o.isSome else o.isSome)) H
def rInA (K : PySem.W.Frag) : R2 := fun x y H Q => ((∃ (c : Nat) (z : Str), x = .str ⟨#[c]⟩ ∧ y = .str z ∧ Q (.bl (decide (c ∈ z.cps.toList))) H) ∨ rIn K false x y H Q) ∨ rDIn false x y H Q ∨ rInD K x y H Q
def rNotInA (K : PySem.W.Frag) : R2 := fun x y H Q => ((∃ (c : Nat) (z : Str), x = .str ⟨#[c]⟩ ∧ y = .str z ∧ Q (.bl (!decide (c ∈ z.cps.toList))) H) ∨ rIn K true x y H Q) ∨ rDIn true x y H Q ∨ rNotInD K x y H Q
theorem op_din (hu : X.A.units + 1 < cLine) : OpR X (compareOp .In) (rDIn false) := by
  intro pins s σ H y x v u Q I ry rx h
  obtain ⟨a, o, rfl, g, q⟩ := h
  obtain rfl : u = Value.ref a := rx
  exact d_in hu I g ry fun s3 I3 => ⟨.bl o.isSome, H, I3, rfl, q⟩
theorem op_dnotin (hu : X.A.units + 1 < cLine) : OpR X (compareOp .NotIn) (rDIn true) := by
  intro pins s σ H y x v u Q I ry rx h
  obtain ⟨a, o, rfl, g, q⟩ := h
  obtain rfl : u = Value.ref a := rx
  exact d_notIn hu I g ry fun s3 I3 => ⟨.bl (!o.isSome), H, I3, rfl, q⟩
theorem op_inA (hu : X.A.units + 65 < cLine) : OpR X (compareOp .In) (rInA X.K) := (op_in_sign.or op_in_seq).or ((op_din (by omega)).or (op_inD hu))
theorem op_notinA (hu : X.A.units + 65 < cLine) : OpR X (compareOp .NotIn) (rNotInA X.K) := (op_notIn_sign.or op_notIn_seq).or ((op_dnotin (by omega)).or (op_notInD hu))
theorem inB_ok {x y : D} {u w : V} {fp gp : List Addr} {c : Bool} (h : Rp cl A L H true x u fp) (h' : Rp cl A L H true y w gp) (e : inB x y = some c) :
    (∃ (n : Nat) (z : Str), u = .str ⟨#[n]⟩ ∧ w = .str z ∧ c = decide (n ∈ z.cps.toList)) ∨ (∃ p xs, w = .ref p ∧ (SqL cl.K H p xs ∨ SqT cl.K H p xs) ∧ flatV u = true ∧ xs.all flatV = true ∧ c = inV u xs) ∨
    (∃ a o, w = .ref a ∧ DGet H a u o ∧ c = o.isSome) ∨ (∃ d ds, Dp cl.K H u d ∧ Dp cl.K H w (.list ds) ∧ SeqAt.shaped d = true ∧ SeqAt.shaped (.list ds) = true ∧ c = ds.any fun z => PyData.eqv z d) := by
  unfold inB at e
  split at e
  · rename_i z
    split at e
    · rename_i n
      cases e
      obtain ⟨rfl, _, _⟩ := h.leafv
      obtain ⟨rfl, _, _⟩ := h'.leafv
      exact .inl ⟨n, z, rfl, rfl, rfl⟩
    · cases e
  · rename_i ks w' xs
    obtain ⟨k, e1, rfl⟩ := Option.map_eq_some_iff.mp e
    obtain ⟨a, o, vs, fp', rfl, ho, hs, hr, hf⟩ := h'.node
    obtain ⟨hl, rfl⟩ := hs
    have hk := keyD_ok h e1
    subst hk
    refine .inr (.inr (.inl ⟨a, _, rfl, DGet.k ho, ?_⟩))
    rw [lkD_valV]
    cases e2 : lkD ks xs k with
    | none => rw [hr.lkN e2]; rfl
    | some d => obtain ⟨v, f1, g1, _⟩ := hr.lk e2; rw [g1]; rfl
  · obtain ⟨ds, e1, e2⟩ := Option.bind_eq_some_iff.mp e
    obtain ⟨a, vs, fp', rfl, ho, hr⟩ := h'.seqA e1
    split at e2
    · rename_i x' ws' hv
      cases e2
      obtain ⟨rfl, _, hs⟩ := h.leafv
      obtain ⟨rfl, hf⟩ := valsD_ok hr hv
      exact .inr (.inl ⟨a, vs, rfl, ho, flat_sc hs, hf, rfl⟩)
    · split at e2
      · rename_i d es hd hes q1 q2
        split at e2
        · rename_i hsh
          cases e2
          cases e1
          exact .inr (.inr (.inr ⟨d, es, h.dp hd, h'.dp (e := .list es) (by simp [pd, hes]), hsh.1, hsh.2, rfl⟩))
        · cases e2
      · cases e2
theorem na_in : NA cl (rL2 (rInA cl.K)) (f2 inD) := NA.two fun A L H x y u w fp gp z ad h h' e => by
  obtain ⟨c, e1, rfl⟩ := Option.map_eq_some_iff.mp e
  refine .sc rfl fun Q q => ?_
  rcases inB_ok h h' e1 with ⟨n, z, rfl, rfl, rfl⟩ | ⟨p, xs, rfl, h1, h2, h3, rfl⟩ | ⟨a, o, rfl, h1, rfl⟩ | ⟨d, ds, h1, h2, h3, h4, rfl⟩
  · exact .inl (.inl ⟨n, z, rfl, rfl, q⟩)
  · exact .inl (.inr ⟨p, xs, rfl, h1, h2, h3, q⟩)
  · exact .inr (.inl ⟨a, o, rfl, h1, q⟩)
  · exact .inr (.inr ⟨d, ds, h1, h2, h3, h4, q⟩)
theorem na_notin : NA cl (rL2 (rNotInA cl.K)) (f2 notinD) := NA.two fun A L H x y u w fp gp z ad h h' e => by
  obtain ⟨c, e1, rfl⟩ := Option.map_eq_some_iff.mp e
  refine .sc rfl fun Q q => ?_
  rcases inB_ok h h' e1 with ⟨n, z, rfl, rfl, rfl⟩ | ⟨p, xs, rfl, h1, h2, h3, rfl⟩ | ⟨a, o, rfl, h1, rfl⟩ | ⟨d, ds, h1, h2, h3, h4, rfl⟩
  · exact .inl (.inl ⟨n, z, rfl, rfl, q⟩)
  · exact .inl (.inr ⟨p, xs, rfl, h1, h2, h3, q⟩)
  · exact .inr (.inl ⟨a, o, rfl, h1, q⟩)
  · exact .inr (.inr ⟨d, ds, h1, h2, h3, h4, q⟩)
/-! sums of any two -/
def addA (x y : D) : Option D := match x, y with
  | .v (.int i), .v (.int j) => some (.int (i + j))
  | .v (.str s), .v (.str t) => if s.length + t.length ≤ 100000 then some (.str (s ++ t)) else none
  | .n .lst _ xs, .n .lst _ ys => if xs.length + ys.length ≤ 100000 ∧ xs.all D.kept = true ∧ ys.all D.kept = true then some (.n .lst .own (xs ++ ys)) else none
  | .n .tup .shr xs, .n .tup .shr ys => if xs.length + ys.length ≤ 100000 ∧ xs.all D.kept = true ∧ ys.all D.kept = true then some (.n .tup .shr (xs ++ ys)) else none
  | _, _ => none
def rAddB (K : PySem.W.Frag) : R2 := fun x y H Q => ((rI0 fun i j => .int (i + j)) x y H Q ∨ (∃ i j, x = .str i ∧ y = .str j ∧ i.length + j.length ≤ sizeLine ∧ Q (.str (i ++ j)) H)) ∨ rCat x y H Q ∨ rCatA K x y H Q
theorem op_addB : OpR X (binaryOp .Add) (rAddB X.K) := (op_add.or op_add_str).or (op_cat.or op_catA)
theorem na_add : NA cl (rL2 (rAddB cl.K)) (f2 addA) := NA.two fun A L H x y u w fp gp z ad h1 h2 e => by
  unfold addA at e
  split at e
  · rename_i i j'
    cases e
    obtain ⟨rfl, _, _⟩ := h1.leafv
    obtain ⟨rfl, _, _⟩ := h2.leafv
    exact .sc rfl fun Q q => .inl (.inl ⟨i, j', rfl, rfl, q⟩)
  · rename_i s t
    split at e
    · rename_i hl
      cases e
      obtain ⟨rfl, _, _⟩ := h1.leafv
      obtain ⟨rfl, _, _⟩ := h2.leafv
      exact .sc rfl fun Q q => .inl (.inr ⟨s, t, rfl, rfl, sz_of hl, q⟩)
    · cases e
  · rename_i w1 xs w2 ys
    split at e
    · rename_i hl
      cases e
      obtain ⟨a, o, vs, fp', rfl, ho, hs, hr, hf⟩ := h1.node
      obtain ⟨a', o', vs', fp'', rfl, ho', hs', hr', hf'⟩ := h2.node
      cases hs; cases hs'
      have hk : (xs ++ ys).all D.kept = true := by rw [List.all_append, hl.2.1, hl.2.2]; rfl
      exact .new (.inl rfl) hk (hr.append hr') rfl fun Q q => .inr (.inl ⟨a, a', vs, vs', rfl, rfl, ho, ho', by rw [← hr.length, ← hr'.length]; exact sz_of hl.1, q⟩)
    · cases e
  · rename_i xs ys
    split at e
    · rename_i hl
      cases e
      obtain ⟨a, o, vs, fp', rfl, ho, hs, hr, hf⟩ := h1.node
      obtain ⟨a', o', vs', fp'', rfl, ho', hs', hr', hf'⟩ := h2.node
      cases hs; cases hs'
      have l1 := hr.length
      have l2 := hr'.length
      have hz : vs.length + vs'.length ≤ sizeLine := by rw [← l1, ← l2]; exact sz_of hl.1
      have hk : (xs ++ ys).all D.kept = true := by rw [List.all_append, hl.2.1, hl.2.2]; rfl
      by_cases hx : xs = []
      · subst hx
        have hv : vs = [] := List.eq_nil_of_length_eq_zero (by rw [← l1]; rfl)
        subst hv
        rw [List.nil_append]
        exact .old rfl h2 fun Q q => .inr (.inr ⟨a, a', [], vs', rfl, rfl, SqT.of ho, SqT.of ho', hz, fun _ => q, fun z => absurd rfl z, fun z => absurd rfl z⟩)
      · have hv : vs ≠ [] := fun z => hx (List.eq_nil_of_length_eq_zero (by rw [l1, z]; rfl))
        by_cases hy : ys = []
        · subst hy
          have hv' : vs' = [] := List.eq_nil_of_length_eq_zero (by rw [← l2]; rfl)
          subst hv'
          rw [List.append_nil]
          exact .old rfl h1 fun Q q => .inr (.inr ⟨a, a', vs, [], rfl, rfl, SqT.of ho, SqT.of ho', hz, fun z => absurd z hv, fun _ _ => q, fun _ z => absurd rfl z⟩)
        · have hv' : vs' ≠ [] := fun z => hy (List.eq_nil_of_length_eq_zero (by rw [l2, z]; rfl))
          exact .new (.inr rfl) hk (hr.append hr') rfl fun Q q => .inr (.inr ⟨a, a', vs, vs', rfl, rfl, SqT.of ho, SqT.of ho', hz, fun z => absurd z hv, fun _ z => absurd z hv', fun _ _ => q⟩)
    · cases e
  · cases e
/-! products of ints, lists copied -/
def mulA (x y : D) : Option D := match x, y with
  | .v (.int i), .v (.int j) => if cMul i j then some (.int (i * j)) else none
  | .n .lst _ xs, .v (.int k) => if 0 ≤ k ∧ k ≤ 1000 ∧ xs.length ≤ 1000 ∧ xs.all D.kept = true then some (.n .lst .own (List.replicate k.toNat xs).flatten) else none
  | _, _ => none
def rMulA : R2 := fun x y H Q => (rI CMul fun i j => .int (i * j)) x y H Q ∨ rRep x y H Q
theorem op_mulA : OpR X (binaryOp .Mult) rMulA := op_mul.or op_rep
theorem Rps.rep {xs : List D} {fp : List Addr} (h : Rps cl A L H b xs vs fp) (hk : xs.all D.kept = true) : ∀ n : Nat, Rps cl A L H true (List.replicate n xs).flatten (List.replicate n vs).flatten []
  | 0 => by simp [Rps]
  | n + 1 => by
    rw [List.replicate_succ, List.replicate_succ, List.flatten_cons, List.flatten_cons]
    have h2 := (h.keptS hk).weak (b := true)
    exact h2.append (Rps.rep h hk n)
theorem na_mul : NA cl (rL2 rMulA) (f2 mulA) := NA.two fun A L H x y u w fp gp z ad h1 h2 e => by
  unfold mulA at e
  split at e
  · rename_i i j'
    split at e
    · rename_i hc
      cases e
      obtain ⟨rfl, _, _⟩ := h1.leafv
      obtain ⟨rfl, _, _⟩ := h2.leafv
      exact .sc rfl fun Q q => .inl ⟨i, j', rfl, rfl, cMul_ok _ _ hc, q⟩
    · cases e
  · rename_i w1 xs k
    split at e
    · rename_i hl
      cases e
      obtain ⟨a, o, vs, fp', rfl, ho, hs, hr, hf⟩ := h1.node
      cases hs
      obtain ⟨rfl, _, _⟩ := h2.leafv
      have hk : ((List.replicate k.toNat xs).flatten).all D.kept = true := by
        rw [List.all_eq_true]
        intro x hx
        obtain ⟨l, hl2, hx⟩ := List.mem_flatten.mp hx
        rw [List.eq_of_mem_replicate hl2] at hx
        exact List.all_eq_true.mp hl.2.2.2 x hx
      refine .new (.inl rfl) hk (hr.rep hl.2.2.2 _) rfl fun Q q => .inr ⟨a, k, vs, rfl, rfl, ho, by omega, by omega, ?_, q⟩
      have l1 := hr.length
      have h5 : vs.length * k.toNat ≤ 1000 * 1000 := Nat.mul_le_mul (by omega) (by omega)
      exact Nat.le_trans h5 (by decide)
    · cases e
  · cases e
end
end Fs
/-! F32 -/
set_option maxHeartbeats 1000000
/-! isinstance of several types, index, count, str, get, reversed slices. -/
namespace Fs
open PySem PySem.Spec PyProof.Rows L2
section
variable {cl : Ec} {xf : Nat → List Str} {W : WX} {ws : Nat → Bool} {A A' L L' B : Addr → Prop} {H H' : Hp} {δ δ' : Sl} {σ σ' : L2.St} {p q b : Bool} {te ta tb tc : TE} {tA : TA} {tt tu : TT} {t u : TS} {ts : List D} {vs : List V}
variable {X : Cx} {e a c o e2 : Expr} {es : List Expr} {pos pp p2 apos : Pos}
/-! isinstance(x, (list, tuple)) -/
def isiTD (ty : List String) (x : D) : Option D := (tyD x).map fun s => .bl (ty.any fun c => isTy s c)
def rIsiT2 (K : PySem.W.Frag) (t1 t2 : String) : V → Hp → VK → Prop := fun x H Q => [V.ty t1, V.ty t2].length ≤ sizeLine ∧ ∀ p, H p = none → rIsiT K [x, .ref p] (upd H p (.tup [.ty t1, .ty t2])) Q
theorem kitAny2 {K : PySem.W.Frag} : ∀ t1 ∈ ["list", "tuple"], ∀ t2 ∈ ["list", "tuple"], ∀ s ∈ tyNames, PySem.W.kitAny K (.type s) [.type t1, .type t2] = some ([t1, t2].any fun c => isTy s c) := by
  intro t1 h1 t2 h2 s hs
  have k1 := kit_ty (K := K) (kitB_ok t1 (by simp at h1 ⊢; rcases h1 with rfl | rfl <;> simp) s hs)
  have k2 := kit_ty (K := K) (kitB_ok t2 (by simp at h2 ⊢; rcases h2 with rfl | rfl <;> simp) s hs)
  unfold PySem.W.kitAny
  rw [k1]
  cases hh1 : isTy s t1 with
  | true => simp_all
  | false =>
    simp only
    unfold PySem.W.kitAny
    rw [k2]
    cases hh2 : isTy s t2 with
    | true => simp_all
    | false => simp_all [PySem.W.kitAny]
theorem no_isiT {t1 t2 : String} (h1 : t1 ∈ ["list", "tuple"]) (h2 : t2 ∈ ["list", "tuple"]) : NOp cl (rL1 (rIsiT2 cl.K t1 t2)) (f1 (isiTD [t1, t2])) := by
  intro p A L B H ts ws δ σ xs us z Q j hr e k
  unfold f1 at e
  split at e
  · obtain ⟨u, fp, rfl, h⟩ := hr.one
    obtain ⟨s, e1, rfl⟩ := Option.map_eq_some_iff.mp e
    refine ⟨by show 2 ≤ sizeLine; decide, fun p0 hp => ?_⟩
    have hs : ∀ a o, H a = some o → (upd H p0 (.tup [.ty t1, .ty t2])) a = some o := fun a o q => by rw [upd_ne (ne_of_none q hp)]; exact q
    have h' : Rp cl (fun a => A a ∧ a ≠ p0) (fun a => L a ∧ a ≠ p0) (upd H p0 (.tup [.ty t1, .ty t2])) true _ u fp := h.step (fun a o q n => ⟨hs a o q, fun z => n z.1⟩) (fun a ha => by
      have := h.inA a ha
      obtain ⟨q1, o, q2⟩ := this
      exact ⟨by rw [hs a o q2, q2], q1, ne_of_none q2 hp⟩) (fun _ a hl => by
      have ha := j.ad a (j.ba a (j.lb a hl))
      have ne : a ≠ p0 := fun z => ha (by rw [z]; exact hp)
      exact ⟨upd_ne ne, hl, ne⟩)
    have ty := h'.ty (K := cl.K) e1
    have g := j.grow (o := .tup [.ty t1, .ty t2]) hp
    exact ⟨u, p0, _, .type s, [.type t1, .type t2], _, rfl, upd_same, .cons (.ty t1) (.cons (.ty t2) .nil), ty, kitAny2 t1 h1 t2 h2 s (tyD_mem e1), k _ _ _ g.1 (g.2.leaf rfl)⟩
  · cases e
theorem o_isiT {t1 t2 : String} {n1 n2 : Str} {q1 q2 q3 : Pos} {kk : Nat} (hK : X.K = cl.K) (hm : X.mg "isinstance" = none) (hm1 : X.mg n1 = none) (hm2 : X.mg n2 = none) (hv1 : bootBuiltins n1 = some (.type t1)) (hv2 : bootBuiltins n2 = some (.type t2)) (hg : Gl X "isinstance" := by rfl) (hg1 : Gl X n1 := by rfl) (hg2 : Gl X n2 := by rfl)
    (hn1 : n1 ≠ "__name__" := by decide) (hd1 : (n1 == ("__debug__" : Str)) = false := by decide) (hn2 : n2 ≠ "__name__" := by decide) (hd2 : (n2 == ("__debug__" : Str)) = false := by decide)
    (s1 : starEach [a, .Tuple [.Name n1 q1, .Name n2 q2] kk q3] X.env = (false, eval a X.env) :: starEach [.Tuple [.Name n1 q1, .Name n2 q2] kk q3] X.env := by rfl) (s2 : starEach [.Tuple [.Name n1 q1, .Name n2 q2] kk q3] X.env = (false, eval (.Tuple [.Name n1 q1, .Name n2 q2] kk q3) X.env) :: starEach [] X.env := by rfl)
    (s3 : (backTo pos (starEach [.Tuple [.Name n1 q1, .Name n2 q2] kk q3] X.env)).any (·.1) = false := by rfl) (s4 : starEach [.Name n1 q1, .Name n2 q2] X.env = (false, eval (.Name n1 q1) X.env) :: starEach [.Name n2 q2] X.env := by rfl) (s5 : starEach [.Name n2 q2] X.env = (false, eval (.Name n2 q2) X.env) :: starEach [] X.env := by rfl) :
    BN X (.Call (.Name "isinstance" pp) [a, .Tuple [.Name n1 q1, .Name n2 q2] kk q3] [] pos) [a] (rL1 (rIsiT2 cl.K t1 t2)) := fun tes h => by
  cases h with
  | cons h1 h => cases h with
    | nil =>
      rw [← hK]
      have h9 := pe_callB (X := X) (p := pp) (pos := pos) call_isiT hg hm PyProof.Rows.boot_isinstance (pa_cons h1 (pa_cons (pe_tup (pa_cons (pe_bltn (v := .ty t1) hg1 hm1 hv1 rfl hn1 hd1) (pa_cons (pe_bltn (v := .ty t2) hg2 hm2 hv2 rfl hn2 hd2) pa_nil s5) s4)) pa_nil s2) s1) (by decide) (by decide) s1 s3
      exact ⟨fun pins s σ H Q I hq => h9.run pins s σ H Q I hq⟩
/-! the receiver of a built-in's method -/
def tyF (T : String) (x : D) : Option D := match x with
  | .n .lst _ _ => if T = "list" then some x else none
  | .s _ => if T = "list" then some x else none
  | .n (.dct _) _ _ => if T = "dict" then some x else none
  | .v (.str _) => if T = "str" then some x else none
  | _ => none
def rTy (K : PySem.W.Frag) (T : String) : V → Hp → VK → Prop := fun x H Q => tyV K T x H ∧ Q x H
theorem tyF_ok {T : String} {x z : D} {v : V} {fp : List Addr} (h : Rp cl A L H true x v fp) (e : tyF T x = some z) : z = x ∧ tyV cl.K T v H := by
  unfold tyF at e
  split at e
  · split at e
    · rename_i hT
      cases e
      obtain ⟨a, vs, fp', rfl, ho, _⟩ := h.seqL rfl
      exact ⟨rfl, .inl ⟨hT, vs, ho⟩⟩
    · cases e
  · split at e
    · rename_i hT
      cases e
      obtain ⟨a, vs, fp', rfl, ho, _⟩ := h.seqL rfl
      exact ⟨rfl, .inl ⟨hT, vs, ho⟩⟩
    · cases e
  · split at e
    · rename_i hT
      cases e
      obtain ⟨a, o, vs, fp', rfl, ho, hs, hr, hf⟩ := h.node
      obtain ⟨hl, rfl⟩ := hs
      exact ⟨rfl, .inr (.inr (.inl ⟨hT, .inl ⟨_, ho⟩⟩))⟩
    · cases e
  · split at e
    · rename_i hT
      cases e
      obtain ⟨rfl, _, _⟩ := h.leafv
      exact ⟨rfl, hT⟩
    · cases e
  · cases e
theorem pun_ty {T : String} : PUn cl (rTy cl.K T) (tyF T) := by
  intro A L H x u f1 z Q h e k
  obtain ⟨rfl, h2⟩ := tyF_ok h e
  exact ⟨h2, k u f1 h fun _ ha => ha⟩
theorem run_ty {T : String} : RUn cl (rTy cl.K T) (tyF T) := by
  intro p A L B H δ σ x u z Q j e k
  obtain ⟨w, f1, e0, h⟩ := j.one
  cases e0
  obtain ⟨rfl, h2⟩ := tyF_ok h.weak e
  exact ⟨h2, k u A H (Nx.refl j.ba) j⟩
/-- the receiver as an operand -/
def RoT (cl : Ec) (xf : Nat → List Str) (X : Cx) (W : WX) (T : String) (e : Expr) (od : Od) : Prop := ∃ te, PE X e te ∧ ∀ tA os, SN cl xf W tA os → SN cl xf W (tCons (tUn (rTy cl.K T) te) tA) (od :: os)
theorem rt_k {T : String} {pa : PP} (h : Rk cl X e pa) : RoT cl xf X W T e (.k (pUn (tyF T) pa)) := by obtain ⟨te, h1, h2⟩ := h; exact ⟨te, h1, fun _ _ h => sn_k (sp_un pun_ty h2) h⟩
theorem rt_v {T : String} {da : DE} (h : Rd cl xf X W true e da) : RoT cl xf X W T e (.v (d1 (tyF T) da)) := by obtain ⟨te, h1, h2⟩ := h; exact ⟨te, h1, fun _ _ h => sn_v (se_run run_ty h2) h⟩
/-- the text of such a call -/
def BM (cl : Ec) (X : Cx) (T : String) (e o : Expr) (es : List Expr) (R : List V → Hp → VK → Prop) : Prop := ∀ to tes, PE X o to → PEs X es tes → PE X e (tF R (tCons (tUn (rTy cl.K T) to) (tAll tes)))
theorem d_m {T : String} {R : List V → Hp → VK → Prop} {F : List D → Option D} {od : Od} {os : List Od} (om : BM cl X T e o es R) (h : NOp cl R F) (ho : RoT cl xf X W T o od) (hr : Rn cl xf X W es os) : Rd cl xf X W p e (dN F (od :: os)) := by
  obtain ⟨to, h1, h2⟩ := ho
  obtain ⟨tes, h3, h4⟩ := hr
  exact ⟨_, om _ _ h1 h3, se_n h (h2 _ _ h4)⟩
def RzT (cl : Ec) (xf : Nat → List Str) (X : Cx) (W : WX) (T : String) (e : Expr) (k : AK) : Prop := ∃ te, PE X e te ∧ ∀ tA ks, SQ cl xf W tA ks → SQ cl xf W (tCons (tUn (rTy cl.K T) te) tA) (k :: ks)
theorem zt_v {T : String} {da : DE} (h : Rd cl xf X W false e da) : RzT cl xf X W T e (.v (d1 (tyF T) da)) := by obtain ⟨te, h1, h2⟩ := h; exact ⟨te, h1, fun _ _ h => sq_val (se_run run_ty h2) h⟩
theorem d_mI {T : String} {R : List V → Hp → VK → Prop} {F : List D → Option D} {kd : AK} {ks : List AK} (om : BM cl X T e o es R) (h : NOp cl R F) (ho : RzT cl xf X W T o kd) (hr : Rz cl xf X W es ks) : Rd cl xf X W false e (dNI F (kd :: ks)) := by
  obtain ⟨to, h1, h2⟩ := ho
  obtain ⟨tes, h3, h4⟩ := hr
  exact ⟨_, om _ _ h1 h3, se_ni h (h2 _ _ h4)⟩
def rM (r : V → List V → Hp → VK → Prop) : List V → Hp → VK → Prop := fun us H Q => match us with | x :: xs => r x xs H Q | [] => False
theorem bm_1 {T id : String} {name : Str} {r : V → List V → Hp → VK → Prop} (hK : X.K = cl.K) (pa : PlainAttrs T) (slot : Slot T name id) (hty : typeOf (.builtin id) = pure (.type "method_descriptor")) (hm : MtR X id r)
    (hbase : attributeBase o name X.env (eval o X.env) = eval o X.env := by rfl)
    (hfew : ((backTo pos (starEach [e] X.env)).all (fun x => !x.1) && (backToKw pos (keywordEach [] X.env)).all (fun x => x.1.isSome) && decide (([e] : List Expr).length + ([] : List Keyword).length + (if ([] : List Keyword).isEmpty then 0 else 1) < 30)) = true := by rfl)
    (hline : (apos.endLine == pos.line) = true := by rfl) (hs : starEach [e] X.env = (false, eval e X.env) :: starEach [] X.env := by rfl) (hplain : (backTo pos (starEach [] X.env)).any (·.1) = false := by rfl) :
    BM cl X T (.Call (.Attribute o name apos) [e] [] pos) o [e] (rM r) := fun to tes h1 h => by
  cases h with
  | cons h2 h => cases h with
    | nil =>
      rw [← hK]
      exact pe_bm pa slot hty hm h1 (pa_cons h2 pa_nil hs) hbase hfew hline hs hplain
/-! index, count -/
def eqS (x y : V) : Bool := eqV x y
def idxV (x : V) : List V → Option Nat
  | [] => none
  | y :: ys => if eqV y x then some 0 else (idxV x ys).map (· + 1)
theorem idxV_ok {x : V} : ∀ {ys : List V} {n : Nat}, idxV x ys = some n → ∃ z, ys[n]? = some z ∧ eqV z x = true ∧ ∀ (m : Nat) (z' : V), m < n → ys[m]? = some z' → eqV z' x = false
  | [], n, h => by cases h
  | y :: ys, n, h => by
    unfold idxV at h
    split at h
    · rename_i he
      cases h
      exact ⟨y, rfl, he, fun m z' hm => absurd hm (Nat.not_lt_zero _)⟩
    · rename_i he
      obtain ⟨k, h1, rfl⟩ := Option.map_eq_some_iff.mp h
      obtain ⟨z, h2, h3, h4⟩ := idxV_ok h1
      refine ⟨z, h2, h3, fun m z' hm hz => ?_⟩
      cases m with
      | zero => cases hz; exact Bool.eq_false_iff.mpr he
      | succ m => exact h4 m z' (by omega) hz
def indexD : List D → Option D
  | [x, .v y] => (seqL x).bind fun ds => (valsD ds).bind fun vs => (idxV y vs).map fun (n : Nat) => D.int (n : Int)
  | _ => none
theorem na_index : NA cl (rM (rIndex cl.K)) indexD := by
  intro A L H xs us z ad hr e
  unfold indexD at e
  split at e
  · obtain ⟨u, w, fp, gp, rfl, h1, h2⟩ := hr.two
    obtain ⟨ds, e1, e2⟩ := Option.bind_eq_some_iff.mp e
    obtain ⟨vs, e3, e4⟩ := Option.bind_eq_some_iff.mp e2
    obtain ⟨n, e5, rfl⟩ := Option.map_eq_some_iff.mp e4
    obtain ⟨a, vs', fp', rfl, ho, hr'⟩ := h1.seqL e1
    obtain ⟨rfl, hf⟩ := valsD_ok hr' e3
    obtain ⟨rfl, _, hs⟩ := h2.leafv
    obtain ⟨z, q1, q2, q3⟩ := idxV_ok e5
    exact .sc rfl fun Q q => ⟨a, vs', w, n, z, rfl, rfl, ho, flat_sc hs, hf, q1, q2, q3, q⟩
  · cases e
/-- str(x) -/
def strD (x : D) : Option D := match x with
  | .v (.int i) => if i.natAbs < 2 ^ 1000 then some (.str (toString i)) else none
  | .v (.str s) => some (.str s)
  | _ => none
def rStr : V → Hp → VK → Prop := fun x H Q => (∃ i, [x] = [.int i] ∧ i.natAbs.log2 < 1920 ∧ Q (.str (toString i)) H) ∨ (∃ a, [x] = [.str a] ∧ Q (.str a) H)
theorem na_str : NA cl (rL1 rStr) (f1 strD) := NA.one fun A L H x u fp z ad h e => by
  unfold strD at e
  split at e
  · rename_i i
    split at e
    · rename_i hi
      cases e
      obtain ⟨rfl, _, _⟩ := h.leafv
      refine .sc rfl fun Q q => .inl ⟨i, rfl, ?_, q⟩
      by_cases h0 : i.natAbs = 0
      · rw [h0]; decide
      · exact Nat.lt_of_lt_of_le ((Nat.log2_lt h0).mpr hi) (by decide)
    · cases e
  · rename_i s
    cases e
    obtain ⟨rfl, _, _⟩ := h.leafv
    exact .sc rfl fun Q q => .inr ⟨s, rfl, q⟩
  · cases e
/-! d.get(k, x) -/
def getD2 : List D → Option D
  | [.n (.dct ks) _ xs, k, y] => (keyD k).bind fun k => match lkD ks xs k with
    | some d => if d.kept then some d else none
    | none => if y.kept then some y else none
  | _ => none
def rGet2 : List V → Hp → VK → Prop := fun us H Q => match us with
  | [.ref a, y, z] => ∃ o, DGet H a y o ∧ Q (o.getD z) H
  | _ => False
theorem na_get2 : NA cl rGet2 getD2 := by
  intro A L H xs us z ad hr e
  unfold getD2 at e
  split at e
  · rename_i ks w xs' k y
    obtain ⟨u, w, t, f1, f2, f3, rfl, h1, h2, h3⟩ := hr.three
    obtain ⟨kk, e1, e2⟩ := Option.bind_eq_some_iff.mp e
    obtain ⟨a, o, vs, fp', rfl, ho, hs, hr2, hf⟩ := h1.node
    obtain ⟨hl, rfl⟩ := hs
    have hk := keyD_ok h2 e1
    subst hk
    split at e2
    · rename_i d hd
      split at e2
      · rename_i hkd
        cases e2
        obtain ⟨v, g1, g2, g3, _⟩ := hr2.lk hd
        refine .old hkd g3 fun Q q => ⟨_, DGet.k ho, ?_⟩
        rw [lkD_valV, g2]; exact q
      · cases e2
    · rename_i hd
      split at e2
      · rename_i hkd
        cases e2
        refine .old hkd h3 fun Q q => ⟨_, DGet.k ho, ?_⟩
        rw [lkD_valV, hr2.lkN hd]; exact q
      · cases e2
  · cases e
/-- a dict as the receiver -/
def dctF (x : D) : Option D := match x with | .n (.dct ks) w xs => some (.n (.dct ks) w xs) | _ => none
def rIsD : V → Hp → VK → Prop := fun x H Q => ∃ a, x = .ref a ∧ IsD H a ∧ Q x H
theorem dctF_ok {x z : D} {v : V} {fp : List Addr} (h : Rp cl A L H true x v fp) (e : dctF x = some z) : z = x ∧ ∃ a, v = .ref a ∧ IsD H a := by
  unfold dctF at e
  split at e
  · cases e
    obtain ⟨a, o, vs, fp', rfl, ho, hs, hr, hf⟩ := h.node
    obtain ⟨hl, rfl⟩ := hs
    exact ⟨rfl, a, rfl, .inl ⟨_, .inl ho⟩⟩
  · cases e
theorem pun_dct : PUn cl rIsD dctF := by
  intro A L H x u f1 z Q h e k
  obtain ⟨rfl, a, rfl, h2⟩ := dctF_ok h e
  exact ⟨a, rfl, h2, k _ f1 h fun _ ha => ha⟩
theorem run_dct : RUn cl rIsD dctF := by
  intro p A L B H δ σ x u z Q j e k
  obtain ⟨w, f1, e0, h⟩ := j.one
  cases e0
  obtain ⟨rfl, a, rfl, h2⟩ := dctF_ok h.weak e
  exact ⟨a, rfl, h2, k _ A H (Nx.refl j.ba) j⟩
def RoD (cl : Ec) (xf : Nat → List Str) (X : Cx) (W : WX) (e : Expr) (od : Od) : Prop := ∃ te, PE X e te ∧ ∀ tA os, SN cl xf W tA os → SN cl xf W (tCons (tUn rIsD te) tA) (od :: os)
theorem rd_k {pa : PP} (h : Rk cl X e pa) : RoD cl xf X W e (.k (pUn dctF pa)) := by obtain ⟨te, h1, h2⟩ := h; exact ⟨te, h1, fun _ _ h => sn_k (sp_un pun_dct h2) h⟩
theorem rd_v {da : DE} (h : Rd cl xf X W true e da) : RoD cl xf X W e (.v (d1 dctF da)) := by obtain ⟨te, h1, h2⟩ := h; exact ⟨te, h1, fun _ _ h => sn_v (se_run run_dct h2) h⟩
/-! x[::k] of a list -/
def rev3 : List D → Option D
  | [x, .v (.int k)] => (seqL x).bind fun ds => if ds.all D.kept then (if k = 1 then some (.n .lst .own ds) else if k = -1 then some (.n .lst .own ds.reverse) else none) else none
  | _ => none
def rRev3 (K : PySem.W.Frag) : List V → Hp → VK → Prop := fun us H Q => match us with
  | [x, y] => ∃ a xs k, x = .ref a ∧ y = .int k ∧ SqL K H a xs ∧ ((k = 1 ∧ ∀ p, H p = none → Q (.ref p) (upd H p (.lst xs))) ∨ (k = -1 ∧ ∀ p, H p = none → Q (.ref p) (upd H p (.lst xs.reverse))))
  | _ => False
theorem Rps.reverse : ∀ {ds : List D} {vs : List V} {fp : List Addr}, Rps cl A L H b ds vs fp → ds.all D.kept = true → Rps cl A L H b ds.reverse vs.reverse []
  | [], vs, fp, h, _ => by simp only [Rps] at h; rw [h.1]; simp [Rps]
  | d :: ds, vs, fp, h, hk => by
    have h0 := h.keptS hk
    simp only [Rps] at h
    obtain ⟨v, vs', f1, f2, rfl, rfl, h3, h4⟩ := h
    simp only [List.all_cons, Bool.and_eq_true] at hk
    rw [List.reverse_cons, List.reverse_cons]
    have h5 := (h3.strong hk.1).1.weak (b := b)
    have e5 := (h3.strong hk.1).2
    subst e5
    have h6 : Rps cl A L H b [d] [v] [] := by simp only [Rps]; exact ⟨v, [], [], [], rfl, rfl, h5, rfl, rfl⟩
    exact (Rps.reverse h4 hk.2).append h6
theorem na_rev3 : NA cl (rRev3 cl.K) rev3 := by
  intro A L H xs us z ad hr e
  unfold rev3 at e
  split at e
  · rename_i x k
    obtain ⟨u, w, fp, gp, rfl, h1, h2⟩ := hr.two
    obtain ⟨ds, e1, e2⟩ := Option.bind_eq_some_iff.mp e
    obtain ⟨a, vs, fp', rfl, ho, hr'⟩ := h1.seqL e1
    obtain ⟨rfl, _, _⟩ := h2.leafv
    split at e2
    · rename_i hk
      split at e2
      · rename_i h0
        cases e2
        exact .new (.inl rfl) hk hr' rfl fun Q q => ⟨a, vs, k, rfl, rfl, ho, .inl ⟨h0, q⟩⟩
      · split at e2
        · rename_i h0
          cases e2
          exact .new (.inl rfl) (by rw [List.all_reverse]; exact hk) (hr'.reverse hk) rfl fun Q q => ⟨a, vs, k, rfl, rfl, ho, .inr ⟨h0, q⟩⟩
        · cases e2
    · cases e2
  · cases e
end
end Fs
/-! F33 -/
set_option maxHeartbeats 1000000
/-! Places: things within things that are changed where they stand. -/
namespace Fs
open PySem PySem.Spec PyProof.Rows L2
def getP : List Nat → D → Option D
  | [], d => some d
  | i :: π, .n _ _ ds => (ds[i]?).bind (getP π)
  | _ :: _, _ => none
def Kd.isDcl : Kd → Bool | .dcl _ => true | _ => false
/-- owned all along the path -/
def ownP : List Nat → D → Bool
  | [], _ => true
  | i :: π, .n k .own ds => !k.isDcl && (match ds[i]? with
    | some c => ownP π c
    | none => false)
  | _ :: _, _ => false
def setP : List Nat → D → D → D
  | [], _, d' => d'
  | i :: π, .n k w ds, d' => .n k w (match ds[i]? with
    | some c => ds.set i (setP π c d')
    | none => ds)
  | _ :: _, d, _ => d
/-- what an object holds -/
def kids : HO → Option (List V)
  | .lst xs => some xs
  | .tup xs => some xs
  | .dK kvs => some (kvs.map Prod.snd)
  | .ins _ _ fs => some (fs.map Prod.snd)
  | _ => none
def AtP (H : Hp) : V → List Nat → V → Prop
  | v, [], w => v = w
  | v, i :: π, w => ∃ a o vs v1, v = .ref a ∧ H a = some o ∧ kids o = some vs ∧ vs[i]? = some v1 ∧ AtP H v1 π w
section
variable {cl : Ec} {xf : Nat → List Str} {W : WX} {ws : Nat → Bool} {A A' L L' B : Addr → Prop} {H H' : Hp} {δ δ' : Sl} {σ σ' : L2.St} {p q b : Bool} {te ta tb tc : TE} {tA : TA} {tt tu : TT} {t u : TS} {ts : List D} {vs : List V}
theorem Shape.kids {k : Kd} {o : HO} (h : Shape cl k vs o) (hk : k.isDcl = false) : kids o = some vs := by
  cases k with
  | tup => cases h; rfl
  | lst => cases h; rfl
  | dct ks => obtain ⟨hl, rfl⟩ := h; simp only [Fs.kids]; rw [zip_snd ks vs hl]
  | dcl ks => cases hk
  | obj c fs => obtain ⟨hl, dx, rfl⟩ := h; simp only [Fs.kids]; rw [zip_snd fs vs hl]
theorem Rps.at_ : ∀ {ds : List D} {vs : List V} {fp : List Addr} {n : Nat} {d : D}, Rps cl A L H false ds vs fp → ds[n]? = some d → ∃ v f1 fn f2, vs[n]? = some v ∧ fp = f1 ++ (fn ++ f2) ∧ Rp cl A L H false d v fn ∧
    ∀ A2 L2 H2 d' fn', (∀ a o, H a = some o → ¬ A a → H2 a = some o ∧ ¬ A2 a) → (∀ a ∈ f1 ++ f2, H2 a = H a ∧ A2 a) → Rp cl A2 L2 H2 false d' v fn' → Rps cl A2 L2 H2 false (ds.set n d') vs (f1 ++ (fn' ++ f2))
  | [], vs, fp, n, d, h, e => by simp at e
  | d0 :: ds, vs, fp, 0, d, h, e => by
    simp only [Rps] at h
    obtain ⟨v, vs', f1, f2, rfl, rfl, h3, h4⟩ := h
    cases e
    refine ⟨v, [], f1, f2, rfl, rfl, h3, fun A2 L2 H2 d' fn' hk hf hd => ?_⟩
    simp only [List.set_cons_zero, List.nil_append, Rps]
    exact ⟨v, vs', fn', f2, rfl, rfl, hd, h4.step hk (fun a ha => hf a (by simpa using ha)) (by simp)⟩
  | d0 :: ds, vs, fp, n + 1, d, h, e => by
    simp only [Rps] at h
    obtain ⟨v, vs', f1, f2, rfl, rfl, h3, h4⟩ := h
    obtain ⟨w, g1, gn, g2, k1, rfl, k3, k4⟩ := Rps.at_ h4 (by simpa using e)
    refine ⟨w, f1 ++ g1, gn, g2, by simpa using k1, by simp, k3, fun A2 L2 H2 d' fn' hk hf hd => ?_⟩
    simp only [List.set_cons_succ, Rps, List.append_assoc]
    refine ⟨v, vs', f1, g1 ++ (fn' ++ g2), rfl, rfl, h3.step hk (fun a ha => hf a (by simp [ha])) (by simp), k4 A2 L2 H2 d' fn' hk (fun a ha => hf a ?_) hd⟩
    rcases List.mem_append.mp ha with ha | ha
    · simp [ha]
    · simp [ha]
theorem perm_ct {xs ys : List Addr} (h : ∀ x, xs.count x = ys.count x) : xs.Perm ys := List.perm_iff_count.mpr h
theorem Rp.focus : ∀ {π : List Nat} {d c : D} {v : V} {fp : List Addr}, Rp cl A L H false d v fp → getP π d = some c → ownP π d = true → ∃ vc fc fr, AtP H v π vc ∧ Rp cl A L H false c vc fc ∧ fp.Perm (fc ++ fr) ∧
    ∀ A2 L2 H2 c' fc', (∀ a o, H a = some o → ¬ A a → H2 a = some o ∧ ¬ A2 a) → (∀ a ∈ fr, H2 a = H a ∧ A2 a) → Rp cl A2 L2 H2 false c' vc fc' → ∃ fp', Rp cl A2 L2 H2 false (setP π d c') v fp' ∧ fp'.Perm (fc' ++ fr)
  | [], d, c, v, fp, h, e, _ => by
    cases e
    refine ⟨v, fp, [], rfl, h, by simp, fun A2 L2 H2 c' fc' hk hf hc => ⟨fc', hc, by simp⟩⟩
  | i :: π, .v x, c, v, fp, h, e, _ => by simp [getP] at e
  | i :: π, .s x, c, v, fp, h, e, _ => by simp [getP] at e
  | i :: π, .n k .shr ds, c, v, fp, h, e, ho => by simp [ownP] at ho
  | i :: π, .n k .bor ds, c, v, fp, h, e, ho => by simp [ownP] at ho
  | i :: π, .n k .own ds, c, v, fp, h, e, ho => by
    simp only [getP] at e
    obtain ⟨d1, e1, e2⟩ := Option.bind_eq_some_iff.mp e
    simp only [ownP, e1, Bool.and_eq_true, Bool.not_eq_true'] at ho
    simp only [Rp] at h
    obtain ⟨a, o, vs, rfl, h2, h3, h4, fp', rfl, h6⟩ := h
    obtain ⟨v1, f1, fn, f2, k1, rfl, k3, k4⟩ := h6.at_ e1
    obtain ⟨vc, fc, fr, q1, q2, q3, q5⟩ := Rp.focus k3 e2 ho.2
    refine ⟨vc, fc, a :: (f1 ++ (fr ++ f2)), ⟨a, o, vs, v1, rfl, h2, h3.kids ho.1, k1, q1⟩, q2, perm_ct fun x => ?_, fun A2 L2 H2 c' fc' hk hf hc => ?_⟩
    · have := List.perm_iff_count.mp q3 x
      simp only [List.count_cons, List.count_append] at this ⊢
      omega
    · obtain ⟨fn', r1, r2⟩ := q5 A2 L2 H2 c' fc' hk (fun x hx => hf x (by simp [hx])) hc
      have r3 := k4 A2 L2 H2 _ fn' hk (fun x hx => hf x (by rcases List.mem_append.mp hx with z | z <;> simp [z])) r1
      have ha := hf a (by simp)
      refine ⟨a :: (f1 ++ (fn' ++ f2)), ?_, perm_ct fun x => ?_⟩
      · simp only [setP, e1, Rp]
        exact ⟨a, o, vs, rfl, ha.1.trans h2, h3, ha.2, _, rfl, r3⟩
      · have := List.perm_iff_count.mp r2 x
        simp only [List.count_cons, List.count_append] at this ⊢
        omega
/-- a thing within a slot, to be changed -/
theorem Jt.focus {i : Nat} {π : List Nat} {d c : D} (j : Jt false cl A L B H ts vs δ σ) (hi : (δ[i]?).join = some d) (hfr : d.free = true) (hp : getP π d = some c) (ho : ownP π d = true) :
    ∃ v0 vc B', σ[i]? = some (some v0) ∧ AtP H v0 π vc ∧ (∀ a, B a → B' a) ∧ (∀ a, L a → B' a) ∧ Jt false cl A L B' H (c :: ts) (vc :: vs) (δ.set i none) σ ∧
    ∀ A2 H2 c' ts2 ws2 δ2, δ2[i]? = some none → Nx A B' H A2 H2 → Jt false cl A2 L B' H2 (c' :: ts2) (vc :: ws2) δ2 σ → Jt false cl A2 L B H2 ts2 ws2 (δ2.set i (some (setP π d c'))) σ := by
  obtain ⟨f, g, h1, h2, h3, h4, h5⟩ := j.ex
  have nd := List.nodup_append.mp h3
  obtain ⟨v0, f1, f2, k1, k2, k3, k4, k5⟩ := h2.take (join_some hi) nd.2.1
  obtain ⟨vc, fc, fr, q1, q2, q3, q4⟩ := (k2.free hfr).focus hp ho
  have frA : ∀ a ∈ fr, A a := fun a ha => (k2.inA a (q3.mem_iff.mpr (List.mem_append_right _ ha))).1
  have f1g : ∀ a ∈ f1, a ∈ g := fun a ha => (k5 a).mp (List.mem_append_left _ ha)
  have f2g : ∀ a ∈ f2, a ∈ g := fun a ha => (k5 a).mp (List.mem_append_right _ ha)
  have nd1 := List.nodup_append.mp k4
  have ndq := List.nodup_append.mp (q3.nodup_iff.mp nd1.1)
  have fcf1 : ∀ a ∈ fc, a ∈ f1 := fun a ha => q3.mem_iff.mpr (List.mem_append_left _ ha)
  have frf1 : ∀ a ∈ fr, a ∈ f1 := fun a ha => q3.mem_iff.mpr (List.mem_append_right _ ha)
  refine ⟨v0, vc, fun a => B a ∨ a ∈ fr, k1, q1, fun a h => .inl h, fun a h => .inl (j.lb a h), ⟨⟨fc ++ f, f2, ?_, k3, ?_, ?_, ?_⟩, fun a h => .inl (j.lb a h), fun a h => h.elim (j.ba a) (frA a), j.ad⟩, ?_⟩
  · simp only [Rps]
    exact ⟨vc, vs, fc, f, rfl, rfl, q2, h1⟩
  · rw [List.append_assoc]
    refine List.nodup_append.mpr ⟨ndq.1, List.nodup_append.mpr ⟨nd.1, nd1.2.1, fun a ha c hc => nd.2.2 a ha c (f2g c hc)⟩, fun a ha c hc e => ?_⟩
    subst e
    rcases List.mem_append.mp hc with z | z
    · exact nd.2.2 a z a (f1g a (fcf1 a ha)) rfl
    · exact nd1.2.2 a (fcf1 a ha) a z rfl
  · intro a ha
    rintro (z | z)
    · rcases List.mem_append.mp ha with q | q
      · exact h5 rfl a (f1g a (fcf1 a q)) z
      · exact h4 a q z
    · rcases List.mem_append.mp ha with q | q
      · exact ndq.2.2 a q a z rfl
      · exact nd.2.2 a q a (f1g a (frf1 a z)) rfl
  · intro _ a ha
    rintro (z | z)
    · exact h5 rfl a (f2g a ha) z
    · exact nd1.2.2 a (frf1 a z) a ha rfl
  · intro A2 H2 c' ts2 ws2 δ2 e2 n j2
    obtain ⟨F, G, m1, m2, m3, m4, m5⟩ := j2.ex
    simp only [Rps] at m1
    obtain ⟨w, ws', g1, g2, e3, rfl, m6, m7⟩ := m1
    cases e3
    have frp : ∀ a ∈ fr, H2 a = H a ∧ A2 a := fun a ha => n.prot a (.inr ha)
    obtain ⟨fp', r1, r2⟩ := q4 A2 L H2 c' g1 n.both frp m6
    rw [List.append_assoc] at m3
    have nd3 := List.nodup_append.mp m3
    have nd4 := List.nodup_append.mp nd3.2.1
    have g1fr : ∀ a ∈ g1, a ∉ fr := fun a ha z => m4 a (List.mem_append_left _ ha) (.inr z)
    have g2fr : ∀ a ∈ g2, a ∉ fr := fun a ha z => m4 a (List.mem_append_right _ ha) (.inr z)
    have Gfr : ∀ a ∈ G, a ∉ fr := fun a ha z => m5 rfl a ha (.inr z)
    have ndp : fp'.Nodup := r2.nodup_iff.mpr (List.nodup_append.mpr ⟨nd3.1, ndq.2.1, fun a ha c hc e => by subst e; exact g1fr a ha hc⟩)
    have hlen : i < δ2.length := (List.getElem?_eq_some_iff.mp e2).1
    have ndG : (fp' ++ G).Nodup := List.nodup_append.mpr ⟨ndp, nd4.2.1, fun a ha c hc e => by
      subst e
      rcases List.mem_append.mp (r2.mem_iff.mp ha) with z | z
      · exact nd3.2.2 a z a (List.mem_append_right _ hc) rfl
      · exact Gfr a hc z⟩
    obtain ⟨G', s1, s2, s3⟩ := m2.put (d := setP π d c') (v := v0) hlen r1.weak ndG
    rw [set_set_eq k1] at s1
    have nB : ∀ a, a ∈ fp' → ¬ B a := fun a ha z => by
      rcases List.mem_append.mp (r2.mem_iff.mp ha) with q | q
      · exact m4 a (List.mem_append_left _ q) (.inl z)
      · exact h5 rfl a (f1g a (frf1 a q)) z
    refine ⟨⟨g2, G', m7, s1, List.nodup_append.mpr ⟨nd4.1, s2, fun a ha c hc e => ?_⟩, fun a ha z => m4 a (List.mem_append_right _ ha) (.inl z), fun _ a ha z => ?_⟩, j.lb, fun a h => j2.ba a (.inl h), j2.ad⟩
    · subst e
      rcases List.mem_append.mp (s3 a hc) with z | z
      · rcases List.mem_append.mp (r2.mem_iff.mp z) with q | q
        · exact nd3.2.2 a q a (List.mem_append_left _ ha) rfl
        · exact g2fr a ha q
      · exact nd4.2.2 a ha a z rfl
    · rcases List.mem_append.mp (s3 a ha) with q | q
      · exact nB a q z
      · exact m5 rfl a q (.inl z)
end
end Fs
/-! F34 -/
set_option maxHeartbeats 1000000
/-! Changing a thing where it stands. -/
namespace Fs
open PySem PySem.Spec PyProof.Rows L2
section
variable {cl : Ec} {xf : Nat → List Str} {W : WX} {ws : Nat → Bool} {A A' L L' B : Addr → Prop} {H H' : Hp} {δ δ' : Sl} {σ σ' : L2.St} {p q b : Bool} {te ta tb tc : TE} {tA : TA} {tt tu : TT} {t u : TS} {ts : List D} {vs : List V}
/-- an owned node in hand: what it holds, and how it is renewed -/
theorem Jt.renew {k : Kd} {ds : List D} {v : V} {wv : List V} (j : Jt false cl A L B H (.n k .own ds :: ts) (v :: wv) δ σ) :
    ∃ a o us, v = .ref a ∧ H a = some o ∧ Shape cl k us o ∧ ds.length = us.length ∧ (∃ ft, Rps cl A L H false ts wv ft) ∧ ∀ k' ds' us' o' ts' wv', Shape cl k' us' o' →
      (∀ fk ft, Rps cl A L H false ds us fk → Rps cl A L H false ts wv ft → ∃ f' g', Rps cl A L H false ds' us' f' ∧ Rps cl A L H false ts' wv' g' ∧ ∀ x, (f' ++ g').count x ≤ (fk ++ ft).count x) →
      Nx A B H A (upd H a o') ∧ Jt false cl A L B (upd H a o') (.n k' .own ds' :: ts') (.ref a :: wv') δ σ := by
  obtain ⟨f, g, h1, h2, h3, h4, h5⟩ := j.ex
  simp only [Rps, Rp] at h1
  obtain ⟨v0, vs', f1, f2, e, rfl, ⟨a, o, us, rfl, ho, hs, hA, fp', rfl, hk⟩, ht⟩ := h1
  cases e
  refine ⟨a, o, us, rfl, ho, hs, hk.length, ⟨f2, ht⟩, fun k' ds' us' o' ts' wv' hs' hc => ?_⟩
  obtain ⟨f', g', r1, r1', r2⟩ := hc fp' f2 hk ht
  have nd := List.nodup_append.mp h3
  rw [List.cons_append] at nd
  have nd1 := List.nodup_cons.mp nd.1
  have hsub : ∀ x ∈ f' ++ g', x ∈ fp' ++ f2 := fun x hx => by
    have := r2 x
    exact List.count_pos_iff.mp (Nat.lt_of_lt_of_le (List.count_pos_iff.mpr hx) this)
  have ndf : (f' ++ g').Nodup := List.nodup_iff_count.mpr fun x => Nat.le_trans (r2 x) (List.nodup_iff_count.mp nd1.2 x)
  have af : a ∉ f' ++ g' := fun z => nd1.1 (hsub a z)
  have hst : ∀ x u, H x = some u → ¬ A x → upd H a o' x = some u ∧ ¬ A x := fun x u q n => ⟨by rw [upd_ne (fun z => n (by rw [z]; exact hA))]; exact q, n⟩
  have aB : ¬ B a := h4 a (by simp)
  have sf : ∀ x ∈ f' ++ g', upd H a o' x = H x ∧ A x := fun x hx => ⟨upd_ne (fun z => af (by rw [← z]; exact hx)), by
    rcases List.mem_append.mp hx with z | z
    · exact (r1.inA x z).1
    · exact (r1'.inA x z).1⟩
  refine ⟨⟨fun x h => .inl h, fun x u q n => (hst x u q n).1, fun x h => ⟨upd_ne (fun z => aB (by rw [← z]; exact h)), j.ba x h⟩, fun x h => ?_⟩, ⟨⟨(a :: f') ++ g', g, ?_, ?_, ?_, ?_, h5⟩, j.lb, j.ba, fun x h => ?_⟩⟩
  · by_cases z : x = a
    · rw [z, upd_same] at h; cases h
    · rw [upd_ne z] at h; exact h
  · simp only [Rps, Rp]
    refine ⟨.ref a, wv', a :: f', g', rfl, rfl, ⟨a, o', us', rfl, upd_same, hs', hA, f', rfl, r1.step hst (fun x hx => sf x (List.mem_append_left _ hx)) (by simp)⟩, r1'.step hst (fun x hx => sf x (List.mem_append_right _ hx)) (by simp)⟩
  · exact h2.step hst (fun x hx => ⟨upd_ne (fun z => nd.2.2 a (by simp) x hx z.symm), (h2.inA x hx).1⟩) (fun x h => ⟨upd_ne (fun z => aB (by rw [← z]; exact j.lb x h)), h⟩)
  · rw [List.cons_append, List.cons_append]
    refine List.nodup_cons.mpr ⟨fun z => ?_, List.nodup_append.mpr ⟨ndf, nd.2.1, fun x hx c hc => nd.2.2 x (by rcases List.mem_append.mp (hsub x hx) with z | z <;> simp [z]) c hc⟩⟩
    rcases List.mem_append.mp z with z | z
    · exact af z
    · exact nd.2.2 a (by simp) a z rfl
  · intro x hx
    rw [List.cons_append] at hx
    rcases List.mem_cons.mp hx with rfl | hx
    · exact aB
    · exact h4 x (by rcases List.mem_append.mp (hsub x hx) with z | z <;> simp [z])
  · by_cases z : x = a
    · rw [z, upd_same]; simp
    · rw [upd_ne z]; exact j.ad x h
/-- an operation that changes its first thing: the thing behind it, and what it gives -/
def MOp (cl : Ec) (r : V → List V → Hp → VK → Prop) (op : D → List D → Option (D × D)) : Prop := ∀ A L B H δ σ c v xs us c' y Q, Jt false cl A L B H (c :: xs) (v :: us) δ σ → op c xs = some (c', y) →
  (∀ w A' H', Nx A B H A' H' → Jt false cl A' L B H' [c', y] [v, w] δ σ → Q w H') → r v us H Q
theorem MOp.frz {r : V → List V → Hp → VK → Prop} {op : D → List D → Option (D × D)} (h : MOp cl r op) : MOp cl r (fun c xs => op c (frzs xs)) := by
  intro A L B H δ σ c v xs us c' y Q j e k
  obtain ⟨A1, n1, j1⟩ := j.freezeTail
  exact h A1 L B H δ σ c v (frzs xs) us c' y Q j1 e fun w A2 H2 n2 j2 => k w A2 H2 (n1.trans n2) j2
theorem rps_non {f : List Addr} : Rps cl A L H b [.non] [.non] f ↔ f = [] := by
  simp only [Rps, Rp]
  constructor
  · rintro ⟨v, vs, f1, f2, e, rfl, ⟨_, _, rfl⟩, _, rfl⟩; rfl
  · rintro rfl; exact ⟨.non, [], [], [], rfl, rfl, ⟨rfl, rfl, rfl⟩, rfl, rfl⟩
/-! lists -/
def mAppend : D → List D → Option (D × D)
  | .n .lst .own acc, [y] => if acc.length < 100000 then some (.n .lst .own (acc ++ [y]), .non) else none
  | _, _ => none
theorem mo_append : MOp cl rAppend mAppend := by
  intro A L B H δ σ c v xs us c' y Q j e k
  unfold mAppend at e
  split at e
  · rename_i acc z
    split at e
    · rename_i hl
      cases e
      obtain ⟨a, o, ks, rfl, ho, hs, hlen, ⟨ft, ht⟩, rn⟩ := j.renew
      cases hs
      simp only [Rps] at ht
      obtain ⟨w, _, f1, f2, rfl, rfl, hw, rfl, rfl⟩ := ht
      have h := rn .lst (acc ++ [z]) (ks ++ [w]) (.lst (ks ++ [w])) [.non] [.non] rfl fun fk ft hk ht => ⟨fk ++ ft, [], hk.append ht, rps_non.mpr rfl, fun x => by simp⟩
      exact ⟨a, ks, w, rfl, rfl, ho, by rw [← hlen]; exact sz_lt hl, k .non _ _ h.1 h.2⟩
    · cases e
  · cases e
def mExtend : D → List D → Option (D × D)
  | .n .lst .own acc, [.n .lst _ ys] => if acc.length + ys.length ≤ 100000 ∧ ys.all D.kept = true then some (.n .lst .own (acc ++ ys), .non) else none
  | _, _ => none
def mClear : D → List D → Option (D × D)
  | .n .lst .own _, [] => some (.n .lst .own [], .non)
  | _, _ => none
theorem mo_clear : MOp cl rClear mClear := by
  intro A L B H δ σ c v xs us c' y Q j e k
  unfold mClear at e
  split at e
  · cases e
    obtain ⟨a, o, ks, rfl, ho, hs, hlen, ⟨ft, ht⟩, rn⟩ := j.renew
    cases hs
    simp only [Rps] at ht
    obtain ⟨rfl, rfl⟩ := ht
    have h := rn .lst [] [] (.lst []) [.non] [.non] rfl fun fk ft hk ht => ⟨[], [], by simp [Rps], rps_non.mpr rfl, fun x => by simp⟩
    exact ⟨a, ks, rfl, rfl, ho, k .non _ _ h.1 h.2⟩
  · cases e
theorem Rps.rev : ∀ {ds : List D} {vs : List V} {fp : List Addr}, Rps cl A L H b ds vs fp → ∃ f', Rps cl A L H b ds.reverse vs.reverse f' ∧ f'.Perm fp
  | [], vs, fp, h => by simp only [Rps] at h; rw [h.1, h.2]; exact ⟨[], by simp [Rps], .refl _⟩
  | d :: ds, vs, fp, h => by
    simp only [Rps] at h
    obtain ⟨v, vs', f1, f2, rfl, rfl, h3, h4⟩ := h
    obtain ⟨f', h5, h6⟩ := Rps.rev h4
    rw [List.reverse_cons, List.reverse_cons]
    refine ⟨f' ++ f1, h5.append (by simp only [Rps]; exact ⟨v, [], f1, [], rfl, by simp, h3, rfl, rfl⟩), (h6.append_right f1).trans List.perm_append_comm⟩
def mReverse : D → List D → Option (D × D)
  | .n .lst .own xs, [] => some (.n .lst .own xs.reverse, .non)
  | _, _ => none
theorem mo_reverse : MOp cl rReverse mReverse := by
  intro A L B H δ σ c v xs us c' y Q j e k
  unfold mReverse at e
  split at e
  · cases e
    obtain ⟨a, o, ks, rfl, ho, hs, hlen, ⟨ft, ht⟩, rn⟩ := j.renew
    cases hs
    simp only [Rps] at ht
    obtain ⟨rfl, rfl⟩ := ht
    have h := rn .lst _ ks.reverse (.lst ks.reverse) [.non] [.non] rfl fun fk ft hk ht => by
      obtain ⟨f', h5, h6⟩ := hk.rev
      exact ⟨f', [], h5, rps_non.mpr rfl, fun x => by have := List.perm_iff_count.mp h6 x; simp only [List.count_append, List.count_nil]; omega⟩
    exact ⟨a, ks, rfl, rfl, ho, k .non _ _ h.1 h.2⟩
  · cases e
theorem Rps.erase : ∀ {ds : List D} {vs : List V} {fp : List Addr} {n : Nat} {d : D}, Rps cl A L H b ds vs fp → ds[n]? = some d → ∃ v fn fr, vs[n]? = some v ∧ Rp cl A L H b d v fn ∧ Rps cl A L H b (ds.eraseIdx n) (vs.eraseIdx n) fr ∧ fp.Perm (fn ++ fr)
  | [], vs, fp, n, d, h, e => by simp at e
  | d0 :: ds, vs, fp, 0, d, h, e => by
    simp only [Rps] at h
    obtain ⟨v, vs', f1, f2, rfl, rfl, h3, h4⟩ := h
    cases e
    exact ⟨v, f1, f2, rfl, h3, h4, .refl _⟩
  | d0 :: ds, vs, fp, n + 1, d, h, e => by
    simp only [Rps] at h
    obtain ⟨v, vs', f1, f2, rfl, rfl, h3, h4⟩ := h
    obtain ⟨w, fn, fr, k1, k2, k3, k4⟩ := Rps.erase h4 (by simpa using e)
    refine ⟨w, fn, f1 ++ fr, by simpa using k1, k2, ?_, perm_ct fun x => ?_⟩
    · simp only [List.eraseIdx_cons_succ, Rps]
      exact ⟨v, _, f1, fr, rfl, rfl, h3, k3⟩
    · have := List.perm_iff_count.mp k4 x
      simp only [List.count_append] at this ⊢
      omega
def mPopAt : D → List D → Option (D × D)
  | .n .lst .own xs, [.v (.int i)] => if xs.length ≤ 100000 then (ixN xs.length i).bind fun k => (xs[k]?).map fun y => (.n .lst .own (xs.eraseIdx k), y) else none
  | _, _ => none
theorem mo_popAt : MOp cl rPopAt mPopAt := by
  intro A L B H δ σ c v xs us c' y Q j e k
  unfold mPopAt at e
  split at e
  · rename_i ys i
    split at e
    case isFalse => cases e
    rename_i hbig
    obtain ⟨n, e1, e2⟩ := Option.bind_eq_some_iff.mp e
    obtain ⟨d, e3, e4⟩ := Option.map_eq_some_iff.mp e2
    cases e4
    obtain ⟨a, o, ks, rfl, ho, hs, hlen, ⟨ft, ht⟩, rn⟩ := j.renew
    cases hs
    simp only [Rps] at ht
    obtain ⟨w, _, f1, f2, rfl, rfl, hw, rfl, rfl⟩ := ht
    obtain ⟨rfl, rfl, _⟩ := hw.leafv
    obtain ⟨q1, q2, q3, q4⟩ := ixN_seq e1
    have hn : n < ks.length := by omega
    have h := rn .lst (ys.eraseIdx n) (ks.eraseIdx n) (.lst (ks.eraseIdx n)) [y] [ks[n]] rfl fun fk ft hk ht => by
      obtain ⟨v, fn, fr, k1, k2, k3, k4⟩ := hk.erase e3
      rw [List.getElem?_eq_getElem hn] at k1
      cases k1
      refine ⟨fr, fn, k3, by simp only [Rps]; exact ⟨_, [], fn, [], rfl, by simp, k2, rfl, rfl⟩, fun x => ?_⟩
      have := List.perm_iff_count.mp k4 x
      simp only [List.count_append] at this ⊢
      omega
    exact ⟨a, ks, i, n, ks[n], rfl, rfl, ho, by omega, by omega, by rw [← hlen]; exact q1, List.getElem?_eq_getElem hn, k _ _ _ h.1 h.2⟩
  · cases e
theorem mo_extend : MOp cl rExtend mExtend := by
  intro A L B H δ σ c v xs us c' y Q j e k
  unfold mExtend at e
  split at e
  · rename_i acc w0 ys
    split at e
    · rename_i hl
      cases e
      obtain ⟨a, o, ks, rfl, ho, hs, hlen, ⟨ft, ht⟩, rn⟩ := j.renew
      cases hs
      simp only [Rps] at ht
      obtain ⟨w, _, f1, f2, rfl, rfl, hw, rfl, rfl⟩ := ht
      obtain ⟨a2, o2, vs2, fp2, rfl, ho2, hs2, hr2, _⟩ := (hw.weak (b := true)).node
      cases hs2
      have h := rn .lst (acc ++ ys) (ks ++ vs2) (.lst (ks ++ vs2)) [.non] [.non] rfl fun fk ft hk ht => ⟨fk ++ [], [], hk.append (hr2.keptS hl.2), rps_non.mpr rfl, fun x => by simp⟩
      exact ⟨a, a2, ks, vs2, rfl, rfl, ho, ho2, by rw [← hlen, ← hr2.length]; exact sz_of hl.1, k .non _ _ h.1 h.2⟩
    · cases e
  · cases e
/-! stores: x[k] = y, x.f = y -/
def putKs : List Key → Key → List Key
  | [], k => [k]
  | k' :: ks, k => if k' = k then k' :: ks else k' :: putKs ks k
def putVs {α : Type} : List Key → List α → Key → α → List α
  | [], xs, _, y => xs ++ [y]
  | _ :: _, [], _, y => [y]
  | k' :: ks, x :: xs, k, y => if k' = k then y :: xs else x :: putVs ks xs k y
theorem putKs_cons {k' k : Key} {ks : List Key} (h : k' ≠ k) : putKs (k' :: ks) k = k' :: putKs ks k := by
  simp only [putKs, if_neg h]
theorem Rps.setAt : ∀ {ds : List D} {vs : List V} {fk fy : List Addr} {n : Nat} {d : D} {w : V}, Rps cl A L H b ds vs fk → Rp cl A L H b d w fy → ∃ f', Rps cl A L H b (ds.set n d) (vs.set n w) f' ∧ ∀ x, f'.count x ≤ (fk ++ fy).count x
  | [], vs, fk, fy, n, d, w, h, hd => by
    simp only [Rps] at h
    obtain ⟨rfl, rfl⟩ := h
    exact ⟨[], by simp [Rps], fun x => by simp⟩
  | d0 :: ds, vs, fk, fy, 0, d, w, h, hd => by
    simp only [Rps] at h
    obtain ⟨v, vs', f1, f2, rfl, rfl, h3, h4⟩ := h
    refine ⟨fy ++ f2, by simp only [List.set_cons_zero, Rps]; exact ⟨w, vs', fy, f2, rfl, rfl, hd, h4⟩, fun x => ?_⟩
    simp only [List.count_append]; omega
  | d0 :: ds, vs, fk, fy, n + 1, d, w, h, hd => by
    simp only [Rps] at h
    obtain ⟨v, vs', f1, f2, rfl, rfl, h3, h4⟩ := h
    obtain ⟨f', h5, h6⟩ := Rps.setAt (n := n) h4 hd
    refine ⟨f1 ++ f', by simp only [List.set_cons_succ, Rps]; exact ⟨v, _, f1, f', rfl, rfl, h3, h5⟩, fun x => ?_⟩
    have := h6 x
    simp only [List.count_append] at this ⊢
    omega
theorem map_noop {ks : List Key} {vs : List V} {k : Key} {y : V} (h : k ∉ ks) : (ks.zip vs).map (fun kv => if kv.1 = k then (kv.1, y) else kv) = ks.zip vs := by
  refine (List.map_congr_left fun kv hkv => ?_).trans (List.map_id _)
  rw [if_neg fun e => h (by rw [← e]; exact (List.of_mem_zip hkv).1)]; rfl
theorem putK_zip : ∀ {ks : List Key} {vs : List V} (k : Key) (y : V), ks.Nodup → ks.length = vs.length → putK (ks.zip vs) k y = (putKs ks k).zip (putVs ks vs k y)
  | [], [], k, y, _, _ => by simp [putK, putKs, putVs]
  | [], _ :: _, k, y, _, h => by cases h
  | _ :: _, [], k, y, _, h => by cases h
  | k' :: ks, v :: vs, k, y, hn, h => by
    have hn' := List.nodup_cons.mp hn
    have ih := putK_zip (ks := ks) (vs := vs) k y hn'.2 (by simpa using h)
    by_cases e : k' = k
    · subst e
      simp only [putK, List.zip_cons_cons, List.any_cons, decide_true, Bool.true_or, if_true, List.map_cons, putVs, putKs]
      rw [map_noop hn'.1]
    · rw [putKs_cons e]
      simp only [putVs, if_neg e, List.zip_cons_cons]
      rw [← ih]
      unfold putK
      simp only [List.zip_cons_cons, List.any_cons, decide_eq_false e, Bool.false_or, List.map_cons, if_neg e]
      split <;> rfl
theorem putVs_len {α : Type} : ∀ {ks : List Key} {xs : List α} {k : Key} {y : α}, ks.length = xs.length → (putKs ks k).length = (putVs ks xs k y).length
  | [], xs, k, y, h => by simp [putKs, putVs] at h ⊢; exact List.eq_nil_of_length_eq_zero h.symm
  | k' :: ks, [], k, y, h => by cases h
  | k' :: ks, x :: xs, k, y, h => by
    by_cases e : k' = k
    · subst e; simp [putKs, putVs] at h ⊢; exact h
    · rw [putKs_cons e]; simp only [putVs, if_neg e, List.length_cons]; rw [putVs_len (by simpa using h)]
theorem Rps.putVs : ∀ {ks : List Key} {ds : List D} {vs : List V} {fk fy : List Addr} {k : Key} {d : D} {w : V}, ks.length = ds.length → Rps cl A L H b ds vs fk → Rp cl A L H b d w fy → ∃ f', Rps cl A L H b (Fs.putVs ks ds k d) (Fs.putVs ks vs k w) f' ∧ ∀ x, f'.count x ≤ (fk ++ fy).count x
  | [], ds, vs, fk, fy, k, d, w, hl, h, hd => by
    cases ds with
    | cons => cases hl
    | nil =>
      simp only [Rps] at h
      obtain ⟨rfl, rfl⟩ := h
      refine ⟨fy, ?_, fun x => by simp⟩
      simp only [Fs.putVs, List.nil_append, Rps]
      exact ⟨w, [], fy, [], rfl, by simp, hd, rfl, rfl⟩
  | k' :: ks, [], vs, fk, fy, k, d, w, hl, h, hd => by cases hl
  | k' :: ks, d0 :: ds, vs, fk, fy, k, d, w, hl, h, hd => by
    simp only [Rps] at h
    obtain ⟨v, vs', f1, f2, rfl, rfl, h3, h4⟩ := h
    simp only [Fs.putVs]
    by_cases e : k' = k
    · rw [if_pos e, if_pos e]
      refine ⟨fy ++ f2, by simp only [Rps]; exact ⟨w, vs', fy, f2, rfl, rfl, hd, h4⟩, fun x => ?_⟩
      simp only [List.count_append]; omega
    · rw [if_neg e, if_neg e]
      obtain ⟨f', h5, h6⟩ := Rps.putVs (k := k) (by simpa using hl) h4 hd
      refine ⟨f1 ++ f', by simp only [Rps]; exact ⟨v, _, f1, f', rfl, rfl, h3, h5⟩, fun x => ?_⟩
      have := h6 x
      simp only [List.count_append] at this ⊢
      omega
def rSetA : V → List V → Hp → VK → Prop := fun o us H Q => match us with
  | [i, v] => rSetL o i v H (fun H' => Q .non H') ∨ rSetD o i v H (fun H' => Q .non H')
  | _ => False
def mSet : D → List D → Option (D × D)
  | .n .lst .own xs, [.v (.int i), y] => (ixN xs.length i).map fun k => (.n .lst .own (xs.set k y), .non)
  | .n (.dct ks) .own xs, [k, y] => (keyD k).bind fun k => if ks.Nodup ∧ xs.length < 100000 then some (.n (.dct (putKs ks k)) .own (putVs ks xs k y), .non) else none
  | _, _ => none
theorem mo_set : MOp cl rSetA mSet := by
  intro A L B H δ σ c v xs us c' y Q j e k
  unfold mSet at e
  split at e
  · rename_i ys i z
    obtain ⟨n, e1, e2⟩ := Option.map_eq_some_iff.mp e
    cases e2
    obtain ⟨a, o, ks, rfl, ho, hs, hlen, ⟨ft, ht⟩, rn⟩ := j.renew
    cases hs
    simp only [Rps] at ht
    obtain ⟨w, _, f1, f2, rfl, rfl, hw, w2, _, f3, f4, rfl, rfl, hw2, rfl, rfl⟩ := ht
    obtain ⟨rfl, rfl, _⟩ := hw.leafv
    obtain ⟨q1, q2, q3, q4⟩ := ixN_seq e1
    have h := rn .lst (ys.set n z) (ks.set n w2) (.lst (ks.set n w2)) [.non] [.non] rfl fun fk ft hk ht => by
      simp only [Rps] at ht
      obtain ⟨_, _, g1, g2, e5, rfl, hg, w3, _, g3, g4, e6, rfl, hg2, rfl, rfl⟩ := ht
      cases e5; cases e6
      obtain ⟨_, rfl, _⟩ := hg.leafv
      obtain ⟨f', h5, h6⟩ := Rps.setAt (n := n) hk hg2
      refine ⟨f', [], h5, rps_non.mpr rfl, fun x => ?_⟩
      have := h6 x
      simp only [List.count_append, List.count_nil] at this ⊢
      omega
    exact .inl ⟨a, ks, i, n, rfl, rfl, ho, by rw [← hlen]; exact e1, k .non _ _ h.1 h.2⟩
  · rename_i ks ys kk z
    obtain ⟨n, e1, e2⟩ := Option.bind_eq_some_iff.mp e
    split at e2
    · rename_i hl
      cases e2
      obtain ⟨a, o, us, rfl, ho, hs, hlen, ⟨ft, ht⟩, rn⟩ := j.renew
      obtain ⟨hkl, rfl⟩ := hs
      simp only [Rps] at ht
      obtain ⟨w, _, f1, f2, rfl, rfl, hw, w2, _, f3, f4, rfl, rfl, hw2, rfl, rfl⟩ := ht
      have hk := keyD_ok hw e1
      subst hk
      have h := rn (.dct (putKs ks n)) (putVs ks ys n z) (putVs ks us n w2) (.dK ((putKs ks n).zip (putVs ks us n w2))) [.non] [.non] ⟨putVs_len hkl, rfl⟩ fun fk ft hk ht => by
        simp only [Rps] at ht
        obtain ⟨_, _, g1, g2, e5, rfl, hg, w3, _, g3, g4, e6, rfl, hg2, rfl, rfl⟩ := ht
        cases e5; cases e6
        obtain ⟨f', h5, h6⟩ := Rps.putVs (k := n) (hkl.trans hlen.symm) hk hg2
        refine ⟨f', [], h5, rps_non.mpr rfl, fun x => ?_⟩
        have := h6 x
        simp only [List.count_append, List.count_nil] at this ⊢
        omega
      refine .inr ⟨a, _, rfl, DPut.k ho ?_, ?_⟩
      · rw [List.length_zip, hkl, Nat.min_self, ← hlen]; exact sz_lt hl.2
      · rw [putK_zip n w2 hl.1 hkl]
        exact k .non _ _ h.1 h.2
    · cases e2
  · cases e
/-! fields -/
def putFs : List Str → Str → List Str
  | [], f => [f]
  | g :: fs, f => if g = f then g :: fs else g :: putFs fs f
def putXs {α : Type} : List Str → List α → Str → α → List α
  | [], xs, _, y => xs ++ [y]
  | _ :: _, [], _, y => [y]
  | g :: fs, x :: xs, f, y => if g = f then y :: xs else x :: putXs fs xs f y
theorem putF_zip : ∀ {fs : List Str} {vs : List V} (f : Str) (y : V), fs.length = vs.length → putF f y (fs.zip vs) = (putFs fs f).zip (putXs fs vs f y)
  | [], [], f, y, _ => rfl
  | [], _ :: _, f, y, h => by cases h
  | _ :: _, [], f, y, h => by cases h
  | g :: fs, v :: vs, f, y, h => by
    simp only [List.zip_cons_cons, putF, putFs, putXs]
    by_cases e : g = f
    · simp only [if_pos e, List.zip_cons_cons]
    · simp only [if_neg e, List.zip_cons_cons]; rw [putF_zip f y (by simpa using h)]
theorem putXs_len {α : Type} : ∀ {fs : List Str} {xs : List α} {f : Str} {y : α}, fs.length = xs.length → (putFs fs f).length = (putXs fs xs f y).length
  | [], xs, f, y, h => by simp [putFs, putXs] at h ⊢; exact List.eq_nil_of_length_eq_zero h.symm
  | g :: fs, [], f, y, h => by cases h
  | g :: fs, x :: xs, f, y, h => by
    simp only [putFs, putXs]
    by_cases e : g = f
    · simp only [if_pos e, List.length_cons]; simpa using h
    · simp only [if_neg e, List.length_cons]; rw [putXs_len (by simpa using h)]
theorem Rps.putXs : ∀ {fs : List Str} {ds : List D} {vs : List V} {fk fy : List Addr} {f : Str} {d : D} {w : V}, fs.length = ds.length → Rps cl A L H b ds vs fk → Rp cl A L H b d w fy → ∃ f', Rps cl A L H b (Fs.putXs fs ds f d) (Fs.putXs fs vs f w) f' ∧ ∀ x, f'.count x ≤ (fk ++ fy).count x
  | [], ds, vs, fk, fy, k, d, w, hl, h, hd => by
    cases ds with
    | cons => cases hl
    | nil =>
      simp only [Rps] at h
      obtain ⟨rfl, rfl⟩ := h
      refine ⟨fy, ?_, fun x => by simp⟩
      simp only [Fs.putXs, List.nil_append, Rps]
      exact ⟨w, [], fy, [], rfl, by simp, hd, rfl, rfl⟩
  | k' :: ks, [], vs, fk, fy, k, d, w, hl, h, hd => by cases hl
  | k' :: ks, d0 :: ds, vs, fk, fy, k, d, w, hl, h, hd => by
    simp only [Rps] at h
    obtain ⟨v, vs', f1, f2, rfl, rfl, h3, h4⟩ := h
    simp only [Fs.putXs]
    by_cases e : k' = k
    · rw [if_pos e, if_pos e]
      refine ⟨fy ++ f2, by simp only [Rps]; exact ⟨w, vs', fy, f2, rfl, rfl, hd, h4⟩, fun x => ?_⟩
      simp only [List.count_append]; omega
    · rw [if_neg e, if_neg e]
      obtain ⟨f', h5, h6⟩ := Rps.putXs (f := k) (by simpa using hl) h4 hd
      refine ⟨f1 ++ f', by simp only [Rps]; exact ⟨v, _, f1, f', rfl, rfl, h3, h5⟩, fun x => ?_⟩
      have := h6 x
      simp only [List.count_append] at this ⊢
      omega
def rPutF (K : PySem.W.Frag) (f : Str) : V → List V → Hp → VK → Prop := fun x us H Q => match us with
  | [y] => ∃ a C dx fs, x = .ref a ∧ H a = some (.ins C dx fs) ∧ Cls K C ∧ NoAttr K C f ∧ fs.length < 1000 ∧ Q .non (upd H a (.ins C dx (putF f y fs)))
  | _ => False
def mFld (c : Nat) (f : Str) : D → List D → Option (D × D)
  | .n (.obj c' fs) .own xs, [y] => if c' = c ∧ fs.length < 1000 then some (.n (.obj c' (putFs fs f)) .own (putXs fs xs f y), .non) else none
  | _, _ => none
theorem mo_fld {K : PySem.W.Frag} {c : Nat} {f : Str} (hc : Cls K (cl.c c)) (hn : NoAttr K (cl.c c) f) : MOp cl (rPutF K f) (mFld c f) := by
  intro A L B H δ σ c0 v xs us c' y Q j e k
  unfold mFld at e
  split at e
  · rename_i cc fs ys z
    split at e
    · rename_i hl
      cases e
      obtain ⟨rfl, hl⟩ := hl
      obtain ⟨a, o, us, rfl, ho, hs, hlen, ⟨ft, ht⟩, rn⟩ := j.renew
      obtain ⟨hkl, dx, rfl⟩ := hs
      simp only [Rps] at ht
      obtain ⟨w, _, f1, f2, rfl, rfl, hw, rfl, rfl⟩ := ht
      have h := rn (.obj cc (putFs fs f)) (putXs fs ys f z) (putXs fs us f w) (.ins (cl.c cc) dx ((putFs fs f).zip (putXs fs us f w))) [.non] [.non] ⟨putXs_len hkl, dx, rfl⟩ fun fk ft hk ht => by
        simp only [Rps] at ht
        obtain ⟨_, _, g1, g2, e5, rfl, hg, rfl, rfl⟩ := ht
        cases e5
        obtain ⟨f', h5, h6⟩ := Rps.putXs (f := f) (hkl.trans hlen.symm) hk hg
        refine ⟨f', [], h5, rps_non.mpr rfl, fun x => ?_⟩
        have := h6 x
        simp only [List.count_append, List.count_nil] at this ⊢
        omega
      refine ⟨a, _, dx, _, rfl, ho, hc, hn, ?_, ?_⟩
      · rw [List.length_zip, hkl, Nat.min_self, ← hkl]; exact hl
      · rw [putF_zip f w hkl]
        exact k .non _ _ h.1 h.2
    · cases e
  · cases e
end
end Fs
/-! F35 -/
set_option maxHeartbeats 1000000
/-! Places in the text; methods that change, stores, fields. -/
namespace Fs
open PySem PySem.Spec PyProof.Rows L2
abbrev PL := Sl → Option (Nat × List Nat)
def SL (cl : Ec) (te : TE) (pl : PL) : Prop := ∀ A L H δ σ g i π d c v0 vc Q, Rpo cl A L H δ σ g → pl δ = some (i, π) → (δ[i]?).join = some d → getP π d = some c → σ[i]? = some (some v0) → AtP H v0 π vc → Q vc H → te σ H Q
def plV (i : Nat) : PL := fun _ => some (i, [])
def ixS (f : Str) : List Str → Option Nat
  | [] => none
  | g :: fs => if g = f then some 0 else (ixS f fs).map (· + 1)
def ixK' (k : Key) : List Key → Option Nat
  | [] => none
  | g :: fs => if g = k then some 0 else (ixK' k fs).map (· + 1)
/-- the thing at a place -/
def atPl (δ : Sl) (q : Nat × List Nat) : Option D := ((δ[q.1]?).join).bind (getP q.2)
def plF (c : Nat) (f : Str) (pl : PL) : PL := fun δ => (pl δ).bind fun q => (atPl δ q).bind fun x => match x with
  | .n (.obj c' fs) _ _ => if c' = c then (ixS f fs).map fun n => (q.1, q.2 ++ [n]) else none
  | _ => none
def plI (pl : PL) (pb : PP) : PL := fun δ => (pl δ).bind fun q => (atPl δ q).bind fun x => (pb δ).bind fun y => match x, y with
  | .n .lst _ xs, .v (.int i) => (ixN xs.length i).map fun n => (q.1, q.2 ++ [n])
  | .n (.dct ks) _ _, y => (keyD y).bind fun k => (ixK' k ks).map fun n => (q.1, q.2 ++ [n])
  | _, _ => none
section
variable {cl : Ec} {xf : Nat → List Str} {W : WX} {ws : Nat → Bool} {A A' L L' B : Addr → Prop} {H H' : Hp} {δ δ' : Sl} {σ σ' : L2.St} {p q b : Bool} {te ta tb tc : TE} {tA : TA} {tt tu : TT} {t u : TS} {ts : List D} {vs : List V}
theorem sl_var {i : Nat} : SL cl (tVar i) (plV i) := by
  intro A L H δ σ g j π d c v0 vc Q h e hd hp hv ha k
  cases e
  cases ha
  exact ⟨v0, hv, k⟩
theorem getP_app {n : Nat} : ∀ {π : List Nat} {d c : D}, getP (π ++ [n]) d = some c → ∃ k w ds, getP π d = some (.n k w ds) ∧ ds[n]? = some c
  | [], .v x, c, h => by cases h
  | [], .s x, c, h => by cases h
  | [], .n k w ds, c, h => by
    simp only [List.nil_append, getP] at h
    obtain ⟨c', h1, h2⟩ := Option.bind_eq_some_iff.mp h
    cases h2
    exact ⟨k, w, ds, rfl, h1⟩
  | i :: π, .v x, c, h => by cases h
  | i :: π, .s x, c, h => by cases h
  | i :: π, .n k w ds, c, h => by
    simp only [List.cons_append, getP] at h ⊢
    obtain ⟨c', h1, h2⟩ := Option.bind_eq_some_iff.mp h
    obtain ⟨k', w', ds', h3, h4⟩ := getP_app h2
    exact ⟨k', w', ds', by rw [h1]; exact h3, h4⟩
theorem AtP_app {n : Nat} : ∀ {π : List Nat} {v w : V}, AtP H v (π ++ [n]) w → ∃ a o us, AtP H v π (.ref a) ∧ H a = some o ∧ kids o = some us ∧ us[n]? = some w
  | [], v, w, h => by
    obtain ⟨a, o, us, v1, rfl, h2, h3, h4, rfl⟩ := h
    exact ⟨a, o, us, rfl, h2, h3, h4⟩
  | i :: π, v, w, h => by
    obtain ⟨a, o, us, v1, rfl, h2, h3, h4, h5⟩ := h
    obtain ⟨a', o', us', k1, k2, k3, k4⟩ := AtP_app h5
    exact ⟨a', o', us', ⟨a, o, us, v1, rfl, h2, h3, h4, k1⟩, k2, k3, k4⟩
theorem AtP.det : ∀ {π : List Nat} {v w w' : V}, AtP H v π w → AtP H v π w' → w = w'
  | [], v, w, w', h, h' => by cases h; cases h'; rfl
  | i :: π, v, w, w', h, h' => by
    obtain ⟨a, o, us, v1, rfl, h2, h3, h4, h5⟩ := h
    obtain ⟨a', o', us', v1', e, h2', h3', h4', h5'⟩ := h'
    cases e
    rw [h2] at h2'; cases h2'
    rw [h3] at h3'; cases h3'
    rw [h4] at h4'; cases h4'
    exact AtP.det h5 h5'
theorem AtP.ex : ∀ {π : List Nat} {v w : V}, AtP H v π w → Ex H H' → AtP H' v π w
  | [], v, w, h, _ => h
  | i :: π, v, w, h, x => by
    obtain ⟨a, o, us, v1, rfl, h2, h3, h4, h5⟩ := h
    exact ⟨a, o, us, v1, rfl, x a o h2, h3, h4, h5.ex x⟩
theorem Nx.ex (n : Nx A A H A' H') : Ex H H' := fun a o h => by
  by_cases hA : A a
  · rw [(n.prot a hA).1]; exact h
  · exact n.keep a o h hA
theorem Rp.atP : ∀ {π : List Nat} {d c : D} {v w : V} {fp : List Addr}, Rp cl A L H true d v fp → getP π d = some c → AtP H v π w → ∃ fp', Rp cl A L H true c w fp'
  | [], d, c, v, w, fp, h, e, ha => by cases e; cases ha; exact ⟨fp, h⟩
  | i :: π, .v x, c, v, w, fp, h, e, ha => by simp [getP] at e
  | i :: π, .s x, c, v, w, fp, h, e, ha => by simp [getP] at e
  | i :: π, .n k fl ds, c, v, w, fp, h, e, ha => by
    simp only [getP] at e
    obtain ⟨c', h1, h2⟩ := Option.bind_eq_some_iff.mp e
    obtain ⟨a, o, us, fp', rfl, ho, hs, hr, hf⟩ := h.node
    obtain ⟨a', o', us', v1, e', k2, k3, k4, k5⟩ := ha
    cases e'
    rw [ho] at k2
    cases k2
    have hk : k.isDcl = false := by
      cases k with
      | dcl ks => obtain ⟨_, ob, rfl⟩ := hs; cases k3
      | _ => rfl
    rw [hs.kids hk] at k3
    cases k3
    obtain ⟨v2, f1, g1, g2, g3⟩ := hr.get h1
    rw [k4] at g1
    cases g1
    exact Rp.atP g2 h2 k5
theorem ixS_lookup {f : Str} : ∀ {fs : List Str} {us : List V} {n : Nat} {w : V}, ixS f fs = some n → us[n]? = some w → (fs.zip us).lookup f = some w
  | [], us, n, w, h, e => by cases h
  | g :: fs, [], n, w, h, e => by simp at e
  | g :: fs, u :: us, n, w, h, e => by
    unfold ixS at h
    rw [List.zip_cons_cons, List.lookup_cons]
    split at h
    · rename_i hg
      cases h
      subst hg
      simp only [beq_self_eq_true]
      simpa using e
    · rename_i hg
      obtain ⟨m, h1, rfl⟩ := Option.map_eq_some_iff.mp h
      have : (f == g) = false := by rw [beq_eq_false_iff_ne]; exact fun z => hg z.symm
      rw [this]
      exact ixS_lookup h1 (by simpa using e)
theorem ixK_lk {k : Key} : ∀ {ks : List Key} {us : List V} {n : Nat} {w : V}, ixK' k ks = some n → us[n]? = some w → lkD ks us k = some w
  | [], us, n, w, h, e => by cases h
  | g :: fs, [], n, w, h, e => by simp at e
  | g :: fs, u :: us, n, w, h, e => by
    unfold ixK' at h
    unfold lkD
    split at h
    · rename_i hg
      cases h
      rw [if_pos hg]
      simpa using e
    · rename_i hg
      obtain ⟨m, h1, rfl⟩ := Option.map_eq_some_iff.mp h
      rw [if_neg hg]
      exact ixK_lk h1 (by simpa using e)
theorem sl_fld {K : PySem.W.Frag} {c : Nat} {f : Str} {pl : PL} (hc : Cls K (cl.c c)) (hn : NoAttr K (cl.c c) f) (h : SL cl te pl) : SL cl (tUn (rFld K f) te) (plF c f pl) := by
  intro A L H δ σ g j π d c0 v0 vc Q hr e hd hp hv ha k
  unfold plF at e
  obtain ⟨q, e1, e2⟩ := Option.bind_eq_some_iff.mp e
  obtain ⟨x, e3, e4⟩ := Option.bind_eq_some_iff.mp e2
  split at e4
  · rename_i c' fs w ds
    split at e4
    · rename_i hcc
      subst hcc
      obtain ⟨n, e5, e6⟩ := Option.map_eq_some_iff.mp e4
      cases e6
      obtain ⟨a, o, us, k1, k2, k3, k4⟩ := AtP_app ha
      unfold atPl at e3
      rw [hd] at e3
      simp only [Option.bind_some] at e3
      refine h A L H δ σ g q.1 q.2 d _ v0 (.ref a) _ hr (by rw [e1]) hd e3 hv k1 ?_
      obtain ⟨v1, f1, g1, g2, g3⟩ := hr.get (join_some hd)
      rw [hv] at g1
      cases g1
      obtain ⟨fp', g4⟩ := g2.atP e3 k1
      obtain ⟨a', o', us', fp2, e', ho, hs, hr2, _⟩ := g4.node
      cases e'
      obtain ⟨hl, dx, rfl⟩ := hs
      rw [ho] at k2
      cases k2
      simp only [kids, Option.some.injEq] at k3
      rw [zip_snd _ _ hl] at k3
      subst k3
      exact ⟨a, _, dx, _, vc, rfl, ho, hc, hn, ixS_lookup e5 k4, k⟩
    · cases e4
  · cases e4
theorem sl_ix {pl : PL} {pb : PP} (h : SL cl te pl) (hb : SP cl tb pb) : SL cl (tOp (rIxA cl.K) te tb) (plI pl pb) := by
  intro A L H δ σ g j π d c0 v0 vc Q hr e hd hp hv ha k
  unfold plI at e
  obtain ⟨q, e1, e2⟩ := Option.bind_eq_some_iff.mp e
  obtain ⟨x, e3, e4⟩ := Option.bind_eq_some_iff.mp e2
  obtain ⟨y, e5, e6⟩ := Option.bind_eq_some_iff.mp e4
  split at e6
  · rename_i w xs i
    obtain ⟨n, e7, e8⟩ := Option.map_eq_some_iff.mp e6
    cases e8
    obtain ⟨a, o, us, k1, k2, k3, k4⟩ := AtP_app ha
    unfold atPl at e3
    rw [hd] at e3
    simp only [Option.bind_some] at e3
    refine h A L H δ σ g q.1 q.2 d _ v0 (.ref a) _ hr (by rw [e1]) hd e3 hv k1 ?_
    refine hb A L H δ σ g _ _ hr e5 fun yv fy hy _ => ?_
    obtain ⟨rfl, _, _⟩ := hy.leafv
    obtain ⟨v1, f1, g1, g2, g3⟩ := hr.get (join_some hd)
    rw [hv] at g1
    cases g1
    obtain ⟨fp', g4⟩ := g2.atP e3 k1
    obtain ⟨a', o', us', fp2, e', ho, hs, hr2, _⟩ := g4.node
    cases e'
    cases hs
    rw [ho] at k2
    cases k2
    cases k3
    refine .inl (.inl ⟨a, us, i, vc, rfl, rfl, SqL.of ho, ?_, k⟩)
    unfold atI
    rw [← hr2.length, e7]
    exact k4
  · rename_i ks w xs y'
    obtain ⟨kk, e7, e8⟩ := Option.bind_eq_some_iff.mp e6
    obtain ⟨n, e9, e10⟩ := Option.map_eq_some_iff.mp e8
    cases e10
    obtain ⟨a, o, us, k1, k2, k3, k4⟩ := AtP_app ha
    unfold atPl at e3
    rw [hd] at e3
    simp only [Option.bind_some] at e3
    refine h A L H δ σ g q.1 q.2 d _ v0 (.ref a) _ hr (by rw [e1]) hd e3 hv k1 ?_
    refine hb A L H δ σ g _ _ hr e5 fun yv fy hy _ => ?_
    have hk := keyD_ok hy e7
    subst hk
    obtain ⟨v1, f1, g1, g2, g3⟩ := hr.get (join_some hd)
    rw [hv] at g1
    cases g1
    obtain ⟨fp', g4⟩ := g2.atP e3 k1
    obtain ⟨a', o', us', fp2, e', ho, hs, hr2, _⟩ := g4.node
    cases e'
    obtain ⟨hl, rfl⟩ := hs
    rw [ho] at k2
    cases k2
    simp only [kids, Option.some.injEq] at k3
    rw [zip_snd _ _ hl] at k3
    subst k3
    refine .inr ⟨a, vc, rfl, ?_, k⟩
    rw [← ixK_lk e9 k4, ← lkD_valV]
    exact DGet.k ho
  · cases e6
/-- a pure run beside temporaries -/
theorem Jt.backQ {us : List D} {xs : List V} (h0 : Jt p cl A L B H ts vs δ σ) (x : Nx A A H A' H') (j : Jt true cl A' L A H' us xs δ σ) : Jt p cl A' L B H' (ts ++ us) (vs ++ xs) δ σ := by
  obtain ⟨f, g, h1, h2, h3, h4, h5⟩ := h0.ex
  obtain ⟨f2, g2, k1, k2, k3, k4, k5⟩ := j.ex
  have nd := List.nodup_append.mp h3
  have fA : ∀ a ∈ f, A a := fun a ha => (h1.inA a ha).1
  have gA : ∀ a ∈ g, A a := fun a ha => (h2.inA a ha).1
  have nd2 := List.nodup_append.mp k3
  refine ⟨⟨f ++ f2, g, Rps.append (h1.step x.both (fun a ha => x.prot a (fA a ha)) (by simp)) k1, h2.step x.both (fun a ha => x.prot a (gA a ha)) (fun a h => ⟨(x.prot a (h0.ba a (h0.lb a h))).1, h⟩), ?_, ?_, h5⟩, h0.lb, fun a h => (x.prot a (h0.ba a h)).2, j.ad⟩
  · rw [List.append_assoc]
    refine List.nodup_append.mpr ⟨nd.1, List.nodup_append.mpr ⟨nd2.1, nd.2.1, fun a ha c hc e => ?_⟩, fun a ha c hc e => ?_⟩
    · subst e; exact k4 a ha (gA a hc)
    · subst e
      rcases List.mem_append.mp hc with hc | hc
      · exact k4 a hc (fA a ha)
      · exact nd.2.2 a ha a hc rfl
  · intro a ha q
    rcases List.mem_append.mp ha with ha | ha
    · exact h4 a ha q
    · exact k4 a ha (h0.ba a q)
theorem Jt.swap {x y : D} {u w : V} (j : Jt p cl A L B H [x, y] [u, w] δ σ) : Jt p cl A L B H [y, x] [w, u] δ σ := by
  obtain ⟨f, g, h1, h2, h3, h4, h5⟩ := j.ex
  simp only [Rps] at h1
  obtain ⟨_, _, f1, f2, e, rfl, hx, _, _, f3, f4, e2, rfl, hy, rfl, rfl⟩ := h1
  cases e; cases e2
  refine ⟨⟨f3 ++ (f1 ++ []), g, by simp only [Rps]; exact ⟨w, [u], f3, f1 ++ [], rfl, rfl, hy, u, [], f1, [], rfl, rfl, hx, rfl, rfl⟩, h2, ?_, fun a ha => h4 a (by simp at ha ⊢; exact ha.symm), h5⟩, j.lb, j.ba, j.ad⟩
  have hp : (f3 ++ (f1 ++ []) ++ g).Perm (f1 ++ (f3 ++ []) ++ g) := perm_ct fun x => by simp only [List.count_append, List.count_nil]; omega
  exact hp.nodup_iff.mpr h3
/-! methods that change -/
def dMutC (pl : PL) (chk : D → Bool) (k : Nat → List Nat → D → D → Out D) : DE := fun δ => match pl δ with
  | none => .bad
  | some (i, π) => match (δ[i]?).join with
    | none => .bad
    | some d => match getP π d with
      | none => .bad
      | some c => if d.free && ownP π d && chk c then k i π d c else .bad
def mutEnd (op : D → List D → Option (D × D)) (i : Nat) (π : List Nat) (d c : D) (xs : List D) (δ1 : Sl) : Out D := match op c xs with
  | some r => .ok r.2 (δ1.set i (some (setP π d r.1)))
  | none => .bad
def dMut (pl : PL) (T : String) (op : D → List D → Option (D × D)) (r : DA) : DE := fun δ => dMutC pl (fun c => (tyF T c).isSome) (fun i π d c => (r δ).bind fun xs δ1 => mutEnd op i π d c xs δ1) δ
theorem se_mut {pl : PL} {T : String} {rr : V → List V → Hp → VK → Prop} {op : D → List D → Option (D × D)} {r : DA} (ho : SL cl te pl) (hr : SA cl xf W true tA r) (mo : MOp cl rr op) : SE cl xf W false (tBM cl.K T rr te tA) (dMut pl T op r) := by
  refine ⟨fun z => (by cases z), fun A L B H δ σ Q j k => ?_⟩
  unfold dMut dMutC at k
  split at k
  · exact k.elim
  · rename_i i π e1
    split at k
    · exact k.elim
    · rename_i d e2
      split at k
      · exact k.elim
      · rename_i c e3
        split at k
        · rename_i hc
          simp only [Bool.and_eq_true] at hc
          obtain ⟨⟨hfr, how⟩, hty⟩ := hc
          obtain ⟨v0, vc, B', h1, h2, _, _, _, _⟩ := j.focus e2 hfr e3 how
          obtain ⟨g, hg, nd, _⟩ := j.drop0
          refine ho A L H δ σ g i π d c v0 vc _ hg e1 e2 e3 h1 h2 ?_
          obtain ⟨v1, f1, g1, g2, g3⟩ := hg.get (join_some e2)
          rw [h1] at g1
          cases g1
          obtain ⟨fp', g4⟩ := g2.atP e3 h2
          obtain ⟨z, hz⟩ := Option.isSome_iff_exists.mp hty
          refine ⟨(tyF_ok g4 hz).2, ?_⟩
          have hp := hr.pure rfl δ
          refine hr.run A L A H δ σ _ j.toPure ?_
          cases e4 : r δ with
          | bad => rw [e4] at k; exact k.elim
          | exc cc xs s =>
            rw [e4] at k hp
            cases (show s = δ from hp)
            exact fun d us A2 H2 n2 x2 j2 => k d us A2 H2 (n2.weak j.ba) x2 (j.ofPure2 n2 j2)
          | ok xs s =>
            rw [e4] at k hp
            cases (show s = δ from hp)
            simp only [Out.bind] at k
            intro us A1 H1 n1 j1
            have j1' := j.ofPure n1 j1
            obtain ⟨v0', vc', B2, q1, q2, q3, q3', q4, q5⟩ := j1'.focus e2 hfr e3 how
            rw [h1] at q1
            cases q1
            have ev := (h2.ex n1.ex).det q2
            subst ev
            unfold mutEnd at k
            cases e5 : op c xs with
            | none => rw [e5] at k; exact k.elim
            | some rs =>
              obtain ⟨c', y⟩ := rs
              rw [e5] at k
              simp only at k
              have hlen : i < δ.length := by
                have := join_some e2
                exact (List.getElem?_eq_some_iff.mp this).1
              refine mo A1 L B2 H1 (δ.set i none) σ c vc xs us c' y Q q4 e5 fun w A2 H2 n2 j2 => ?_
              have j3 := q5 A2 H2 c' [y] [w] (δ.set i none) (by simp [hlen]) n2 j2
              rw [List.set_set] at j3
              exact k [w] A2 H2 ((n1.weak j.ba).trans (n2.weak q3)) j3 w rfl
        · exact k.elim
end
end Fs
/-! F36 -/
set_option maxHeartbeats 1000000
/-! Methods that change, with arguments that change things; stores; fields. -/
namespace Fs
open PySem PySem.Spec PyProof.Rows L2
def dMutI (pl : PL) (T : String) (op : D → List D → Option (D × D)) (r : DA) : DE := fun δ => dMutC pl (fun c => (tyF T c).isSome) (fun i π d c => (noX (r (δ.set i none))).bind fun xs δ1 => match δ1[i]? with
  | some none => mutEnd op i π d c xs δ1
  | _ => .bad) δ
def stEnd (op : D → List D → Option (D × D)) (i : Nat) (π : List Nat) (d c : D) (xs : List D) (δ1 : Sl) : Out Flow := match op c xs with
  | some r => .ok .nx (δ1.set i (some (setP π d r.1)))
  | none => .bad
def stC (pl : PL) (δ : Sl) (k : Nat → List Nat → D → D → Out Flow) : Out Flow := match pl δ with
  | none => .bad
  | some (i, π) => match (δ[i]?).join with
    | none => .bad
    | some d => match getP π d with
      | none => .bad
      | some c => if d.free && ownP π d then k i π d c else .bad
/-- place[key] = e -/
def dsStore (pl : PL) (kd : DE) (fz : Bool) (e : DE) : DS := fun δ => (e δ).bind fun y δ1 => stC pl δ1 fun i π d c => (noX (kd δ1)).bind fun kk δ2 => stEnd mSet i π d c [kk, if fz then frz y else y] δ2
/-- place.f = e -/
def dsFldS (pl : PL) (c0 : Nat) (f : Str) (e : DE) : DS := fun δ => (e δ).bind fun y δ1 => stC pl δ1 fun i π d c => stEnd (mFld c0 f) i π d c [y] δ1
section
variable {cl : Ec} {xf : Nat → List Str} {W : WX} {ws : Nat → Bool} {A A' L L' B : Addr → Prop} {H H' : Hp} {δ δ' : Sl} {σ σ' : L2.St} {p q b : Bool} {te ta tb tc : TE} {tA : TA} {tt tu : TT} {t u : TS} {ts : List D} {vs : List V}
theorem se_mutI {pl : PL} {T : String} {rr : V → List V → Hp → VK → Prop} {op : D → List D → Option (D × D)} {r : DA} (ho : SL cl te pl) (hr : SA cl xf W false tA r) (mo : MOp cl rr op) : SE cl xf W false (tBM cl.K T rr te tA) (dMutI pl T op r) := by
  refine ⟨fun z => (by cases z), fun A L B H δ σ Q j k => ?_⟩
  unfold dMutI dMutC at k
  split at k
  · exact k.elim
  · rename_i i π e1
    split at k
    · exact k.elim
    · rename_i d e2
      split at k
      · exact k.elim
      · rename_i c e3
        split at k
        · rename_i hc
          simp only [Bool.and_eq_true] at hc
          obtain ⟨⟨hfr, how⟩, hty⟩ := hc
          dsimp only at k
          obtain ⟨v0, vc, B1, h1, h2, q3, q3', q4, q5⟩ := j.focus e2 hfr e3 how
          obtain ⟨g, hg, nd, _⟩ := j.drop0
          refine ho A L H δ σ g i π d c v0 vc _ hg e1 e2 e3 h1 h2 ?_
          obtain ⟨v1, f1, g1, g2, g3⟩ := hg.get (join_some e2)
          rw [h1] at g1
          cases g1
          obtain ⟨fp', g4⟩ := g2.atP e3 h2
          obtain ⟨z, hz⟩ := Option.isSome_iff_exists.mp hty
          refine ⟨(tyF_ok g4 hz).2, ?_⟩
          obtain ⟨B2, jj, hb, hj⟩ := q4.seq
          refine hr.run A L B2 H (δ.set i none) σ _ jj ?_
          cases e4 : r (δ.set i none) with
          | bad => rw [e4] at k; exact k.elim
          | exc cc xs s => rw [e4] at k; exact k.elim
          | ok xs s =>
            rw [e4] at k
            simp only [noX, Out.bind] at k
            intro us A1 H1 n1 j1
            have j1' := hj A1 H1 xs us s (by simp) n1 j1
            split at k
            · rename_i hs
              unfold mutEnd at k
              cases e5 : op c xs with
              | none => rw [e5] at k; exact k.elim
              | some rs =>
                obtain ⟨c', y⟩ := rs
                rw [e5] at k
                simp only at k
                refine mo A1 L B1 H1 s σ c vc xs us c' y Q j1' e5 fun w A2 H2 n2 j2 => ?_
                have n3 : Nx A B1 H A2 H2 := (n1.weak hb).trans n2
                exact k [w] A2 H2 (n3.weak q3) (q5 A2 H2 c' [y] [w] s hs n3 j2) w rfl
            · exact k.elim
        · exact k.elim
/-- the end of a store: the thing in hand is put in -/
theorem st_run {rr : V → List V → Hp → VK → Prop} {op : D → List D → Option (D × D)} {E : Ends} {i : Nat} {π : List Nat} {d c : D} {xs : List D} {us : List V} {v0 vc : V} (mo : MOp cl rr op) (j : Jt false cl A L B H xs us δ σ) (e2 : (δ[i]?).join = some d) (hfr : d.free = true) (e3 : getP π d = some c) (how : ownP π d = true) (h1 : σ[i]? = some (some v0)) (h2 : AtP H v0 π vc)
    (k : PostS cl xf W ws (stEnd op i π d c xs δ) A L B H σ E) : rr vc us H fun _ H' => E.nx σ H' := by
  obtain ⟨v0', vc', B2, q1, q2, q3, q3', q4, q5⟩ := j.focus e2 hfr e3 how
  rw [h1] at q1
  cases q1
  have ev := h2.det q2
  subst ev
  unfold stEnd at k
  cases e5 : op c xs with
  | none => rw [e5] at k; exact k.elim
  | some rs =>
    obtain ⟨c', y⟩ := rs
    rw [e5] at k
    simp only at k
    have hlen : i < δ.length := (List.getElem?_eq_some_iff.mp (join_some e2)).1
    refine mo A L B2 H (δ.set i none) σ c vc xs us c' y _ q4 e5 fun w A2 H2 n2 j2 => ?_
    have j3 := q5 A2 H2 c' [y] [w] (δ.set i none) (by simp [hlen]) n2 j2
    rw [List.set_set] at j3
    exact k A2 H2 σ (n2.weak q3) (Kp.refl σ) j3.drop
theorem ss_store {pl : PL} {kd e : DE} {fz : Bool} (ho : SL cl te pl) (hk : SE cl xf W true tb kd) (he : SE cl xf W false ta e) : SS cl xf W ws (tAsg ta (gSub te tb fun o i v H Q => rSetL o i v H Q ∨ rSetD o i v H Q)) (dsStore pl kd fz e) := fun A L B H δ σ E j k => by
  refine he.run A L B H δ σ _ j (PostS.bind k fun y δ1 vs A1 H1 e0 n1 j1 k1 v ev => ?_)
  subst ev
  unfold stC at k1
  split at k1
  · exact k1.elim
  · rename_i i π e1
    split at k1
    · exact k1.elim
    · rename_i d e2
      split at k1
      · exact k1.elim
      · rename_i c e3
        split at k1
        · rename_i hc
          simp only [Bool.and_eq_true] at hc
          obtain ⟨hfr, how⟩ := hc
          dsimp only at k1
          obtain ⟨v0, vc, B1, h1, h2, _, _, _, _⟩ := j1.focus e2 hfr e3 how
          obtain ⟨g, hg, nd, _⟩ := j1.drop0
          refine ho A1 L H1 δ1 σ g i π d c v0 vc _ hg e1 e2 e3 h1 h2 ?_
          have hp := hk.pure rfl δ1
          refine hk.run A1 L A1 H1 δ1 σ _ j1.drop.toPure ?_
          cases e4 : kd δ1 with
          | bad => rw [e4] at k1; exact k1.elim
          | exc cc xs s => rw [e4] at k1; exact k1.elim
          | ok kk s =>
            rw [e4] at k1 hp
            cases (show s = δ1 from hp)
            simp only [noX, Out.bind] at k1
            intro us A2 H2 n2 j2 kv ek
            subst ek
            have j3 : Jt false cl A2 L B H2 [kk, y] [kv, v] δ1 σ := (Jt.backQ j1 n2 j2).swap
            have n3 : Nx A B H A2 H2 := n1.trans (n2.weak j1.ba)
            cases fz with
            | false => exact st_run (rr := rSetA) mo_set j3 e2 hfr e3 how h1 (h2.ex n2.ex) (PostS.step k1 n3 (Kp.refl σ))
            | true =>
              obtain ⟨A3, n4, j4⟩ := j3.freezeTail
              simp only [frzs] at j4
              exact st_run (rr := rSetA) mo_set j4 e2 hfr e3 how h1 (h2.ex n2.ex) (PostS.step k1 (n3.trans n4) (Kp.refl σ))
        · exact k1.elim
theorem ss_fldS {pl : PL} {c0 : Nat} {f : Str} {e : DE} (hc0 : Cls cl.K (cl.c c0)) (hn0 : NoAttr cl.K (cl.c c0) f) (ho : SL cl te pl) (he : SE cl xf W false ta e) : SS cl xf W ws (sFld cl.K te ta f) (dsFldS pl c0 f e) := fun A L B H δ σ E j k => by
  refine he.run A L B H δ σ _ j (PostS.bind k fun y δ1 vs A1 H1 e0 n1 j1 k1 v ev => ?_)
  subst ev
  unfold stC at k1
  split at k1
  · exact k1.elim
  · rename_i i π e1
    split at k1
    · exact k1.elim
    · rename_i d e2
      split at k1
      · exact k1.elim
      · rename_i c e3
        split at k1
        · rename_i hc
          simp only [Bool.and_eq_true] at hc
          obtain ⟨hfr, how⟩ := hc
          dsimp only at k1
          obtain ⟨v0, vc, B1, h1, h2, _, _, _, _⟩ := j1.focus e2 hfr e3 how
          obtain ⟨g, hg, nd, _⟩ := j1.drop0
          refine ho A1 L H1 δ1 σ g i π d c v0 vc _ hg e1 e2 e3 h1 h2 ?_
          exact st_run (rr := rPutF cl.K f) (mo_fld hc0 hn0) j1 e2 hfr e3 how h1 h2 (PostS.step k1 n1 (Kp.refl σ))
        · exact k1.elim
/-! place.f op= e; place[key] op= e, of ints -/
def iop (add : Bool) (x y : D) : Option D := match x, y with
  | .v (.int i), .v (.int j) => some (.int (if add then i + j else i - j))
  | _, _ => none
def dsFldA (pl : PL) (c0 : Nat) (f : Str) (add : Bool) (e : DE) : DS := fun δ => stC pl δ fun i π d c => match fldD c0 f c with
  | some x => (noX (e δ)).bind fun y δ1 => match iop add x y with
    | some z => stEnd (mFld c0 f) i π d c [z] δ1
    | none => .bad
  | none => .bad
def rIop (add : Bool) : V → V → Hp → VK → Prop := fun x y H Q => ∃ i j, x = .int i ∧ y = .int j ∧ Q (.int (if add then i + j else i - j)) H
theorem ss_fldA {pl : PL} {c0 : Nat} {f : Str} {add : Bool} {e : DE} (hc0 : Cls cl.K (cl.c c0)) (hn0 : NoAttr cl.K (cl.c c0) f) (ho : SL cl te pl) (he : SE cl xf W true ta e) : SS cl xf W ws (sFldAug cl.K te ta (rIop add) f) (dsFldA pl c0 f add e) := fun A L B H δ σ E j k => by
  unfold dsFldA stC at k
  split at k
  · exact k.elim
  · rename_i i π e1
    split at k
    · exact k.elim
    · rename_i d e2
      split at k
      · exact k.elim
      · rename_i c e3
        split at k
        · rename_i hc
          simp only [Bool.and_eq_true] at hc
          obtain ⟨hfr, how⟩ := hc
          dsimp only at k
          obtain ⟨v0, vc, B1, h1, h2, _, _, _, _⟩ := j.focus e2 hfr e3 how
          obtain ⟨g, hg, nd, _⟩ := j.drop0
          refine ho A L H δ σ g i π d c v0 vc _ hg e1 e2 e3 h1 h2 ?_
          obtain ⟨v1, f1, g1, g2, g3⟩ := hg.get (join_some e2)
          rw [h1] at g1
          cases g1
          obtain ⟨fp', g4⟩ := g2.atP e3 h2
          cases e4 : fldD c0 f c with
          | none => rw [e4] at k; exact k.elim
          | some x =>
            rw [e4] at k
            simp only at k
            unfold fldD at e4
            split at e4
            · rename_i cc fs w xs
              split at e4
              · rename_i hcc
                subst hcc
                obtain ⟨a, o, us, fp2, rfl, ho2, hs, hr2, _⟩ := g4.node
                obtain ⟨hl, dx, rfl⟩ := hs
                obtain ⟨xv, fx, q1, q2, q3⟩ := hr2.lkS e4
                refine ⟨a, _, dx, _, xv, rfl, ho2, hc0, hn0, q1, ?_⟩
                have hp := he.pure rfl δ
                refine he.run A L A H δ σ _ j.toPure ?_
                cases e5 : e δ with
                | bad => rw [e5] at k; exact k.elim
                | exc cc xs s => rw [e5] at k; exact k.elim
                | ok y s =>
                  rw [e5] at k hp
                  cases (show s = δ from hp)
                  simp only [noX, Out.bind] at k
                  intro ys A1 H1 n1 j1 yv ey
                  subst ey
                  obtain ⟨y1, fy, e6, hy⟩ := j1.one
                  cases e6
                  unfold iop at k
                  split at k
                  · rename_i z hz
                    split at hz
                    · rename_i n m
                      cases hz
                      obtain ⟨rfl, _, _⟩ := q2.leafv
                      obtain ⟨rfl, _, _⟩ := hy.leafv
                      refine ⟨n, m, rfl, rfl, ?_⟩
                      have j2 : Jt false cl A1 L B H1 [.int (if add then n + m else n - m)] [.int (if add then n + m else n - m)] δ σ := (j.ofPure n1 j1).leaf rfl
                      obtain ⟨a', C', dx', fs', e7, h7, _, _, h8, h9⟩ := st_run (rr := rPutF cl.K f) (mo_fld hc0 hn0) j2 e2 hfr e3 how h1 (h2.ex n1.ex) (PostS.step k (n1.weak j.ba) (Kp.refl σ))
                      cases e7
                      have h10 := n1.ex a _ ho2
                      rw [h7] at h10
                      cases h10
                      exact ⟨_, _, h7, h8, h9⟩
                    · cases hz
                  · exact k.elim
              · cases e4
            · cases e4
        · exact k.elim
end
end Fs
/-! F37 -/
set_option maxHeartbeats 1000000
/-! What is walked: a list, a tuple, a text, whichever it is; enumerate; a list of the state's own. -/
namespace Fs
open PySem PySem.Spec PyProof.Rows L2
def iAny (K : PySem.W.Frag) (te : TE) : TI := fun σ H R => te σ H fun x H1 => (∃ a, x = .ref a ∧ (∃ xs, SqL K H1 a xs) ∧ R (Itl K a) H1) ∨ (∃ a, x = .ref a ∧ (∃ xs, SqT K H1 a xs) ∧ R (Itt K a) H1) ∨ (∃ z, x = .str z ∧ R (Its z) H1)
theorem pi_any {X : Cx} {tg e : Expr} {te : TE} (he : PE X e te) : PI X tg e (iAny X.K te) := by
  refine ⟨fun pins s σ H R I h => thn (he.run pins s σ H _ I h) fun v s1 ⟨x, H1, I1, r1, q1⟩ => ?_⟩
  have fp : ∀ b ∈ [s1.heap.objs.size], FpOk X pins H1 b := fun b hb => by
    have e : b = s1.heap.objs.size := by simpa using hb
    rw [e]; exact I1.fpOk (Nat.le_refl _) (I1.hok.fresh (Nat.le_refl _))
  rcases q1 with ⟨a, rfl, ⟨xs, hq⟩, q⟩ | ⟨a, rfl, ⟨xs, hq⟩, q⟩ | ⟨z, rfl, q⟩
  · cases r1
    obtain ⟨its, rv, pl, hz⟩ := I1.list hq
    exact wpAny_pyIter_list pl.isList ⟨s1.heap.objs.size, [s1.heap.objs.size], _, _, H1, rfl, I1.kept (t' := s1.toks) fun b o e => Heap.get?_push_of_some _ e, turn_list a _, ⟨_, Heap.get?_push_size _ rfl, rfl, rfl⟩, fp, q⟩
  · cases r1
    obtain ⟨its, rv, pl, hz⟩ := I1.tuple hq
    exact wpAny_pyIter_tuple (show s1.heap.IsTuple a its.toArray from pl) ⟨s1.heap.objs.size, [s1.heap.objs.size], _, _, H1, rfl, I1.kept (t' := s1.toks) fun b o e => Heap.get?_push_of_some _ e, turn_tuple a _, ⟨_, Heap.get?_push_size _ rfl, rfl, rfl⟩, fp, q⟩
  · obtain ⟨t, rfl⟩ := r1
    cases ha : z.cps.all (· < 128)
    · exact wpAny_pyIter_wide ha (pi_one (tk := s1.toks) I1 _ (turn_str _ z t "str_iterator" (.inr rfl)) ⟨_, Heap.get?_push_size _ rfl, rfl, rfl⟩ q)
    · exact wpAny_pyIter_ascii ha (pi_one (tk := s1.toks) I1 _ (turn_str _ z t "str_ascii_iterator" (.inl rfl)) ⟨_, Heap.get?_push_size _ rfl, rfl, rfl⟩ q)
/-- the things that are walked -/
def itA (p : Bool) : D → Option (List D)
  | .n .lst w xs => if xs.all D.kept = true ∧ (p = true ∨ w ≠ .own) then some xs else none
  | .n .tup w xs => if xs.all D.kept = true ∧ (p = true ∨ w ≠ .own) then some xs else none
  | .s ns => some (ns.map D.int)
  | .v (.str s) => some (s.cps.toList.map fun c => D.str ⟨#[c]⟩)
  | _ => none
section
variable {cl : Ec} {xf : Nat → List Str} {W : WX} {ws : Nat → Bool} {A A' L L' B : Addr → Prop} {H H' : Hp} {δ δ' : Sl} {σ σ' : L2.St} {p q b : Bool} {te ta tb tc : TE} {tA : TA} {tt tu : TT} {t u : TS} {ts : List D} {vs : List V}
theorem it_str {s : Str} : ItOk cl L B (Its s) (s.cps.toList.map fun c => D.str ⟨#[c]⟩) A H := by
  intro A1 H1 n1
  refine ⟨fun i hi => by simpa [Its] using hi, fun i hi => by simpa [Its] using hi, fun i x H2 d e hy p B1 δ σ hb j => ?_⟩
  obtain ⟨rfl, c, hc, rfl⟩ := hy
  have ed : d = D.str ⟨#[c]⟩ := by
    rw [List.getElem?_map] at e
    have : s.cps.toList[i]? = some c := by rw [Array.getElem?_toList]; exact hc
    rw [this] at e
    simpa using e.symm
  subst ed
  exact ⟨A1, Nx.refl j.ba, j.leaf rfl⟩
/-- a thing that stands, walked -/
theorem itA_run {d : D} {v : V} {fp : List Addr} {its : List D} {R : It → Hp → Prop} (lb : ∀ a, L a → B a) (h1 : Rp cl A L H true d v fp) (hb : ∀ a, B a → A a) (hw : ∀ w : Fl, (p = true ∨ w ≠ .own) → w = .own → ∀ a ∈ fp, B a) (e2 : itA p d = some its) (k : ∀ J, ItOk cl L B J its A H → R J H) :
    (∃ a, v = .ref a ∧ (∃ xs, SqL cl.K H a xs) ∧ R (Itl cl.K a) H) ∨ (∃ a, v = .ref a ∧ (∃ xs, SqT cl.K H a xs) ∧ R (Itt cl.K a) H) ∨ (∃ z, v = .str z ∧ R (Its z) H) := by
  unfold itA at e2
  split at e2
  · split at e2
    · rename_i w xs hk
      cases e2
      obtain ⟨a0, o, us, fp', rfl, hs, hst, hr⟩ := h1.stands (B := B) lb (hw w hk.2)
      cases hs
      exact .inl ⟨a0, rfl, ⟨us, SqL.of (hst A H (Nx.refl hb))⟩, k _ (it_list lb (fun A1 H1 n => SqL.of (hst A1 H1 n)) hr hk.1)⟩
    · cases e2
  · split at e2
    · rename_i w xs hk
      cases e2
      obtain ⟨a0, o, us, fp', rfl, hs, hst, hr⟩ := h1.stands (B := B) lb (hw w hk.2)
      cases hs
      exact .inr (.inl ⟨a0, rfl, ⟨us, SqT.of (hst A H (Nx.refl hb))⟩, k _ (it_tup lb (fun A1 H1 n => SqT.of (hst A1 H1 n)) hr hk.1)⟩)
    · cases e2
  · cases e2
    obtain ⟨a0, rfl, hs, rfl, hor⟩ := h1.scr
    exact .inl ⟨a0, rfl, ⟨_, hs⟩, k _ (it_scr hor lb)⟩
  · rename_i s
    cases e2
    obtain ⟨rfl, _, _⟩ := h1.leafv
    exact .inr (.inr ⟨s, rfl, k _ it_str⟩)
  · cases e2
theorem si_anyP {a : PP} (ha : SP cl ta a) : SI cl xf W p (iAny cl.K ta) (diP (itA p) a) := by
  refine ⟨fun _ δ => Out.same_ofO, fun A L B H δ σ R j k => ?_⟩
  unfold diP at k
  cases e : (a δ).bind (itA p) with
  | none => rw [e] at k; exact k.elim
  | some its =>
    rw [e] at k
    obtain ⟨d, e1, e2⟩ := Option.bind_eq_some_iff.mp e
    obtain ⟨g, hg, _, _⟩ := j.drop0
    refine ha A L H δ σ g d _ hg e1 fun v fp h1 n1 => ?_
    have key : ∃ B', (∀ a, B a → B' a) ∧ Jt p cl A L B' H [] [] δ σ ∧ ∀ w : Fl, (p = true ∨ w ≠ .own) → w = .own → ∀ a ∈ fp, B' a := by
      cases p with
      | true => exact ⟨A, j.ba, j.toPure, fun w _ _ a ha => (h1.inA a ha).1⟩
      | false => exact ⟨B, fun _ h => h, j, fun w hw e => absurd e (hw.resolve_left (by simp))⟩
    obtain ⟨B', hb, j', hw⟩ := key
    exact itA_run (p := p) j'.lb h1 j'.ba hw e2 fun J hJ => k J A H B' (Nx.refl j.ba) hb j' hJ
/-- a value in hand, walked: kept in B -/
theorem hand_walk {d : D} {v : V} (j1 : Jt p cl A L B H [d] [v] δ σ) : ∃ B' fp, (∀ a, B a → B' a) ∧ Jt p cl A L B' H [] [] δ σ ∧ Rp cl A L H true d v fp ∧ ∀ a ∈ fp, B' a := by
  obtain ⟨v', f1, e0, h1⟩ := j1.one
  cases e0
  cases p with
  | true => exact ⟨A, f1, j1.ba, j1.drop.toPure, h1.weak, fun a ha => (h1.inA a ha).1⟩
  | false =>
    obtain ⟨f, q1, q2, q3, q4⟩ := j1.hide
    simp only [Rps] at q1
    obtain ⟨v0, vs0, f2, f3, e1, rfl, q1, rfl, rfl⟩ := q1
    cases e1
    exact ⟨_, f2, fun a h => .inl h, q4, q1.weak, fun a ha => .inr (by simpa using ha)⟩
theorem si_anyD {a : DE} (ha : SE cl xf W p ta a) : SI cl xf W p (iAny cl.K ta) (diD (itA true) a) := by
  refine ⟨fun hp δ => Out.same_bind (ha.pure hp δ) fun x => Out.same_ofO, fun A L B H δ σ R j k => ?_⟩
  unfold diD at k
  refine ha.run A L B H δ σ _ j ?_
  cases e : a δ with
  | bad => rw [e] at k; exact k
  | exc c xs s => rw [e] at k; exact k
  | ok d s =>
    rw [e] at k
    simp only [Out.bind] at k
    intro us A1 H1 n1 j1 v ev
    subst ev
    cases e2 : itA true d with
    | none => rw [e2] at k; exact k.elim
    | some its =>
      rw [e2] at k
      obtain ⟨B', fp, hb, j', h1, hfp⟩ := hand_walk j1
      exact itA_run (p := true) j'.lb h1 j'.ba (fun _ _ _ => hfp) e2 fun J hJ => k J A1 H1 B' n1 hb j' hJ
/-! enumerate of a list -/
def pairsE : Nat → List D → List D
  | _, [] => []
  | n, x :: xs => .n .tup .shr [.int (n : Int), x] :: pairsE (n + 1) xs
theorem pairsE_get : ∀ {xs : List D} {n i : Nat} {d : D}, (pairsE n xs)[i]? = some d → ∃ x, xs[i]? = some x ∧ d = .n .tup .shr [.int ((n + i : Nat) : Int), x]
  | [], n, i, d, h => by simp [pairsE] at h
  | x :: xs, n, 0, d, h => by simp [pairsE] at h; exact ⟨x, rfl, by rw [← h]; simp⟩
  | x :: xs, n, i + 1, d, h => by
    simp only [pairsE, List.getElem?_cons_succ] at h
    obtain ⟨y, h1, h2⟩ := pairsE_get h
    exact ⟨y, by simpa using h1, by rw [h2]; congr 4; omega⟩
theorem pairsE_len : ∀ {xs : List D} {n : Nat}, (pairsE n xs).length = xs.length
  | [], _ => rfl
  | x :: xs, n => by simp [pairsE, pairsE_len]
theorem it_enum {K : PySem.W.Frag} {a : Addr} {us : List V} {ds : List D} {fp : List Addr} (lb : ∀ a, L a → B a) (hst : ∀ A1 H1, Nx A B H A1 H1 → SqL K H1 a us) (hr : Rps cl A L H b ds us fp) (hk : ds.all D.kept = true) : ItOk cl L B (Ite K a) (pairsE 0 ds) A H := by
  intro A1 H1 n1
  have hs := hst A1 H1 n1
  have hl := hr.length
  rw [pairsE_len]
  refine ⟨fun i hi => ⟨us, us[i]'(by omega), hs, List.getElem?_eq_getElem (by omega)⟩, fun i hi => ⟨us, hs, by omega⟩, fun i x H2 d e hy p B1 δ σ hb j => ?_⟩
  obtain ⟨T, y, rfl, hT, rfl, hy⟩ := hy
  obtain ⟨dx, e1, rfl⟩ := pairsE_get e
  obtain ⟨v, f1, g1, g2, _⟩ := (hr.keptS hk).get e1
  rw [hy us hs] at g1
  cases g1
  have hkd : dx.kept = true := List.all_eq_true.mp hk dx (List.mem_of_getElem? e1)
  obtain ⟨g3, rfl⟩ := g2.strong hkd
  have g4 := g3.step (A' := A1) (L' := L) (H' := H1) n1.both (by simp) (by simp)
  have hr2 : Rps cl A1 L H1 true [.int ((0 + i : Nat) : Int), dx] [.int ((0 + i : Nat) : Int), y] [] := by
    simp only [Rps]
    exact ⟨_, [y], [], [], rfl, rfl, Rp.leaf rfl, y, [], [], [], rfl, rfl, g4.weak, rfl, rfl⟩
  have hk2 : ([.int ((0 + i : Nat) : Int), dx] : List D).all D.kept = true := by rw [List.all_cons, List.all_cons, hkd]; rfl
  rw [Nat.zero_add] at hr2 hk2 ⊢
  have h := (j.keptL hk2 hr2).allocS (k := .tup) hk2 hT rfl
  exact ⟨A1, h.1, h.2⟩
def itEn (p : Bool) : D → Option (List D)
  | .n .lst w xs => if xs.all D.kept = true ∧ (p = true ∨ w ≠ .own) then some (pairsE 0 xs) else none
  | .s ns => some (pairsE 0 (ns.map D.int))
  | _ => none
def iEn1 (K : PySem.W.Frag) (te : TE) : TI := fun σ H R => te σ H fun v H1 => ∃ a xs, [v] = [V.ref a] ∧ SqL K H1 a xs ∧ R (Ite K a) H1
theorem itEn_run {d : D} {v : V} {fp : List Addr} {its : List D} {R : It → Hp → Prop} (lb : ∀ a, L a → B a) (h1 : Rp cl A L H true d v fp) (hb : ∀ a, B a → A a) (hw : ∀ w : Fl, (p = true ∨ w ≠ .own) → w = .own → ∀ a ∈ fp, B a) (e2 : itEn p d = some its) (k : ∀ J, ItOk cl L B J its A H → R J H) :
    ∃ a xs, [v] = [V.ref a] ∧ SqL cl.K H a xs ∧ R (Ite cl.K a) H := by
  unfold itEn at e2
  split at e2
  · split at e2
    · rename_i w xs hk
      cases e2
      obtain ⟨a0, o, us, fp', rfl, hs, hst, hr⟩ := h1.stands (B := B) lb (hw w hk.2)
      cases hs
      exact ⟨a0, us, rfl, SqL.of (hst A H (Nx.refl hb)), k _ (it_enum lb (fun A1 H1 n => SqL.of (hst A1 H1 n)) hr hk.1)⟩
    · cases e2
  · rename_i ns
    cases e2
    obtain ⟨a0, rfl, hs, rfl, hor⟩ := h1.scr
    refine ⟨a0, _, rfl, hs, k _ (it_enum lb (fun A1 H1 n => ?_) (Rps.ints (b := true)) (ints_kept ns))⟩
    rcases hor with ⟨ob, h1, h2⟩ | h
    · exact .inl (.inr ⟨ob, n.keep a0 _ h1 h2⟩)
    · exact .inr h
  · cases e2
theorem si_enP {a : PP} (ha : SP cl ta a) : SI cl xf W p (iEn1 cl.K ta) (diP (itEn p) a) := by
  refine ⟨fun _ δ => Out.same_ofO, fun A L B H δ σ R j k => ?_⟩
  unfold diP at k
  cases e : (a δ).bind (itEn p) with
  | none => rw [e] at k; exact k.elim
  | some its =>
    rw [e] at k
    obtain ⟨d, e1, e2⟩ := Option.bind_eq_some_iff.mp e
    obtain ⟨g, hg, _, _⟩ := j.drop0
    refine ha A L H δ σ g d _ hg e1 fun v fp h1 n1 => ?_
    have key : ∃ B', (∀ a, B a → B' a) ∧ Jt p cl A L B' H [] [] δ σ ∧ ∀ w : Fl, (p = true ∨ w ≠ .own) → w = .own → ∀ a ∈ fp, B' a := by
      cases p with
      | true => exact ⟨A, j.ba, j.toPure, fun w _ _ a ha => (h1.inA a ha).1⟩
      | false => exact ⟨B, fun _ h => h, j, fun w hw e => absurd e (hw.resolve_left (by simp))⟩
    obtain ⟨B', hb, j', hw⟩ := key
    exact itEn_run (p := p) j'.lb h1 j'.ba hw e2 fun J hJ => k J A H B' (Nx.refl j.ba) hb j' hJ
theorem si_enD {a : DE} (ha : SE cl xf W p ta a) : SI cl xf W p (iEn1 cl.K ta) (diD (itEn true) a) := by
  refine ⟨fun hp δ => Out.same_bind (ha.pure hp δ) fun x => Out.same_ofO, fun A L B H δ σ R j k => ?_⟩
  unfold diD at k
  refine ha.run A L B H δ σ _ j ?_
  cases e : a δ with
  | bad => rw [e] at k; exact k
  | exc c xs s => rw [e] at k; exact k
  | ok d s =>
    rw [e] at k
    simp only [Out.bind] at k
    intro us A1 H1 n1 j1 v ev
    subst ev
    cases e2 : itEn true d with
    | none => rw [e2] at k; exact k.elim
    | some its =>
      rw [e2] at k
      obtain ⟨B', fp, hb, j', h1, hfp⟩ := hand_walk j1
      exact itEn_run (p := true) j'.lb h1 j'.ba (fun _ _ _ => hfp) e2 fun J hJ => k J A1 H1 B' n1 hb j' hJ
variable {X : Cx} {e a tg : Expr} {pos pp tpos : Pos} {pa : PP} {da : DE}
theorem i_anyP (hK : X.K = cl.K) (ha : Rk cl X a pa) : Ri cl xf X W p tg a (diP (itA p) pa) := by obtain ⟨ta, h1, h2⟩ := ha; exact ⟨_, pi_any h1, by rw [hK]; exact si_anyP h2⟩
theorem i_anyD (hK : X.K = cl.K) (ha : Rd cl xf X W p a da) : Ri cl xf X W p tg a (diD (itA true) da) := by obtain ⟨ta, h1, h2⟩ := ha; exact ⟨_, pi_any h1, by rw [hK]; exact si_anyD h2⟩
theorem i_enP {elts : List Expr} {kk : Nat} (hK : X.K = cl.K) (hm : X.mg "enumerate" = none) (ha : Rk cl X a pa) (hg : Gl X "enumerate" := by rfl) (hs : starEach [a] X.env = [(false, eval a X.env)] := by rfl) (hs2 : starEach (a :: []) X.env = (false, eval a X.env) :: starEach [] X.env := by rfl) : Ri cl xf X W p (.Tuple elts kk tpos) (.Call (.Name "enumerate" pp) [a] [] pos) (diP (itEn p) pa) := by
  obtain ⟨ta, h1, h2⟩ := ha
  exact ⟨iEn1 X.K ta, pi_enum hg hm (pa_cons h1 pa_nil hs2) hs, by rw [hK]; exact si_enP h2⟩
theorem i_enD {elts : List Expr} {kk : Nat} (hK : X.K = cl.K) (hm : X.mg "enumerate" = none) (ha : Rd cl xf X W p a da) (hg : Gl X "enumerate" := by rfl) (hs : starEach [a] X.env = [(false, eval a X.env)] := by rfl) (hs2 : starEach (a :: []) X.env = (false, eval a X.env) :: starEach [] X.env := by rfl) : Ri cl xf X W p (.Tuple elts kk tpos) (.Call (.Name "enumerate" pp) [a] [] pos) (diD (itEn true) da) := by
  obtain ⟨ta, h1, h2⟩ := ha
  exact ⟨iEn1 X.K ta, pi_enum hg hm (pa_cons h1 pa_nil hs2) hs, by rw [hK]; exact si_enD h2⟩
end
end Fs
/-! F38 -/
set_option maxHeartbeats 1000000
/-! The text of operations, stores and methods. -/
namespace Fs
open PySem PySem.Spec PyProof.Rows L2
section
variable {cl : Ec} {xf : Nat → List Str} {X : Cx} {W : WX} {ws : Nat → Bool} {e a b c o tg ix : Expr} {es : List Expr} {pos pos' pp p2 apos q1 q2 kpos : Pos} {p : Bool} {pa pb : PP} {da db : DE} {r : R2} {R : List V → Hp → VK → Prop} {F : List D → Option D} {os : List Od} {ks : List AK}
theorem t_n (oo : C2 X e a b r) (h : NOp cl (rL2 r) F) (hr : Rn cl xf X W [a, b] os) : Rt cl xf X W p e (dtV (dN F os)) := by
  obtain ⟨tes, h1, h2⟩ := hr
  cases h1 with
  | cons q1 h1 => cases h1 with
    | cons q2 h1 => cases h1 with
      | nil => exact ⟨_, oo _ _ q1 q2, sb_v (se_n h h2)⟩
theorem t_ni (oo : C2 X e a b r) (h : NOp cl (rL2 r) F) (hr : Rz cl xf X W [a, b] ks) : Rt cl xf X W false e (dtV (dNI F ks)) := by
  obtain ⟨tes, h1, h2⟩ := hr
  cases h1 with
  | cons q1 h1 => cases h1 with
    | cons q2 h1 => cases h1 with
      | nil => exact ⟨_, oo _ _ q1 q2, sb_v (se_ni h h2)⟩
/-! operators -/
theorem o_addB (hK : X.K = cl.K) : B2 X (.BinOp a .Add b pos) a b (rAddB cl.K) := by rw [← hK]; exact fun _ _ ha hb => pe_op op_addB ha hb
theorem o_mulA : B2 X (.BinOp a .Mult b pos) a b rMulA := fun _ _ ha hb => pe_op op_mulA ha hb
theorem opk_in (hK : X.K = cl.K) (hu : X.A.units + 65 < cLine) : OpR X (compareOp .In) (rInA cl.K) := by rw [← hK]; exact op_inA hu
theorem opk_notin (hK : X.K = cl.K) (hu : X.A.units + 65 < cLine) : OpR X (compareOp .NotIn) (rNotInA cl.K) := by rw [← hK]; exact op_notinA hu
/-! built-ins of one thing -/
theorem bn_B1 {id : String} {x : Str} (hc : CallR X (.builtin id) R) (hm : X.mg x = none) (hv : bootBuiltins x = some (.builtin id)) (hg : Gl X x := by rfl) (hn : x ≠ "__name__" := by decide) (hd : (x == ("__debug__" : Str)) = false := by decide)
    (h1 : starEach [a] X.env = (false, eval a X.env) :: starEach [] X.env := by rfl) (h2 : (backTo pos (starEach [] X.env)).any (·.1) = false := by rfl) : BN X (.Call (.Name x pp) [a] [] pos) [a] (rL1 fun x H Q => R [x] H Q) := fun tes h => by
  cases h with
  | cons q1 h => cases h with
    | nil =>
      have h9 := pe_callB (p := pp) (pos := pos) hc hg hm hv (pa_cons q1 pa_nil h1) hn hd h1 h2
      exact ⟨fun pins s σ H Q I hq => h9.run pins s σ H Q I hq⟩
theorem bn_T1 {T : String} {x : Str} (hc : CallR X (.type T) R) (hm : X.mg x = none) (hv : bootBuiltins x = some (.type T)) (hg : Gl X x := by rfl) (hn : x ≠ "__name__" := by decide) (hd : (x == ("__debug__" : Str)) = false := by decide)
    (h1 : starEach [a] X.env = (false, eval a X.env) :: starEach [] X.env := by rfl) (h2 : (backTo pos (starEach [] X.env)).any (·.1) = false := by rfl) : BN X (.Call (.Name x pp) [a] [] pos) [a] (rL1 fun x H Q => R [x] H Q) := fun tes h => by
  cases h with
  | cons q1 h => cases h with
    | nil =>
      have h9 := pe_callTy (p := pp) (pos := pos) hc hg hm hv (pa_cons q1 pa_nil h1) hn hd h1 h2
      exact ⟨fun pins s σ H Q I hq => h9.run pins s σ H Q I hq⟩
theorem boot_sum' : bootBuiltins "sum" = some (.builtin "sum") := by decide +kernel
theorem boot_max' : bootBuiltins "max" = some (.builtin "max") := by decide +kernel
theorem boot_min'' : bootBuiltins "min" = some (.builtin "min") := by decide +kernel
theorem na_sum1 : NA cl (rL1 fun x H Q => rSum cl.K [x] H Q) (f1 sumD) := NA.one fun A L H x u fp z ad h e => by
  obtain ⟨ns, e1, rfl⟩ := Option.map_eq_some_iff.mp e
  obtain ⟨a, rfl, h2⟩ := h.seqI e1
  exact .sc rfl fun Q q => ⟨a, ns, rfl, h2, q⟩
theorem bn_sum (hK : X.K = cl.K) (hm : X.mg "sum" = none) (hc : X.calm = true := by rfl) (hg : Gl X "sum" := by rfl) (h1 : starEach [a] X.env = (false, eval a X.env) :: starEach [] X.env := by rfl) (h2 : (backTo pos (starEach [] X.env)).any (·.1) = false := by rfl) : BN X (.Call (.Name "sum" pp) [a] [] pos) [a] (rL1 fun x H Q => rSum cl.K [x] H Q) := by rw [← hK]; exact bn_B1 (cr_sum hc) hm boot_sum' hg (by decide) (by decide) h1 h2
theorem bn_maxL (hK : X.K = cl.K) (hm : X.mg "max" = none) (hc : X.calm = true := by rfl) (hg : Gl X "max" := by rfl) (h1 : starEach [a] X.env = (false, eval a X.env) :: starEach [] X.env := by rfl) (h2 : (backTo pos (starEach [] X.env)).any (·.1) = false := by rfl) : BN X (.Call (.Name "max" pp) [a] [] pos) [a] (rL1 (rMax1 cl.K)) := by rw [← hK]; exact bn_B1 (cr_max hc) hm boot_max' hg (by decide) (by decide) h1 h2
theorem bn_minL (hK : X.K = cl.K) (hm : X.mg "min" = none) (hc : X.calm = true := by rfl) (hg : Gl X "min" := by rfl) (h1 : starEach [a] X.env = (false, eval a X.env) :: starEach [] X.env := by rfl) (h2 : (backTo pos (starEach [] X.env)).any (·.1) = false := by rfl) : BN X (.Call (.Name "min" pp) [a] [] pos) [a] (rL1 (rMin1 cl.K)) := by rw [← hK]; exact bn_B1 (cr_min hc) hm boot_min'' hg (by decide) (by decide) h1 h2
theorem bn_sort (hK : X.K = cl.K) (hm : X.mg "sorted" = none) (hg : Gl X "sorted" := by rfl) (h1 : starEach [a] X.env = (false, eval a X.env) :: starEach [] X.env := by rfl) (h2 : (backTo pos (starEach [] X.env)).any (·.1) = false := by rfl) : BN X (.Call (.Name "sorted" pp) [a] [] pos) [a] (rL1 fun x H Q => rSortedI cl.K [x] H Q) := by rw [← hK]; exact bn_B1 cr_sortedI hm PyProof.Rows.boot_sorted hg (by decide) (by decide) h1 h2
theorem CallR.or' {f : Value} {r r' : List V → Hp → VK → Prop} (h : CallR X f r) (h' : CallR X f r') : CallR X f (fun xs H Q => r xs H Q ∨ r' xs H Q) := by
  intro pins s σ H xs us Q I rx q
  rcases q with q | q
  · exact h pins s σ H xs us Q I rx q
  · exact h' pins s σ H xs us Q I rx q
theorem bn_list (hK : X.K = cl.K) (hm : X.mg "list" = none) (hc : X.calm = true := by rfl) (hg : Gl X "list" := by rfl) (h1 : starEach [a] X.env = (false, eval a X.env) :: starEach [] X.env := by rfl) (h2 : (backTo pos (starEach [] X.env)).any (·.1) = false := by rfl) : BN X (.Call (.Name "list" pp) [a] [] pos) [a] (rL1 (rListA cl.K)) := by
  rw [← hK]; exact bn_T1 (CallR.or' call_list_of (call_list_dK hc)) hm PyProof.Rows.boot_list hg (by decide) (by decide) h1 h2
theorem bn_tup (hK : X.K = cl.K) (hm : X.mg "tuple" = none) (hg : Gl X "tuple" := by rfl) (h1 : starEach [a] X.env = (false, eval a X.env) :: starEach [] X.env := by rfl) (h2 : (backTo pos (starEach [] X.env)).any (·.1) = false := by rfl) : BN X (.Call (.Name "tuple" pp) [a] [] pos) [a] (rL1 (rTupA cl.K)) := by
  rw [← hK]; exact bn_T1 call_tuple_of hm PyProof.Rows.boot_tuple hg (by decide) (by decide) h1 h2
theorem bn_str (hm : X.mg "str" = none) (hg : Gl X "str" := by rfl) (h1 : starEach [a] X.env = (false, eval a X.env) :: starEach [] X.env := by rfl) (h2 : (backTo pos (starEach [] X.env)).any (·.1) = false := by rfl) : BN X (.Call (.Name "str" pp) [a] [] pos) [a] (rL1 rStr) := bn_T1 (CallR.or' call_str_int SkE.call_str_str) hm PyProof.Rows.boot_str hg (by decide) (by decide) h1 h2
theorem bn_valsL (hm : X.mg "list" = none) (hc : X.calm = true := by rfl) (hg : Gl X "list" := by rfl) (hbase : attributeBase a "values" X.env (eval a X.env) = eval a X.env := by rfl) (hline : (apos.endLine == p2.line) = true := by rfl)
    (hs : starEach [.Call (.Attribute a "values" apos) [] [] p2] X.env = (false, eval (.Call (.Attribute a "values" apos) [] [] p2) X.env) :: starEach [] X.env := by rfl) : BN X (.Call (.Name "list" pp) [.Call (.Attribute a "values" apos) [] [] p2] [] pos) [a] (rL1 Rm.rValsL) := fun tes h => by
  cases h with
  | cons q1 h => cases h with
    | nil => exact Rm.pe_listVals hc q1 hg hm PyProof.Rows.boot_list hbase hline hs
theorem bn_valsT (hm : X.mg "tuple" = none) (hc : X.calm = true := by rfl) (hg : Gl X "tuple" := by rfl) (hbase : attributeBase a "values" X.env (eval a X.env) = eval a X.env := by rfl) (hline : (apos.endLine == p2.line) = true := by rfl)
    (hs : starEach [.Call (.Attribute a "values" apos) [] [] p2] X.env = (false, eval (.Call (.Attribute a "values" apos) [] [] p2) X.env) :: starEach [] X.env := by rfl) : BN X (.Call (.Name "tuple" pp) [.Call (.Attribute a "values" apos) [] [] p2] [] pos) [a] (rL1 Rm.rValsT) := fun tes h => by
  cases h with
  | cons q1 h => cases h with
    | nil => exact Rm.pe_tupVals hc q1 hg hm PyProof.Rows.boot_tuple hbase hline hs
theorem bn_sortSet (hK : X.K = cl.K) (hm : X.mg "sorted" = none) (hm2 : X.mg "set" = none) (hc : X.calm = true := by rfl) (hg : Gl X "sorted" := by rfl) (hg2 : Gl X "set" := by rfl) (hs : starEach [a] X.env = (false, eval a X.env) :: starEach [] X.env := by rfl) (hs2 : starEach [.Call (.Name "set" p2) [a] [] q2] X.env = (false, eval (.Call (.Name "set" p2) [a] [] q2) X.env) :: starEach [] X.env := by rfl) :
    BN X (.Call (.Name "sorted" pp) [.Call (.Name "set" p2) [a] [] q2] [] pos) [a] (rL1 (Rm.rSortSet cl.K X.w)) := fun tes h => by
  cases h with
  | cons q1 h => cases h with
    | nil => rw [← hK]; exact Rm.pe_sortSet hc hg hm hg2 hm2 q1 hs hs2
theorem bn_maxDf (hK : X.K = cl.K) (hm : X.mg "max" = none) (hc : X.calm = true := by rfl) (hg : Gl X "max" := by rfl)
    (hs : starEach [a] X.env = (false, eval a X.env) :: starEach [] X.env := by rfl)
    (he : backTo pos (starEach [a] X.env) = (false, eval a X.env) :: backTo pos (starEach [] X.env) := by rfl) (hpl : (backTo pos (starEach [a] X.env)).any (·.1) = false := by rfl)
    (hall : (backToKw pos (keywordEach [⟨some "default", b, kpos⟩] X.env)).all (·.1.isSome) = true := by rfl) (hnone : (backToKw pos (keywordEach [⟨some "default", b, kpos⟩] X.env)).any (·.1.isNone) = false := by rfl) (hks : (backToKw pos (keywordEach [⟨some "default", b, kpos⟩] X.env)).filterMap (·.1) = [Str.ofString "default"] := by rfl) :
    BN X (.Call (.Name "max" pp) [a] [⟨some "default", b, kpos⟩] pos) [a, b] (rL2 fun x y H Q => Rm.rMaxDf cl.K [x] [y] H Q) := fun tes h => by
  cases h with
  | cons q1 h => cases h with
    | cons q2 h => cases h with
      | nil => rw [← hK]; exact pe_callBK (Rm.cr_maxDf hc) hg hm boot_max' (pa_cons q1 pa_nil hs) (pk_cons q2 pk_nil) (by decide) (by decide) he hpl hall hnone hks
/-- d.get(k, x) -/
theorem d_get2 {ob : Od} {os : List Od} {f : Expr} (hu : X.A.units + 1 < cLine) (ho : RoD cl xf X W o ob) (hr : Rn cl xf X W [e, f] os) (m : M2 X o "get" apos e f pos := by exact ⟨rfl, rfl, rfl, rfl⟩) : Rd cl xf X W p (.Call (.Attribute o "get" apos) [e, f] [] pos) (dN getD2 (ob :: os)) := by
  obtain ⟨to, h1, h2⟩ := ho
  obtain ⟨tes, h3, h4⟩ := hr
  cases h3 with
  | @cons _ t1 _ _ q1 h3 => cases h3 with
    | @cons _ t2 _ _ q2 h3 => cases h3 with
      | nil =>
        refine ⟨tF rGet2 (tCons (tUn rIsD to) (tAll _)), ?_, se_n na_get2.n (h2 _ _ h4)⟩
        have h9 := pe_dget2 (X := X) hu h1 q1 q2 m
        have ee : tF rGet2 (tCons (tUn rIsD to) (tAll [t1, t2])) = tDGet2 to t1 t2 := by
          funext σ H Q
          refine congrArg (to σ H) (funext fun x => funext fun H1 => propext ⟨?_, ?_⟩)
          · rintro ⟨a, rfl, h5, h6⟩; exact ⟨a, rfl, h5, h6⟩
          · rintro ⟨a, rfl, h5, h6⟩; exact ⟨a, rfl, h5, h6⟩
        rw [ee]
        exact h9
/-! places -/
def Rpl (cl : Ec) (X : Cx) (e : Expr) (pl : PL) : Prop := ∃ te, PE X e te ∧ SL cl te pl
theorem pl_var (i : Nat) {x : Str} (hN : X.N[i]? = some x := by rfl) (hv : Vis X.env.scope x := by first | exact Or.inl rfl | exact Or.inr (Or.inl rfl) | exact Or.inr (Or.inr rfl)) (hd : (x == ("__debug__" : Str)) = false := by decide) (hcd : (x == ("__classdict__" : Str)) = false := by decide) : Rpl cl X (.Name x pos) (plV i) := ⟨_, pe_var hN hv hd hcd, sl_var⟩
theorem pl_fld {f : Str} {pl : PL} {c0 : Nat} (hc : Cls X.K (cl.c c0)) (hn : NoAttr X.K (cl.c c0) f) (h : Rpl cl X o pl) (hb : attributeBase o f X.env (eval o X.env) = eval o X.env := by rfl) : Rpl cl X (.Attribute o f pos) (plF c0 f pl) := by
  obtain ⟨te, h1, h2⟩ := h
  exact ⟨_, o_fld hb _ h1, sl_fld hc hn h2⟩
theorem pl_ix {pl : PL} (hK : X.K = cl.K) (hu : X.A.units + 1 < cLine) (hs : PlainIx ix) (h : Rpl cl X o pl) (hi : Rk cl X ix pb) : Rpl cl X (.Subscript o ix pos) (plI pl pb) := by
  obtain ⟨te, h1, h2⟩ := h
  obtain ⟨tb, h3, h4⟩ := hi
  exact ⟨_, o_ix hK hu hs _ _ h1 h3, sl_ix h2 h4⟩
/-! methods that change -/
theorem d_mut {T id : String} {name : Str} {rr : V → List V → Hp → VK → Prop} {op : D → List D → Option (D × D)} {pl : PL} {rd : DA} (hK : X.K = cl.K) (mo : MOp cl rr op) (hm : MtR X id rr) (pa : PlainAttrs T) (slot : Slot T name id) (hty : typeOf (.builtin id) = pure (.type "method_descriptor")) (ho : Rpl cl X o pl) (ha : Ra cl xf X W true (e :: es) rd)
    (hbase : attributeBase o name X.env (eval o X.env) = eval o X.env := by rfl)
    (hfew : ((backTo pos (starEach (e :: es) X.env)).all (fun x => !x.1) && (backToKw pos (keywordEach [] X.env)).all (fun x => x.1.isSome) && decide ((e :: es).length + ([] : List Keyword).length + (if ([] : List Keyword).isEmpty then 0 else 1) < 30)) = true := by rfl)
    (hline : (apos.endLine == pos.line) = true := by rfl) (hs : starEach (e :: es) X.env = (false, eval e X.env) :: starEach es X.env := by rfl) (hplain : (backTo pos (starEach es X.env)).any (·.1) = false := by rfl) :
    Rd cl xf X W false (.Call (.Attribute o name apos) (e :: es) [] pos) (dMut pl T op rd) := by
  obtain ⟨te, h1, h2⟩ := ho
  obtain ⟨ta, h3, h4⟩ := ha
  exact ⟨_, pe_bm pa slot hty hm h1 h3 hbase hfew hline hs hplain, by rw [hK]; exact se_mut h2 h4 mo⟩
theorem d_mutI {T id : String} {name : Str} {rr : V → List V → Hp → VK → Prop} {op : D → List D → Option (D × D)} {pl : PL} {rd : DA} (hK : X.K = cl.K) (mo : MOp cl rr op) (hm : MtR X id rr) (pa : PlainAttrs T) (slot : Slot T name id) (hty : typeOf (.builtin id) = pure (.type "method_descriptor")) (ho : Rpl cl X o pl) (ha : Ra cl xf X W false (e :: es) rd)
    (hbase : attributeBase o name X.env (eval o X.env) = eval o X.env := by rfl)
    (hfew : ((backTo pos (starEach (e :: es) X.env)).all (fun x => !x.1) && (backToKw pos (keywordEach [] X.env)).all (fun x => x.1.isSome) && decide ((e :: es).length + ([] : List Keyword).length + (if ([] : List Keyword).isEmpty then 0 else 1) < 30)) = true := by rfl)
    (hline : (apos.endLine == pos.line) = true := by rfl) (hs : starEach (e :: es) X.env = (false, eval e X.env) :: starEach es X.env := by rfl) (hplain : (backTo pos (starEach es X.env)).any (·.1) = false := by rfl) :
    Rd cl xf X W false (.Call (.Attribute o name apos) (e :: es) [] pos) (dMutI pl T op rd) := by
  obtain ⟨te, h1, h2⟩ := ho
  obtain ⟨ta, h3, h4⟩ := ha
  exact ⟨_, pe_bm pa slot hty hm h1 h3 hbase hfew hline hs hplain, by rw [hK]; exact se_mutI h2 h4 mo⟩
theorem d_mut0 {T id : String} {name : Str} {rr : V → List V → Hp → VK → Prop} {op : D → List D → Option (D × D)} {pl : PL} (hK : X.K = cl.K) (mo : MOp cl rr op) (hm : MtR X id rr) (pa : PlainAttrs T) (slot : Slot T name id) (hty : typeOf (.builtin id) = pure (.type "method_descriptor")) (ho : Rpl cl X o pl)
    (hbase : attributeBase o name X.env (eval o X.env) = eval o X.env := by rfl) (hline : (apos.endLine == pos.line) = true := by rfl) : Rd cl xf X W false (.Call (.Attribute o name apos) [] [] pos) (dMut pl T op daNil) := by
  obtain ⟨te, h1, h2⟩ := ho
  exact ⟨tBM X.K T rr te tNil, pe_bm0 pa slot hty hm h1 hbase hline, by rw [hK]; exact se_mut h2 sa_nil mo⟩
/-! stores -/
theorem PSet.or' {t t' : TSet} (h : PSet X t) (h' : PSet X t') : PSet X (fun o i v H Q => t o i v H Q ∨ t' o i v H Q) := by
  intro pins s σ H o i v ov iv u Q I ro ri rv q
  rcases q with q | q
  · exact h pins s σ H o i v ov iv u Q I ro ri rv q
  · exact h' pins s σ H o i v ov iv u Q I ro ri rv q
theorem s_store {pl : PL} {fz : Bool} (hu : X.A.units + 1 < cLine) (ho : Rpl cl X o pl) (hk : Rd cl xf X W true ix db) (he : Rd cl xf X W false e da)
    (hq : ∀ to ti, PE X o to → PE X ix ti → PG X (.Subscript o ix pp) (gSub to ti fun o i v H Q => rSetL o i v H Q ∨ rSetD o i v H Q))
    (hs : swapsWithSole [.Subscript o ix pp] e pos.line X.env = pure false := by rfl) (hw : swappedStores [.Subscript o ix pp] e X.env = pure none := by rfl) (h1 : (assignEach [.Subscript o ix pp] X.env).map (·.2) = [assign (.Subscript o ix pp) X.env] := by rfl) :
    Rs cl xf X W ws (.Assign [.Subscript o ix pp] e pos) (dsStore pl db fz da) := by
  obtain ⟨to, q1, q2⟩ := ho
  obtain ⟨ti, q3, q4⟩ := hk
  obtain ⟨te, q5, q6⟩ := he
  exact ⟨_, ps_asg q5 (hq _ _ q1 q3) hs hw h1, ss_store q2 q4 q6⟩
theorem s_fld {f : Str} {pl : PL} {c0 : Nat} (hK : X.K = cl.K) (hc : Cls X.K (cl.c c0)) (hn : NoAttr X.K (cl.c c0) f) (ho : Rpl cl X o pl) (he : Rd cl xf X W false e da) (hs : swapsWith e (some (.Attribute o f pos')) pos.line X.env = pure false := by rfl) : Rs cl xf X W ws (.Assign [.Attribute o f pos'] e pos) (dsFldS pl c0 f da) := by
  obtain ⟨to, q1, q2⟩ := ho
  obtain ⟨te, q5, q6⟩ := he
  exact ⟨_, ps_fld q1 q5 hs, by rw [hK]; exact ss_fldS (by rw [← hK]; exact hc) (by rw [← hK]; exact hn) q2 q6⟩
theorem inI_add : InOp X .Add (rIop true) := in_add
theorem inI_sub : InOp X .Sub (rIop false) := in_sub
theorem s_fldA {f : Str} {pl : PL} {c0 : Nat} {add : Bool} {op : Operator} (hK : X.K = cl.K) (hop : InOp X op (rIop add)) (hc : Cls X.K (cl.c c0)) (hn : NoAttr X.K (cl.c c0) f) (ho : Rpl cl X o pl) (he : Rd cl xf X W true e da) : Rs cl xf X W ws (.AugAssign (.Attribute o f pos') op e pos) (dsFldA pl c0 f add da) := by
  obtain ⟨to, q1, q2⟩ := ho
  obtain ⟨te, q5, q6⟩ := he
  exact ⟨_, ps_fldaug q1 q5 hop, by rw [hK]; exact ss_fldA (by rw [← hK]; exact hc) (by rw [← hK]; exact hn) q2 q6⟩
end
end Fs
/-! F39 -/
set_option maxHeartbeats 1000000
/-! What the end leans on: classes, facts of the written part. -/
namespace Fs
open PySem PySem.Spec PyProof.Rows L2
/-- the program's classes by numbers: refusals first -/
def cnames : List Str := ([("SlackError" : Str), ("BadPieces" : Str), ("BadText" : Str), ("NoPiece" : Str), ("NoTurn" : Str), ("NoStretch" : Str), ("NoFailings" : Str), ("NoCounts" : Str)] : List Str) ++ ([("NotRefused" : Str), ("Past" : Str), ("Waits" : Str), ("NoWord" : Str), ("NoFailing" : Str), ("NoRest" : Str), ("Over" : Str), ("NoLine" : Str)] : List Str) ++ ([("NotKept" : Str), ("BadSeries" : Str), ("" : Str), ("" : Str), ("Pieces" : Str), ("Run" : Str), ("Paper" : Str), ("Kept" : Str)] : List Str) ++ ([("Crowd" : Str), ("Busy" : Str), ("State" : Str), ("Open" : Str), ("Waiting" : Str), ("Begun" : Str), ("Ended" : Str), ("Finished" : Str)] : List Str) ++ ([("Off" : Str), ("Refused" : Str), ("Book" : Str), ("Desk" : Str), ("Series" : Str), ("Lazy" : Str)] : List Str)
def xfG : Nat → List Str
  | 1 => ["at", "why"] | 2 => ["at", "why"] | 3 => ["found"] | 4 => ["found"] | 5 => ["found"] | 6 => ["found"] | 7 => ["found"] | 9 => ["last"] | 10 => ["name"] | 13 => ["start", "end"] | 15 => ["found"] | 17 => ["at", "why"]
  | _ => []
def clG (K : PySem.W.Frag) : Ec := ⟨fun n => He.ga K (cnames.getD n ""), K⟩
/-! facts by looking -/
abbrev Lk := PySem.W.Frag → Bool
def lkFa (f : He.Fa) : Lk := fun K => f.ok K
def oexB (K : PySem.W.Frag) (C : Addr) : Bool := (match K.lookup C with
  | some ⟨.type t, _, .cls cd, sl⟩ => t == "type" && (match cd.mro, sl.toList with
    | .ref C' :: bm, [_, _, _, _, some (.builtin n), _] => C' == C && (n == "ValueError.__new__" && (!cd.hasDel && (cd.hasDict && PySem.HandSPX.refsVE bm)))
    | _, _ => false)
  | _ => false) && (decide (PySem.W.findIn K (.ref C) "__setattr__" = some (some (.builtin "object.__setattr__"))) && (decide (PySem.W.subIn K (.ref C) (.type "BaseException") = some true) && (decide (PySem.W.typeIn K (.ref C) = some (.type "type")) && PySem.W.keepIn K (.ref C))))
theorem oexB_ok {K : PySem.W.Frag} {C : Addr} (h : oexB K C = true) : OexC K C := by
  unfold oexB at h
  obtain ⟨h0, h⟩ := He.ba h
  obtain ⟨h1, h⟩ := He.ba h
  obtain ⟨h2, h⟩ := He.ba h
  obtain ⟨h3, h4⟩ := He.ba h
  refine ⟨?_, of_decide_eq_true h1, of_decide_eq_true h2, of_decide_eq_true h3, h4⟩
  split at h0
  · rename_i t dd cd sl ho
    obtain ⟨ht, h0⟩ := He.ba h0
    split at h0
    · rename_i C' bm k0 k1 k2 k3 n k5 hm hs
      obtain ⟨q1, h0⟩ := He.ba h0
      obtain ⟨q2, h0⟩ := He.ba h0
      obtain ⟨q3, h0⟩ := He.ba h0
      obtain ⟨q4, q5⟩ := He.ba h0
      have e1 := eq_of_beq ht
      have e2 := eq_of_beq q1
      have e3 := eq_of_beq q2
      have e4 : cd.hasDel = false := by simpa using q3
      subst e1 e2 e3
      obtain ⟨nm, bs, mro, ns, qn, hd, sn, sub, ab, col, del⟩ := cd
      dsimp only at hm e4 q4
      subst hm e4 q4
      have hsl : sl = #[k0, k1, k2, k3, some (.builtin "ValueError.__new__"), k5] := by
        obtain ⟨l⟩ := sl
        simp only at hs
        rw [hs]
      subst hsl
      exact ⟨nm, qn, ns, bs, bm, sn, sub, ab, col, dd, k0, k1, k2, k3, k5, ho, q5⟩
    · cases h0
  · cases h0
def baseB (K : PySem.W.Frag) (C : Addr) : Bool := decide (PySem.W.specialIn K (.ref C) "__getattribute__" = some (some (.builtin "type.__getattribute__"))) && (decide (PySem.W.typeIn K (.ref C) = some (.type "type")) && (PySem.W.readsIn K C (.type "type") && (match PySem.W.findCls K (.ref C) (.type "type") "__init__" with
  | some (.val (.builtin n)) => n == "ValueError.__init__"
  | _ => false)))
theorem baseB_ok {K : PySem.W.Frag} {C : Addr} (h : baseB K C = true) : BaseI K C := by
  unfold baseB at h
  obtain ⟨h0, h⟩ := He.ba h
  obtain ⟨h1, h⟩ := He.ba h
  obtain ⟨h2, h3⟩ := He.ba h
  refine ⟨of_decide_eq_true h0, of_decide_eq_true h1, h2, ?_⟩
  split at h3
  · rename_i n e
    rw [e, eq_of_beq h3]
  · cases h3
/-- an exception's __init__ is a function -/
def iniB (K : PySem.W.Frag) (C : Addr) : Bool := decide (PySem.W.findIn K (.ref C) "__init__" = some (some (.ref (He.ma K C "__init__")))) && decide (PySem.W.typeIn K (.ref (He.ma K C "__init__")) = some (.type "function"))
/-! the Hook -/
def obsX (chk : List Lk) (fn : List He.DefD) (K : PySem.W.Frag) : He.AlD := ((chk.all fun f => f K) && fn.all fun d => d.ok K, fn.map fun d => He.fnW K d.at_)
def SaysX (chk : List Lk) (fn : List He.DefD) (K : PySem.W.Frag) : Prop := obsX chk fn K = He.valD fn
def obsXG (n : Nat) (chk : List Lk) (fn : List He.DefD) (g : Addr → Option Obj) : He.AlD := obsX chk fn (He.frG g (cStatics :: He.asD g n))
def hookX (n : Nat) (chk : List Lk) (fn : List He.DefD) : PySem.W.Hook where
  α := He.AlD
  obs := fun s => obsXG n chk fn s.heap.get?
  val := fun _ => He.valD fn
  says := fun _ h => ∃ K : PySem.W.Frag, K.In h ∧ SaysX chk fn K
  of := fun _ _ e => ⟨_, He.frG_in, e⟩
  keeps := fun _ _ _ ⟨K, hK, c⟩ k => ⟨K, PySem.W.Frag.In.keeps hK k, c⟩
theorem obsXG_eq {n : Nat} {chk : List Lk} {fn : List He.DefD} {g : Addr → Option Obj} {s : Shared} (h : ∀ a, g a = s.heap.get? a) : obsXG n chk fn g = (hookX n chk fn).obs s := by
  have e : g = s.heap.get? := funext h
  rw [e] <;> rfl
section
variable {chk : List Lk} {fn : List He.DefD} {K : PySem.W.Frag}
theorem SaysX.fact (c : SaysX chk fn K) (i : Nat) {f : Lk} (h : chk[i]? = some f := by rfl) : f K = true := by
  have c1 := (He.ba (show ((chk.all fun f => f K) && fn.all fun d => d.ok K) = true from congrArg (fun z : He.AlD => z.1) c)).1
  exact List.all_eq_true.mp c1 f (List.mem_of_getElem? h)
theorem SaysX.def_ (c : SaysX chk fn K) (i : Nat) {d : He.DefD} (h : fn[i]? = some d := by rfl) : ∃ fd, FunD K d.name d.qual d.params d.body d.scope (d.dvs K) (d.kws K) (He.fAd K d.at_) fd := by
  have c2 := (He.ba (show ((chk.all fun f => f K) && fn.all fun d => d.ok K) = true from congrArg (fun z : He.AlD => z.1) c)).2
  have e : fn.map (fun d => He.fnW K d.at_) = fn.map He.DefD.val := congrArg (fun z : He.AlD => z.2) c
  have e2 : (fn.map fun d => He.fnW K d.at_)[i]? = (fn.map He.DefD.val)[i]? := by rw [e]
  rw [List.getElem?_map, List.getElem?_map, h] at e2
  exact He.DefD.funD (Option.some.inj e2) (List.all_eq_true.mp c2 d (List.mem_of_getElem? h))
end
end Fs
/-! F40 -/
/-! Small things for the printed proofs. -/
namespace Fs
open PySem PySem.Spec PyProof.Rows L2
theorem hu65 {A : Around} {k : Nat} (hr : RoomG k A) : A.units + 65 < cLine := by have := hr.un; omega
section
variable {cl : Ec}
theorem PUn.gf {r : V → Hp → VK → Prop} {f : D → Option D} (ho : PUn cl r f) : GUn cl r (fun x => (f x).filter D.kept) := by
  intro p A L B H ts ws δ σ x u f1 z Q j h1 e k
  obtain ⟨e1, e2⟩ := Option.filter_eq_some_iff.mp e
  exact ho A L H x u f1 z Q h1 e1 fun v fp h7 _ => k v A H (Nx.refl j.ba) (j.kept e2 h7)
def fldK (c : Nat) (f : Str) (x : D) : Option D := (fldD c f x).filter D.kept
theorem g_fld {K : PySem.W.Frag} {c : Nat} {f : Str} (hc : Cls K (cl.c c)) (hn : NoAttr K (cl.c c) f) : GUn cl (rFld K f) (fldK c f) := (pun_fld hc hn).gf
end
end Fs
namespace Fs
open PySem PySem.Spec PyProof.Rows L2
section
variable {cl : Ec} {xf : Nat → List Str} {X : Cx} {W : WX} {a : Expr} {pos cp : Pos} {p : Bool} {os : List Od} {ks : List AK} {j : Nat}
theorem t_isNn (hr : Rn cl xf X W [a] os) : Rt cl xf X W p (.Compare a [.Is] [.Constant .none j cp] pos) (dtV (dN (f1 isND) os)) := by
  obtain ⟨tes, h1, h2⟩ := hr
  cases h1 with
  | cons q1 h1 => cases h1 with
    | nil => exact ⟨_, pt_cmp (pc_isN q1) (nobehind _ (by decide) (by decide)), sb_v (se_n g_isN.n h2)⟩
theorem t_notNn (hr : Rn cl xf X W [a] os) : Rt cl xf X W p (.Compare a [.IsNot] [.Constant .none j cp] pos) (dtV (dN (f1 notND) os)) := by
  obtain ⟨tes, h1, h2⟩ := hr
  cases h1 with
  | cons q1 h1 => cases h1 with
    | nil => exact ⟨_, pt_cmp (pc_notN q1) (nobehind _ (by decide) (by decide)), sb_v (se_n g_notN.n h2)⟩
theorem t_isNni (hr : Rz cl xf X W [a] ks) : Rt cl xf X W false (.Compare a [.Is] [.Constant .none j cp] pos) (dtV (dNI (f1 isND) ks)) := by
  obtain ⟨tes, h1, h2⟩ := hr
  cases h1 with
  | cons q1 h1 => cases h1 with
    | nil => exact ⟨_, pt_cmp (pc_isN q1) (nobehind _ (by decide) (by decide)), sb_v (se_ni g_isN.n h2)⟩
theorem t_notNni (hr : Rz cl xf X W [a] ks) : Rt cl xf X W false (.Compare a [.IsNot] [.Constant .none j cp] pos) (dtV (dNI (f1 notND) ks)) := by
  obtain ⟨tes, h1, h2⟩ := hr
  cases h1 with
  | cons q1 h1 => cases h1 with
    | nil => exact ⟨_, pt_cmp (pc_notN q1) (nobehind _ (by decide) (by decide)), sb_v (se_ni g_notN.n h2)⟩
end
end Fs
/-! D_k13 -/
namespace Lw
open PySem PySem.Spec PyProof.Rows L2 Fs
/-- law_box -/
def d_L_law_box : DS := (dsRet (dF mkLst (daCons (dN (f2 maxD) [.k (pC (.int 0)), .v (dN (f2 subD) [.k (pVar 0), .v (dN (f2 powD) [.k (pC (.int 10)), .k (pC (.int 18))])])]) (daCons (dN (f2 modD) [.k (pVar 0), .k (pC (.int 2147483647))]) (daCons (dP (pC (.int 0))) daNil)))))
def F_L_law_box : List D → Out D := runF 1 [false] d_L_law_box
/-- law_take -/
def d_L_law_take : DS := (dsSeq (dsIf (dtV (dN (f2 gtD) [.k (pOp ixD (pVar 0) (pC (.int 0))), .k (pC (.int 0))])) (dsSeq (dsAsg (dN (f2 modD) [.k (pOp ixD (pVar 0) (pC (.int 0))), .k (pVar 1)]) (tgN 2)) (dsSeq (dsStore (plV 0) (dP (pC (.int 0))) true (dN (f2 divD) [.k (pOp ixD (pVar 0) (pC (.int 0))), .k (pVar 1)])) (dsRet (dMv 2)))) dsNext) (dsSeq (dsStore (plV 0) (dP (pC (.int 2))) true (dN (f2 addA) [.k (pOp ixD (pVar 0) (pC (.int 2))), .k (pC (.int 1))])) (dsSeq (dsAsg (dN (f2 modD) [.v (dN (f2 addA) [.v (dN (f2 addA) [.v (dN (f2 mulA) [.k (pOp ixD (pVar 0) (pC (.int 1))), .k (pC (.int 48271))]), .v (dN (f2 mulA) [.k (pC (.int 7919)), .k (pOp ixD (pVar 0) (pC (.int 2)))])]), .k (pC (.int 11))]), .k (pC (.int 2147483629))]) (tgN 3)) (dsSeq (dsAsg (dN (f2 modD) [.v (dN (f2 mulA) [.v (dN (f2 modD) [.v (dN (f2 mulA) [.k (pVar 3), .k (pVar 3)]), .k (pC (.int 2147483587))]), .k (pC (.int 69621))]), .k (pC (.int 2147483647))]) (tgN 3)) (dsRet (dN (f2 modD) [.v (dN (f2 divD) [.v (dN (f2 modD) [.v (dN (f2 mulA) [.k (pVar 3), .k (pVar 3)]), .k (pC (.int 2147483629))]), .k (pC (.int 8))]), .k (pVar 1)]))))))
def F_L_law_take : List D → Out D := runF 4 [true, false] d_L_law_take
/-- law_names -/
def d_L_law_names : DS := (dsSeq (dsAsg (dP (pC (.str "abcdefghijklmnopqrstuvwxyz"))) (tgN 2)) (dsSeq (dsAsg (dF mkLst (daCons (dP (pC (.str "a"))) (daCons (dP (pC (.str "ask"))) (daCons (dP (pC (.str "b"))) (daCons (dP (pC (.str "work"))) (daCons (dP (pC (.str "a1"))) (daCons (dP (pC (.str "rest"))) (daCons (dP (pC (.str "ab"))) (daCons (dP (pC (.str "failed"))) (daCons (dP (pC (.str "abc"))) (daCons (dP (pC (.str "done"))) (daCons (dP (pC (.str "ba"))) (daCons (dP (pC (.str "off"))) (daCons (dP (pC (.str "aa"))) (daCons (dP (pC (.str "left"))) daNil))))))))))))))) (tgN 3)) (dsSeq (dsIf (dtAnd (dtV (dN (f2 ltD) [.k (pVar 1), .k (pC (.int 15))])) (dtV (dNI (f2 eqD) [.v (dCallIO F_L_law_take [.o 0, .v (dP (pC (.int 4)))]), .v (dP (pC (.int 0)))]))) (dsSeq (dsAsg (dCallIO F_L_law_take [.o 0, .v (dP (pC (.int 14)))]) (tgN 4)) (dsRet (dComp true [5] (diD itR (dP (pVar 1))) (tgN 5) dtYes (dN (f2 ixK) [.k (pVar 3), .v (dN (f2 modD) [.v (dN (f2 addA) [.k (pVar 4), .v (dN (f2 mulA) [.k (pC (.int 3)), .k (pVar 5)])]), .k (pC (.int 14))])])))) dsNext) (dsSeq (dsAsg (dNI (f1 (joinD "")) [.v (dComp false [5] (diD itR (dCallIO F_L_law_take [.o 0, .v (dP (pC (.int 5)))])) (tgN 5) dtYes (dNI (f2 ixK) [.l 2, .v (dCallIO F_L_law_take [.o 0, .v (dP (pC (.int 26)))])]))]) (tgN 6)) (dsSeq (dsAsg (dCallIO F_L_law_take [.o 0, .v (dN (f2 addA) [.v (dN (f1 lenD) [.k (pVar 6)]), .k (pC (.int 1))])]) (tgN 4)) (dsSeq (dsAsg (dCallIO F_L_law_take [.o 0, .v (dP (pC (.int 26)))]) (tgN 7)) (dsSeq (dsAsg (dF mkLst daNil) (tgN 8)) (dsSeq (dsFor (diD itR (dP (pVar 1))) (tgN 5) (dsSeq (dsAsg (dN (f2 addA) [.v (dN (f2 ixK) [.k (pVar 2), .v (dN (f2 modD) [.v (dN (f2 addA) [.k (pVar 7), .v (dN (f2 mulA) [.k (pC (.int 7)), .k (pVar 5)])]), .k (pC (.int 26))])]), .v (dN (f2 ixK) [.v (dF mkLst (daCons (dP (pC (.str ""))) (daCons (dP (pC (.str "0"))) daNil))), .v (dN (f2 divD) [.k (pVar 5), .k (pC (.int 26))])])]) (tgN 9)) (dsDrop (dApp 8 (dN (f2 addA) [.v (dN (f2 addA) [.v (dN (f2 addA) [.v (dN slD [.k (pVar 6), .k (pC .non), .k (pUn intP (pVar 4))]), .k (pVar 9)]), .v (dN slD [.k (pVar 6), .k (pUn intP (pVar 4)), .k (pC .non)])]), .v (dN slD [.k (pC (.str "z9")), .k (pC .non), .v (d1 intP (dN (f2 modD) [.k (pVar 5), .k (pC (.int 3))]))])]))))) (dsRet (dMv 8))))))))))
def F_L_law_names : List D → Out D := runF 10 [true, false] d_L_law_names
/-- law_rows -/
def d_L_law_rows : DS := (dsSeq (dsAsg (dNI (f2 ixK) [.v (dF mkLst (daCons (dP (pC (.int 8))) (daCons (dP (pC (.int 20))) (daCons (dP (pC (.int 40))) (daCons (dP (pC (.int 200))) daNil))))), .v (dCallIO F_L_law_take [.o 0, .v (dP (pC (.int 4)))])]) (tgN 2)) (dsSeq (dsAsg (dNI (f2 ixK) [.v (dF mkLst (daCons (dP (pC (.int 2))) (daCons (dP (pC (.int 4))) (daCons (dP (pC (.int 12))) daNil)))), .v (dCallIO F_L_law_take [.o 0, .v (dP (pC (.int 3)))])]) (tgN 3)) (dsSeq (dsAsg (dF mkLst daNil) (tgN 4)) (dsSeq (dsFor (diD (itA true) (dCallIO F_L_law_names [.o 0, .v (dNI (f2 maxD) [.v (dCallIO F_L_law_take [.o 0, .v (dN (f2 addA) [.k (pVar 1), .k (pC (.int 1))])]), .v (dCallIO F_L_law_take [.o 0, .v (dN (f2 addA) [.k (pVar 1), .k (pC (.int 1))])])])])) (tgN 5) (dsSeq (dsAsg (dCallIO F_L_law_take [.o 0, .l 2]) (tgN 6)) (dsSeq (dsAsg (dNI (f2 minD) [.v (dP (pC (.int 199))), .v (dNI (f2 addA) [.l 6, .v (dNI (f2 ixK) [.v (dF mkLst (daCons (dCallIO F_L_law_take [.o 0, .v (dP (pC (.int 12)))]) (daCons (dCallIO F_L_law_take [.o 0, .l 2]) (daCons (dP (pC (.int 199))) daNil)))), .v (dCallIO F_L_law_take [.o 0, .v (dP (pC (.int 3)))])])])]) (tgN 7)) (dsSeq (dsIf (dtV (dNI (f2 eqD) [.v (dCallIO F_L_law_take [.o 0, .v (dP (pC (.int 10)))]), .v (dP (pC (.int 0)))])) (dsAsg (dN (f2 addA) [.k (pVar 7), .k (pC (.int 1))]) (tgN 6)) dsNext) (dsSeq (dsAsg (dNI (f2 addA) [.v (dP (pC (.int 1))), .v (dCallIO F_L_law_take [.o 0, .l 3])]) (tgN 8)) (dsSeq (dsAsg (dNI (f2 ixK) [.v (dF mkLst (daCons (dP (pVar 8)) (daCons (dP (pVar 8)) (daCons (dCallIO F_L_law_take [.o 0, .v (dN (f2 addA) [.k (pVar 8), .k (pC (.int 1))])]) (daCons (dP (pC (.int 0))) daNil))))), .v (dCallIO F_L_law_take [.o 0, .v (dP (pC (.int 4)))])]) (tgN 9)) (dsDrop (dApp 4 (dF mkTup (daCons (dP (pVar 5)) (daCons (dP (pVar 6)) (daCons (dP (pVar 7)) (daCons (dP (pVar 8)) (daCons (dP (pVar 9)) daNil)))))))))))))) (dsRet (dMv 4))))))
def F_L_law_rows : List D → Out D := runF 10 [true, false] d_L_law_rows
/-- is_whole -/
def d_words_is_whole : DS := (dsRet (dAnd (dN (f1 (isiD "int")) [.k (pVar 0)]) (d1S notD (dN (f1 (isiD "bool")) [.k (pVar 0)]))))
def F_words_is_whole : List D → Out D := runF 1 [false] d_words_is_whole
/-- is_within -/
def d_words_is_within : DS := (dsRet (dAnd (dCall F_words_is_whole (daLend (pVar 0) daNil)) (dCh leD leD (dP (pVar 1)) (dP (pVar 0)) (dP (pVar 2)))))
def F_words_is_within : List D → Out D := runF 3 [false, false, false] d_words_is_within
/-- window_fault -/
def d_pieces_window_fault : DS := (dsSeq (dsIf (dtNot (dtV (dCall F_words_is_within (daLend (pOp ixD (pVar 0) (pC (.int 1))) (daLend (pC (.int 0)) (daCons (dN (f2 addA) [.k (pC (.int 199)), .k (pC (.int 1))]) daNil)))))) (dsRet (dP (pC (.str "first")))) dsNext) (dsSeq (dsIf (dtNot (dtV (dCall F_words_is_within (daLend (pOp ixD (pVar 0) (pC (.int 2))) (daCons (dN (f2 maxD) [.k (pC (.int 0)), .v (dN (f2 subD) [.k (pOp ixD (pVar 0) (pC (.int 1))), .k (pC (.int 1))])]) (daLend (pC (.int 199)) daNil)))))) (dsRet (dP (pC (.str "last")))) dsNext) (dsSeq (dsIf (dtNot (dtV (dCall F_words_is_within (daLend (pOp ixD (pVar 0) (pC (.int 3))) (daLend (pC (.int 1)) (daLend (pC (.int 12)) daNil)))))) (dsRet (dP (pC (.str "length")))) dsNext) (dsSeq (dsIf (dtAnd (dtV (dN (f2 eqD) [.v (dN (f1 lenD) [.k (pVar 0)]), .k (pC (.int 5))])) (dtNot (dtV (dCall F_words_is_within (daLend (pOp ixD (pVar 0) (pC (.int 4))) (daLend (pC (.int 0)) (daLend (pOp ixD (pVar 0) (pC (.int 3))) daNil))))))) (dsRet (dP (pC (.str "left")))) dsNext) (dsRet (dP (pC .non)))))))
def F_pieces_window_fault : List D → Out D := runF 1 [false] d_pieces_window_fault
/-- is_name -/
def d_words_is_name : DS := (dsSeq (dsIf (dtOr (dtNot (dtV (dN (f1 (isiD "str")) [.k (pVar 0)]))) (dtOr (dtNot (dtV (dCh leD leD (dP (pC (.int 1))) (dN (f1 lenD) [.k (pVar 0)]) (dP (pC (.int 8)))))) (dtV (dN (f2 notinD) [.k (pOp ixD (pVar 0) (pC (.int 0))), .k (pC (.str "abcdefghijklmnopqrstuvwxyz"))])))) (dsRet (dP (pC (.bl false)))) dsNext) (dsRet (dN (f1 allD) [.v (dComp true [1] (diP (itA true) (pVar 0)) (tgN 1) dtYes (dN (f2 inD) [.k (pVar 1), .v (dN (f2 addA) [.k (pC (.str "abcdefghijklmnopqrstuvwxyz")), .k (pC (.str "0123456789"))])]))])))
def F_words_is_name : List D → Out D := runF 2 [false] d_words_is_name
/-- row_fault -/
def d_pieces_row_fault : DS := (dsSeq (dsIf (dtOr (dtNot (dtV (dN (f1 (isiD "tuple")) [.k (pVar 1)]))) (dtNot (dtV (dCh leD leD (dP (pC (.int 4))) (dN (f1 lenD) [.k (pVar 1)]) (dP (pC (.int 5))))))) (dsRet (dP (pC (.str "form")))) dsNext) (dsSeq (dsIf (dtNot (dtV (dCall F_words_is_name (daLend (pOp ixD (pVar 1) (pC (.int 0))) daNil)))) (dsRet (dP (pC (.str "name")))) dsNext) (dsSeq (dsIf (dtV (dN (f2 inD) [.k (pOp ixD (pVar 1) (pC (.int 0))), .k (pVar 0)])) (dsRet (dP (pC (.str "double")))) dsNext) (dsRet (dCall F_pieces_window_fault (daLend (pVar 1) daNil))))))
def F_pieces_row_fault : List D → Out D := runF 2 [false, false] d_pieces_row_fault
/-- five_of -/
def d_pieces_five_of : DS := (dsSeq (dsIf (dtV (dN (f2 eqD) [.v (dN (f1 lenD) [.k (pVar 0)]), .k (pC (.int 4))])) (dsRet (dN (f2 addA) [.k (pVar 0), .v (dF mkTup (daCons (dP (pOp ixD (pVar 0) (pC (.int 3)))) daNil))])) dsNext) (dsRet (dMv 0)))
def F_pieces_five_of : List D → Out D := runF 1 [false] d_pieces_five_of
/-- five_rows -/
def d_pieces_five_rows : DS := (dsSeq (dsIf (dtNot (dtV (dN (f1 (isiTD ["list", "tuple"])) [.k (pVar 0)]))) (dsRaise 1 2 (daCons (dP (pC .non)) (daCons (dP (pC (.str "form"))) daNil))) dsNext) (dsSeq (dsIf (dtV (dN (f2 gtD) [.v (dN (f1 lenD) [.k (pVar 0)]), .k (pC (.int 30))])) (dsRaise 1 2 (daCons (dP (pC (.int 30))) (daCons (dP (pC (.str "many"))) daNil))) dsNext) (dsSeq (dsAsg dDict0 (tgN 1)) (dsSeq (dsFor (diP (itEn false) (pVar 0)) (tgT [tgN 2, tgN 3]) (dsSeq (dsAsg (dCall F_pieces_row_fault (daLend (pVar 1) (daLend (pVar 3) daNil))) (tgN 4)) (dsSeq (dsIf (dtV (dN (f1 notND) [.k (pVar 4)])) (dsRaise 1 2 (daCons (dP (pVar 2)) (daCons (dP (pVar 4)) daNil))) dsNext) (dsStore (plV 1) (dP (pOp ixD (pVar 3) (pC (.int 0)))) true (dCall F_pieces_five_of (daLend (pVar 3) daNil)))))) (dsRet (dMv 1))))))
def F_pieces_five_rows : List D → Out D := runF 5 [false] d_pieces_five_rows
/-- Pieces.__init -/
def d_pieces_Pieces___init__ : DS := (dsFldS (plV 0) 20 "fives" (dCall F_pieces_five_rows (daLend (pVar 1) daNil)))
def F_pieces_Pieces___init__ : List D → Out D := runF 2 [true, false] d_pieces_Pieces___init__
/-- law_cell -/
def d_L_law_cell : DS := (dsSeq (dsIf (dtV (dN (f2 ltD) [.k (pVar 1), .v (dN (f1 lenD) [.k (pVar 0)])])) (dsRet (dP (pOp ixD (pVar 0) (pVar 1)))) dsNext) (dsSeq (dsIf (dtV (dN (f2 eqD) [.v (dN (f1 lenD) [.k (pVar 0)]), .k (pC (.int 0))])) (dsRet (dN (f2 addA) [.v (dN (f2 mulA) [.k (pC (.int 48271)), .k (pVar 1)]), .k (pC (.int 7))])) dsNext) (dsRet (dN (f2 addA) [.v (dN (f2 divD) [.v (dN (f2 ixK) [.k (pVar 0), .v (dN (f2 modD) [.k (pVar 1), .v (dN (f1 lenD) [.k (pVar 0)])])]), .v (dN (f2 addA) [.k (pVar 1), .k (pC (.int 1))])]), .v (dN (f2 mulA) [.k (pC (.int 7919)), .k (pVar 1)])]))))
def F_L_law_cell : List D → Out D := runF 2 [false, false] d_L_law_cell
/-- is_stretch -/
def d_stretches_is_stretch : DS := (dsSeq (dsIf (dtOr (dtNot (dtV (dN (f1 (isiD "tuple")) [.k (pVar 0)]))) (dtOr (dtV (dN (f2 neD) [.v (dN (f1 lenD) [.k (pVar 0)]), .k (pC (.int 2))])) (dtNot (dtV (dCall F_words_is_within (daLend (pOp ixD (pVar 0) (pC (.int 0))) (daLend (pC (.int 0)) (daCons (dN (f2 addA) [.k (pC (.int 199)), .k (pC (.int 1))]) daNil)))))))) (dsRet (dP (pC (.bl false)))) dsNext) (dsRet (dCall F_words_is_within (daLend (pOp ixD (pVar 0) (pC (.int 1))) (daCons (dN (f2 subD) [.k (pOp ixD (pVar 0) (pC (.int 0))), .k (pC (.int 1))]) (daLend (pC (.int 199)) daNil))))))
def F_stretches_is_stretch : List D → Out D := runF 1 [false] d_stretches_is_stretch
/-- need_stretch -/
def d_stretches_need_stretch : DS := (dsIf (dtNot (dtV (dCall F_stretches_is_stretch (daLend (pVar 0) daNil)))) (dsRaise 5 1 (daCons (dP (pVar 0)) daNil)) dsNext)
def F_stretches_need_stretch : List D → Out D := runF 1 [false] d_stretches_need_stretch
/-- need_failings -/
def d_stretches_need_failings : DS := (dsIf (dtNot (dtV (dCall F_words_is_within (daLend (pVar 0) (daLend (pC (.int 0)) (daLend (pC (.int 300)) daNil)))))) (dsRaise 6 1 (daCons (dP (pVar 0)) daNil)) dsNext)
def F_stretches_need_failings : List D → Out D := runF 1 [false] d_stretches_need_failings
/-- Pieces.told -/
def d_pieces_Pieces_told : DS := (dsRet (dN (f1 valsTD) [.k (pUn (fldD 20 "fives") (pVar 0))]))
def F_pieces_Pieces_told : List D → Out D := runF 1 [false] d_pieces_Pieces_told
/-- rows_within -/
def d_stretches_rows_within : DS := (dsSeq (dsDrop (dCall F_stretches_need_stretch (daLend (pVar 1) daNil))) (dsRet (dComp true [2] (diD (itA true) (dCall F_pieces_Pieces_told (daLend (pRc 20 "told" (pVar 0)) daNil))) (tgN 2) (dtAnd (dtV (dN (f2 geD) [.k (pOp ixD (pVar 2) (pC (.int 1))), .k (pOp ixD (pVar 1) (pC (.int 0)))])) (dtV (dN (f2 leD) [.k (pOp ixD (pVar 2) (pC (.int 2))), .k (pOp ixD (pVar 1) (pC (.int 1)))]))) (dP (pVar 2)))))
def F_stretches_rows_within : List D → Out D := runF 3 [false, false] d_stretches_rows_within
/-- lefts -/
def d_stretches_lefts : DS := (dsRet (dN (f1 sumD) [.v (dComp true [2] (diD (itA true) (dCall F_stretches_rows_within (daLend (pVar 0) (daLend (pVar 1) daNil)))) (tgN 2) dtYes (dP (pOp ixD (pVar 2) (pC (.int 4)))))]))
def F_stretches_lefts : List D → Out D := runF 3 [false, false] d_stretches_lefts
/-- greatest_length -/
def d_stretches_greatest_length : DS := (dsRet (dN (f2 maxDfD) [.v (dComp true [2] (diD (itA true) (dCall F_stretches_rows_within (daLend (pVar 0) (daLend (pVar 1) daNil)))) (tgN 2) dtYes (dP (pOp ixD (pVar 2) (pC (.int 3))))), .k (pC (.int 0))]))
def F_stretches_greatest_length : List D → Out D := runF 3 [false, false] d_stretches_greatest_length
/-- need -/
def d_stretches_need : DS := (dsSeq (dsDrop (dCall F_stretches_need_stretch (daLend (pVar 1) daNil))) (dsSeq (dsDrop (dCall F_stretches_need_failings (daLend (pVar 2) daNil))) (dsRet (dN (f2 addA) [.v (dCall F_stretches_lefts (daLend (pVar 0) (daLend (pVar 1) daNil))), .v (dN (f2 mulA) [.k (pVar 2), .v (dCall F_stretches_greatest_length (daLend (pVar 0) (daLend (pVar 1) daNil)))])]))))
def F_stretches_need : List D → Out D := runF 3 [false, false, false] d_stretches_need
/-- Pieces.has -/
def d_pieces_Pieces_has : DS := (dsRet (dAnd (dN (f1 (isiD "str")) [.k (pVar 1)]) (dN (f2 inD) [.k (pVar 1), .k (pUn (fldD 20 "fives") (pVar 0))])))
def F_pieces_Pieces_has : List D → Out D := runF 2 [false, false] d_pieces_Pieces_has
/-- Pieces.row -/
def d_pieces_Pieces_row : DS := (dsSeq (dsIf (dtNot (dtV (dCall F_pieces_Pieces_has (daLend (pRc 20 "has" (pVar 0)) (daLend (pVar 1) daNil))))) (dsRaise 3 1 (daCons (dP (pVar 1)) daNil)) dsNext) (dsRet (dP (pOp ixD (pUn (fldD 20 "fives") (pVar 0)) (pVar 1)))))
def F_pieces_Pieces_row : List D → Out D := runF 2 [false, false] d_pieces_Pieces_row
/-- Pieces.put_at -/
def d_pieces_Pieces_put_at : DS := (dsRet (dCall (mkF 20 F_pieces_Pieces___init__) (daCons (dComp true [3] (diD (itA true) (dCall F_pieces_Pieces_told (daLend (pRc 20 "told" (pVar 0)) daNil))) (tgN 3) dtYes (dIf (dtV (dN (f2 eqD) [.k (pOp ixD (pVar 3) (pC (.int 0))), .k (pVar 1)])) (dP (pVar 2)) (dP (pVar 3)))) daNil)))
def F_pieces_Pieces_put_at : List D → Out D := runF 4 [false, false, false] d_pieces_Pieces_put_at
/-- Pieces.with_last -/
def d_pieces_Pieces_with_last : DS := (dsSeq (dsAsg (dCall F_pieces_Pieces_row (daLend (pRc 20 "row" (pVar 0)) (daLend (pVar 1) daNil))) (tgN 3)) (dsRet (dCall F_pieces_Pieces_put_at (daLend (pRc 20 "put_at" (pVar 0)) (daLend (pVar 1) (daCons (dN (f2 addA) [.v (dN (f2 addA) [.v (dN slD [.k (pVar 3), .k (pC .non), .k (pUn intP (pC (.int 2)))]), .v (dF mkTup (daCons (dP (pVar 2)) daNil))]), .v (dN slD [.k (pVar 3), .k (pUn intP (pC (.int 3))), .k (pC .non)])]) daNil))))))
def F_pieces_Pieces_with_last : List D → Out D := runF 4 [false, false, false] d_pieces_Pieces_with_last
/-- law_stretch -/
def d_L_law_stretch : DS := (dsSeq (dsAsg (dCallIO F_L_law_take [.o 0, .v (dP (pC (.int 201)))]) (tgN 2)) (dsSeq (dsAsg (dNI (f2 addA) [.v (dN (f2 subD) [.k (pVar 2), .k (pC (.int 1))]), .v (dCallIO F_L_law_take [.o 0, .v (dN (f2 subD) [.k (pC (.int 201)), .k (pVar 2)])])]) (tgN 3)) (dsSeq (dsIf (dtAnd (dtV (dN (f2 neD) [.k (pVar 1), .v (dF mkLst daNil)])) (dtV (dNI (f2 gtD) [.v (dCallIO F_L_law_take [.o 0, .v (dP (pC (.int 4)))]), .v (dP (pC (.int 0)))]))) (dsSeq (dsAsg (dNI (f2 maxD) [.v (dP (pC (.int 0))), .v (dNI (f2 minD) [.v (dP (pC (.int 200))), .v (dNI (f2 addA) [.v (dNI (f2 ixK) [.v (dNI (f2 ixK) [.l 1, .v (dCallIO F_L_law_take [.o 0, .v (dN (f1 lenD) [.k (pVar 1)])])]), .v (dP (pC (.int 1)))]), .v (dNI (f2 ixK) [.v (dF mkLst (daCons (dP (pC (.int 0))) (daCons (dP (pC (.int 0))) (daCons (dP (pC (.int 1))) (daCons (dN (f2 subD) [.k (pC (.int 0)), .k (pC (.int 1))]) daNil))))), .v (dCallIO F_L_law_take [.o 0, .v (dP (pC (.int 4)))])])])])]) (tgN 2)) (dsAsg (dNI (f2 maxD) [.v (dN (f2 subD) [.k (pVar 2), .k (pC (.int 1))]), .v (dNI (f2 minD) [.v (dP (pC (.int 199))), .v (dNI (f2 addA) [.v (dNI (f2 ixK) [.v (dNI (f2 ixK) [.l 1, .v (dCallIO F_L_law_take [.o 0, .v (dN (f1 lenD) [.k (pVar 1)])])]), .v (dP (pC (.int 2)))]), .v (dNI (f2 ixK) [.v (dF mkLst (daCons (dP (pC (.int 0))) (daCons (dP (pC (.int 0))) (daCons (dP (pC (.int 1))) (daCons (dN (f2 subD) [.k (pC (.int 0)), .k (pC (.int 1))]) daNil))))), .v (dCallIO F_L_law_take [.o 0, .v (dP (pC (.int 4)))])])])])]) (tgN 3))) dsNext) (dsRet (dF mkTup (daCons (dP (pVar 2)) (daCons (dP (pVar 3)) daNil)))))))
def F_L_law_stretch : List D → Out D := runF 4 [true, false] d_L_law_stretch
/-- law_within -/
def d_L_law_within : DS := (dsRet (dComp true [2] (diP (itA true) (pVar 0)) (tgN 2) (dtAnd (dtV (dN (f2 leD) [.k (pOp ixD (pVar 1) (pC (.int 0))), .k (pOp ixD (pVar 2) (pC (.int 1)))])) (dtV (dN (f2 leD) [.k (pOp ixD (pVar 2) (pC (.int 2))), .k (pOp ixD (pVar 1) (pC (.int 1)))]))) (dP (pVar 2))))
def F_L_law_within : List D → Out D := runF 3 [false, false] d_L_law_within
/-- law_need -/
def d_L_law_need : DS := (dsSeq (dsAsg (dCall F_L_law_within (daLend (pVar 0) (daLend (pVar 1) daNil))) (tgN 3)) (dsRet (dN (f2 addA) [.v (dN (f1 sumD) [.v (dComp true [4] (diP (itA true) (pVar 3)) (tgN 4) dtYes (dP (pOp ixD (pVar 4) (pC (.int 4)))))]), .v (dN (f2 mulA) [.k (pVar 2), .v (dN (f1 maxLD) [.v (dN (f2 addA) [.v (dComp true [4] (diP (itA true) (pVar 3)) (tgN 4) dtYes (dP (pOp ixD (pVar 4) (pC (.int 3))))), .v (dF mkLst (daCons (dP (pC (.int 0))) daNil))])])])])))
def F_L_law_need : List D → Out D := runF 5 [false, false, false] d_L_law_need
/-- law_whole -/
def d_L_law_whole : DS := (dsRet (dAnd (dN (f1 (isiD "int")) [.k (pVar 0)]) (dAnd (d1S notD (dN (f1 (isiD "bool")) [.k (pVar 0)])) (dN (f2 eqD) [.k (pVar 0), .k (pVar 1)]))))
def F_L_law_whole : List D → Out D := runF 2 [false, false] d_L_law_whole
/-- Pieces.with_left -/
def d_pieces_Pieces_with_left : DS := (dsRet (dCall F_pieces_Pieces_put_at (daLend (pRc 20 "put_at" (pVar 0)) (daLend (pVar 1) (daCons (dN (f2 addA) [.v (dN slD [.v (dCall F_pieces_Pieces_row (daLend (pRc 20 "row" (pVar 0)) (daLend (pVar 1) daNil))), .k (pC .non), .k (pUn intP (pC (.int 4)))]), .v (dF mkTup (daCons (dP (pVar 2)) daNil))]) daNil)))))
def F_pieces_Pieces_with_left : List D → Out D := runF 3 [false, false, false] d_pieces_Pieces_with_left
/-- room -/
def d_stretches_room : DS := (dsSeq (dsDrop (dCall F_stretches_need_stretch (daLend (pVar 0) daNil))) (dsRet (dN (f2 addA) [.v (dN (f2 subD) [.k (pOp ixD (pVar 0) (pC (.int 1))), .k (pOp ixD (pVar 0) (pC (.int 0)))]), .k (pC (.int 1))])))
def F_stretches_room : List D → Out D := runF 1 [false] d_stretches_room
/-- short -/
def d_stretches_short : DS := (dsRet (dN (f2 subD) [.v (dCall F_stretches_need (daLend (pVar 0) (daLend (pVar 1) (daLend (pVar 2) daNil)))), .v (dCall F_stretches_room (daLend (pVar 1) daNil))]))
def F_stretches_short : List D → Out D := runF 3 [false, false, false] d_stretches_short
/-- law -/
def d_law_k13 : DS := (dsSeq (dsFor (diD itR (dN (f2 maxD) [.k (pC (.int 3)), .v (dN (f2 minD) [.v (dN (f1 lenD) [.k (pVar 0)]), .k (pC (.int 12))])])) (tgN 1) (dsSeq (dsAsg (dCall F_L_law_box (daCons (dCall F_L_law_cell (daLend (pVar 0) (daLend (pVar 1) daNil))) daNil)) (tgN 2)) (dsSeq (dsAsg (dCallIO F_L_law_rows [.o 2, .v (dNI (f2 ixK) [.v (dF mkLst (daCons (dP (pC (.int 8))) (daCons (dP (pC (.int 30))) daNil))), .v (dNI (f1 intD) [.v (dNI (f2 eqD) [.v (dCallIO F_L_law_take [.o 2, .v (dP (pC (.int 8)))]), .v (dP (pC (.int 0)))])])])]) (tgN 3)) (dsSeq (dsAsg (dCall (mkF 20 F_pieces_Pieces___init__) (daLend (pVar 3) daNil)) (tgN 4)) (dsSeq (dsIf (dtAnd (dtV (dN (f2 neD) [.k (pVar 3), .v (dF mkLst daNil)])) (dtV (dNI (f2 eqD) [.v (dCallIO F_L_law_take [.o 2, .v (dP (pC (.int 2)))]), .v (dP (pC (.int 0)))]))) (dsSeq (dsDrop (dCall F_stretches_need (daLend (pVar 4) (daCons (dF mkTup (daCons (dP (pC (.int 0))) (daCons (dP (pC (.int 199))) daNil))) (daLend (pC (.int 1)) daNil))))) (dsSeq (dsAsg (dP (pOp ixD (pVar 3) (pC (.int 0)))) (tgT [tgN 5, tgN 6, tgN 7, tgN 8, tgN 9])) (dsSeq (dsAsg (dCall F_pieces_Pieces_with_last (daCons (dRc 20 "with_last" (dCall F_pieces_Pieces_with_left (daLend (pRc 20 "with_left" (pVar 4)) (daLend (pVar 5) (daLend (pC (.int 0)) daNil))))) (daLend (pVar 5) (daLend (pC (.int 199)) daNil)))) (tgN 4)) (dsAsg (dN (f2 addA) [.v (dF mkLst (daCons (dF mkTup (daCons (dP (pVar 5)) (daCons (dP (pVar 6)) (daCons (dP (pC (.int 199))) (daCons (dP (pVar 8)) (daCons (dP (pC (.int 0))) daNil)))))) daNil)), .v (dN slD [.k (pVar 3), .k (pUn intP (pC (.int 1))), .k (pC .non)])]) (tgN 3))))) dsNext) (dsFor (diD itR (dP (pC (.int 8)))) (tgN 10) (dsSeq (dsAsg (dCallIO F_L_law_stretch [.o 2, .l 3]) (tgN 11)) (dsSeq (dsAsg (dNI (f2 ixK) [.v (dF mkLst (daCons (dP (pC (.int 0))) (daCons (dP (pC (.int 1))) (daCons (dP (pC (.int 2))) (daCons (dCallIO F_L_law_take [.o 2, .v (dP (pC (.int 7)))]) (daCons (dP (pC (.int 300))) (daCons (dCallIO F_L_law_take [.o 2, .v (dP (pC (.int 301)))]) daNil))))))), .v (dCallIO F_L_law_take [.o 2, .v (dP (pC (.int 6)))])]) (tgN 12)) (dsSeq (dsAsg (dCall F_L_law_need (daLend (pVar 3) (daLend (pVar 11) (daLend (pVar 12) daNil)))) (tgN 13)) (dsSeq (dsAsg (dN (f2 addA) [.v (dN (f2 subD) [.k (pOp ixD (pVar 11) (pC (.int 1))), .k (pOp ixD (pVar 11) (pC (.int 0)))]), .k (pC (.int 1))]) (tgN 14)) (dsSeq (dsIf (dtAnd (dtV (dNI (f2 eqD) [.v (dCallIO F_L_law_take [.o 2, .v (dP (pC (.int 2)))]), .v (dP (pC (.int 0)))])) (dtNot (dtV (dCall F_L_law_whole (daCons (dCall F_stretches_short (daLend (pVar 4) (daLend (pVar 11) (daLend (pVar 12) daNil)))) (daCons (dN (f2 subD) [.k (pVar 13), .k (pVar 14)]) daNil)))))) (dsRet (dP (pC (.bl false)))) dsNext) (dsSeq (dsIf (dtOr (dtNot (dtV (dCall F_L_law_whole (daCons (dCall F_stretches_need (daLend (pVar 4) (daLend (pVar 11) (daLend (pVar 12) daNil)))) (daLend (pVar 13) daNil))))) (dtNot (dtV (dCall F_L_law_whole (daCons (dCall F_stretches_room (daLend (pVar 11) daNil)) (daLend (pVar 14) daNil)))))) (dsRet (dP (pC (.bl false)))) dsNext) (dsIf (dtNot (dtV (dCall F_L_law_whole (daCons (dCall F_stretches_short (daLend (pVar 4) (daLend (pVar 11) (daLend (pVar 12) daNil)))) (daCons (dN (f2 subD) [.k (pVar 13), .k (pVar 14)]) daNil))))) (dsRet (dP (pC (.bl false)))) dsNext))))))))))))) (dsRet (dP (pC (.bl true)))))
def F_law_k13 : List D → Out D := runF 15 [false] d_law_k13
end Lw
/-! F41 -/
set_option maxHeartbeats 1000000
/-! A loop over a list that a slot owns: the slot is empty meanwhile. -/
namespace Fs
open PySem PySem.Spec PyProof.Rows L2
def gapE (i : Nat) (s : Sl) : Bool := match s[i]? with | some none => true | _ => false
theorem gapE_ok {i : Nat} {s : Sl} (h : gapE i s = true) : s[i]? = some none := by
  unfold gapE at h
  split at h
  · assumption
  · cases h
def backE (i : Nat) (d : D) : Out Flow → Out Flow
  | .ok f s => if gapE i s then .ok f (s.set i (some d)) else .bad
  | .exc c xs s => if gapE i s then .exc c xs (s.set i (some d)) else .bad
  | .bad => .bad
def dsForE (i : Nat) (it : D → Option (List D)) (tg : D → Sl → Option Sl) (body : DS) : DS := fun δ => match (δ[i]?).join with
  | some d => if d.free then (match it d with
    | some its => backE i d (loop tg body its (δ.set i none))
    | none => .bad) else .bad
  | none => .bad
section
variable {cl : Ec} {xf : Nat → List Str} {W : WX} {ws : Nat → Bool} {A A' L B : Addr → Prop} {H H' : Hp} {δ δ' : Sl} {σ σ' : L2.St} {t : TS} {E : Ends}
theorem Jt.putMore {d : D} {v : V} {i : Nat} {us : List D} {xs : List V} (j : Jt false cl A L B H (d :: us) (v :: xs) δ σ) (hi : δ[i]? = some none) (hv : σ[i]? = some (some v)) : Jt false cl A L B H us xs (δ.set i (some d)) σ := by
  obtain ⟨f, g, h1, h2, h3, h4, h5⟩ := j.ex
  simp only [Rps] at h1
  obtain ⟨v0, vs', f1, f2, e, rfl, h6, h7⟩ := h1
  cases e
  have nd := List.nodup_append.mp h3
  have nd2 := List.nodup_append.mp nd.1
  have hl : i < δ.length := (List.getElem?_eq_some_iff.mp hi).1
  have ndp : (f1 ++ g).Nodup := List.nodup_append.mpr ⟨nd2.1, nd.2.1, fun a ha c hc => nd.2.2 a (List.mem_append_left _ ha) c hc⟩
  obtain ⟨g', k1, k2, k3⟩ := h2.put (i := i) hl h6.weak ndp
  rw [set_set_eq hv] at k1
  refine ⟨⟨f2, g', h7, k1, List.nodup_append.mpr ⟨nd2.2.1, k2, fun a ha c hc e => ?_⟩, fun a ha => h4 a (List.mem_append_right _ ha), fun hp a ha q => ?_⟩, j.lb, j.ba, j.ad⟩
  · subst e
    rcases List.mem_append.mp (k3 a hc) with q | q
    · exact nd2.2.2 a q a ha rfl
    · exact nd.2.2 a (List.mem_append_right _ ha) a q rfl
  · rcases List.mem_append.mp (k3 a ha) with z | z
    · exact h4 a (List.mem_append_left _ z) q
    · exact h5 rfl a z q
theorem for_core {J : It} {its : List D} {g : TG} {tg : D → Sl → Option Sl} {body : DS} (hg : SG cl ws g tg) (hb : SS cl xf W ws t body) (j1 : Jt false cl A L B H [] [] δ σ) (hit : ItOk cl L B J its A H) (k0 : PostS cl xf W ws (loop tg body its δ) A L B H σ E) :
    ∃ Wf : Nat → Nat → L2.St → Hp → Prop, (∃ m, Wf 0 m σ H) ∧ ∀ i m σ H, Wf i m σ H → (J.stop i H ∧ E.nx σ H) ∨ (J.go i H ∧ ∃ N : L2.St → Hp → Prop, (∀ σ' H', N σ' H' → ∃ m', m' < m ∧ Wf (i + 1) m' σ' H') ∧ ∀ x H', J.yld i H x H' → g x σ H' fun σ2 H2 => t { E with nx := N, ct := N, bk := E.nx } σ2 H2) := by
  refine ⟨fun i m σi Hi => ∃ Ai δi, m = its.length - i ∧ i ≤ its.length ∧ ItOk cl L B J its Ai Hi ∧ Jt false cl Ai L B Hi [] [] δi σi ∧ PostS cl xf W ws (loop tg body (its.drop i) δi) Ai L B Hi σi E, ⟨its.length, A, δ, by simp, Nat.zero_le _, hit, j1, by rw [List.drop_zero]; exact k0⟩, ?_⟩
  rintro i m σi Hi ⟨Ai, δi, rfl, hi', hit', ji, ki⟩
  have tf := hit' Ai Hi (Nx.refl ji.ba)
  by_cases hlt : i < its.length
  · refine .inr ⟨tf.1 i hlt, fun σ2 H2 => ∃ A2 δ2, ItOk cl L B J its A2 H2 ∧ Jt false cl A2 L B H2 [] [] δ2 σ2 ∧ PostS cl xf W ws (loop tg body (its.drop (i + 1)) δ2) A2 L B H2 σ2 E, fun σ2 H2 ⟨A2, δ2, h1, h2, h3⟩ => ⟨its.length - (i + 1), by omega, A2, δ2, rfl, hlt, h1, h2, h3⟩, fun x H2 hy => ?_⟩
    have ed : its.drop i = its[i] :: its.drop (i + 1) := List.drop_eq_getElem_cons hlt
    rw [ed] at ki
    unfold loop at ki
    obtain ⟨A2, n2, j2⟩ := tf.2.2 i x H2 its[i] (List.getElem?_eq_getElem hlt) hy false B δi σi (fun _ h => h) ji
    split at ki
    · exact ki.elim
    · rename_i δ2 e2
      refine hg false A2 L B H2 δi δ2 σi its[i] x _ j2 e2 fun σ2 kp2 j3 => ?_
      refine hb A2 L B H2 δ2 σ2 _ j3 ?_
      have ki2 := PostS.step ki n2 kp2
      cases e3 : body δ2 with
      | bad => rw [e3] at ki2; exact ki2
      | exc c xs s => rw [e3] at ki2; exact ki2
      | ok f s =>
        rw [e3] at ki2
        simp only [Out.bind] at ki2
        cases f with
        | nx => exact fun A3 H3 σ3 n3 kp3 j4 => ⟨A3, s, (hit'.step n2).step n3, j4, PostS.step ki2 n3 kp3⟩
        | ct => exact fun A3 H3 σ3 n3 kp3 j4 => ⟨A3, s, (hit'.step n2).step n3, j4, PostS.step ki2 n3 kp3⟩
        | bk => exact ki2
        | rt d => exact ki2
  · have ed : its.drop i = [] := List.drop_eq_nil_of_le (by omega)
    rw [ed] at ki
    exact .inl ⟨tf.2.1 i (by omega), ki Ai Hi σi (Nx.refl ji.ba) (Kp.refl σi) ji⟩
theorem ss_forE {i : Nat} {g : TG} {tg : D → Sl → Option Sl} {body : DS} (hg : SG cl (less ws (some i)) g tg) (hb : SS cl xf W (less ws (some i)) t body) : SS cl xf W ws (tFor (iAny cl.K (tVar i)) g t) (dsForE i (itA true) tg body) := fun A L B H δ σ E j k => by
  unfold dsForE at k
  split at k
  · rename_i d e1
    split at k
    · rename_i hf
      split at k
      · rename_i its e2
        obtain ⟨v, hv, j1⟩ := j.take e1 hf
        obtain ⟨f, q1, q2, q3, j2⟩ := j1.hide
        have q1' := q1
        simp only [Rps] at q1'
        obtain ⟨v0, vs0, f1, f2, e3, rfl, r1, rfl, rfl⟩ := q1'
        cases e3
        have kp : ∀ {σ'}, Kp (less ws (some i)) σ σ' → Kp ws σ σ' ∧ σ'[i]? = some (some v) := fun k1 => ⟨k1.weak fun m hm => by simp [less, hm], by rw [k1.2 i (by simp [less])]; exact hv⟩
        have nw : ∀ {A' H'}, Nx A (fun a => B a ∨ a ∈ f1 ++ []) H A' H' → Nx A B H A' H' := fun n => n.weak fun a h => .inl h
        have kk : PostS cl xf W (less ws (some i)) (loop tg body its (δ.set i none)) A L (fun a => B a ∨ a ∈ f1 ++ []) H σ E := by
          cases e4 : loop tg body its (δ.set i none) with
          | bad => rw [e4] at k; exact k
          | exc c xs s =>
            rw [e4] at k
            simp only [backE] at k
            split at k
            · rename_i hs
              exact fun d' vs A2 H2 σ2 n2 k2 x2 j3 => k d' vs A2 H2 σ2 (nw n2) (kp k2).1 x2 ((j1.back q1 q2 q3 j1.lb n2 j3).putMore (gapE_ok hs) (kp k2).2)
            · exact k.elim
          | ok fl s =>
            rw [e4] at k
            simp only [backE] at k
            split at k
            · rename_i hs
              cases fl with
              | nx => exact fun A2 H2 σ2 n2 k2 j3 => k A2 H2 σ2 (nw n2) (kp k2).1 ((j1.back q1 q2 q3 j1.lb n2 j3).putMore (gapE_ok hs) (kp k2).2)
              | bk => exact fun A2 H2 σ2 n2 k2 j3 => k A2 H2 σ2 (nw n2) (kp k2).1 ((j1.back q1 q2 q3 j1.lb n2 j3).putMore (gapE_ok hs) (kp k2).2)
              | ct => exact fun A2 H2 σ2 n2 k2 j3 => k A2 H2 σ2 (nw n2) (kp k2).1 ((j1.back q1 q2 q3 j1.lb n2 j3).putMore (gapE_ok hs) (kp k2).2)
              | rt d' => exact fun w A2 H2 σ2 n2 k2 j3 => k w A2 H2 σ2 (nw n2) (kp k2).1 ((j1.back q1 q2 q3 j1.lb n2 j3).putMore (gapE_ok hs) (kp k2).2)
            · exact k.elim
        refine ⟨v, hv, ?_⟩
        exact itA_run (p := true) (R := fun J H1 => ∃ Wf : Nat → Nat → L2.St → Hp → Prop, (∃ m, Wf 0 m σ H1) ∧ ∀ i m σ H, Wf i m σ H → (J.stop i H ∧ E.nx σ H) ∨ (J.go i H ∧ ∃ N : L2.St → Hp → Prop, (∀ σ' H', N σ' H' → ∃ m', m' < m ∧ Wf (i + 1) m' σ' H') ∧ ∀ x H', J.yld i H x H' → g x σ H' fun σ2 H2 => t { E with nx := N, ct := N, bk := E.nx } σ2 H2)) (B := fun a => B a ∨ a ∈ f1 ++ []) j2.lb r1.weak j2.ba (fun _ _ _ a ha => .inr (by simpa using ha)) e2 fun J hJ => for_core hg hb j2 hJ kk
      · exact k.elim
    · exact k.elim
  · exact k.elim
variable {X : Cx} {tg : Expr} {pos pos' : Pos} {body : List Stmt}
/-- for .. in x, x's list owned -/
theorem s_forE (i : Nat) {x : Str} {d : DS} {gt : D → Sl → Option Sl} (hK : X.K = cl.K) (hg : Rg cl X (less ws (some i)) tg gt) (hb : Rb cl xf X W (less ws (some i)) body d) (hp : PassesOwn (model X.prog X.w) X.A X.env X.xe)
    (hN : X.N[i]? = some x := by rfl) (hv : Vis X.env.scope x := by first | exact Or.inl rfl | exact Or.inr (Or.inl rfl) | exact Or.inr (Or.inr rfl)) (hd : (x == ("__debug__" : Str)) = false := by decide) (hcd : (x == ("__classdict__" : Str)) = false := by decide) (hc : X.calm = true := by rfl) (hs : ∀ y, foldedSetIterable (.Name x pos) X.env y = pure y := by intro _; rfl) : Rs cl xf X W ws (.For tg (.Name x pos) body [] pos') (dsForE i (itA true) gt d) := by
  obtain ⟨g, q3, q4⟩ := hg
  obtain ⟨tb, q5, q6⟩ := hb
  exact ⟨_, ps_for hp hc (pi_any (pe_var hN hv hd hcd)) q3 q5 hs, by rw [hK]; exact ss_forE q4 q6⟩
end
end Fs
/-! D_k15 -/
namespace Lw
open PySem PySem.Spec PyProof.Rows L2 Fs
/-- stretches -/
def d_stretches_stretches : DS := (dsSeq (dsAsg (dN (f1 sortSetD) [.v (dComp true [2] (diD (itA true) (dCall F_pieces_Pieces_told (daLend (pRc 20 "told" (pVar 0)) daNil))) (tgN 2) dtYes (dP (pOp ixD (pVar 2) (pC (.int 1)))))]) (tgN 1)) (dsSeq (dsAsg (dN (f1 sortSetD) [.v (dComp true [2] (diD (itA true) (dCall F_pieces_Pieces_told (daLend (pRc 20 "told" (pVar 0)) daNil))) (tgN 2) dtYes (dP (pOp ixD (pVar 2) (pC (.int 2)))))]) (tgN 3)) (dsSeq (dsAsg (dF mkLst daNil) (tgN 4)) (dsSeq (dsForE 1 (itA true) (tgN 5) (dsForE 3 (itA true) (tgN 6) (dsIf (dtAnd (dtV (dN (f2 geD) [.k (pVar 6), .v (dN (f2 subD) [.k (pVar 5), .k (pC (.int 1))])])) (dtV (dN (f2 neD) [.v (dCall F_stretches_rows_within (daLend (pVar 0) (daCons (dF mkTup (daCons (dP (pVar 5)) (daCons (dP (pVar 6)) daNil))) daNil))), .v (dF mkLst daNil)]))) (dsDrop (dApp 4 (dF mkTup (daCons (dP (pVar 5)) (daCons (dP (pVar 6)) daNil))))) dsNext))) (dsRet (dMv 4))))))
def F_stretches_stretches : List D → Out D := runF 7 [false] d_stretches_stretches
/-- law_due -/
def d_L_law_due : DS := (dsSeq (dsAsg (dF mkLst daNil) (tgN 1)) (dsSeq (dsFor (diD (itA true) (dN (f1 sortSetD) [.v (dComp true [3] (diP (itA true) (pVar 0)) (tgN 3) dtYes (dP (pOp ixD (pVar 3) (pC (.int 1)))))])) (tgN 2) (dsFor (diD (itA true) (dN (f1 sortSetD) [.v (dComp true [3] (diP (itA true) (pVar 0)) (tgN 3) dtYes (dP (pOp ixD (pVar 3) (pC (.int 2)))))])) (tgN 4) (dsIf (dtAnd (dtV (dN (f2 geD) [.k (pVar 4), .v (dN (f2 subD) [.k (pVar 2), .k (pC (.int 1))])])) (dtV (dN (f2 neD) [.v (dCall F_L_law_within (daLend (pVar 0) (daCons (dF mkTup (daCons (dP (pVar 2)) (daCons (dP (pVar 4)) daNil))) daNil))), .v (dF mkLst daNil)]))) (dsDrop (dApp 1 (dF mkTup (daCons (dP (pVar 2)) (daCons (dP (pVar 4)) daNil))))) dsNext))) (dsRet (dMv 1))))
def F_L_law_due : List D → Out D := runF 5 [false] d_L_law_due
/-- within -/
def d_stretches_within : DS := (dsRet (dComp true [2] (diD (itA true) (dCall F_stretches_rows_within (daLend (pVar 0) (daLend (pVar 1) daNil)))) (tgN 2) dtYes (dP (pOp ixD (pVar 2) (pC (.int 0))))))
def F_stretches_within : List D → Out D := runF 3 [false, false] d_stretches_within
/-- law_beaten -/
def d_L_law_beaten : DS := (dsSeq (dsAsg (dCall F_stretches_within (daLend (pVar 0) (daLend (pVar 2) daNil))) (tgN 4)) (dsSeq (dsIf (dtV (dN (f2 eqD) [.k (pVar 4), .v (dF mkLst daNil)])) (dsRet (dN (f2 eqD) [.v (dCall F_stretches_need (daLend (pVar 0) (daLend (pVar 2) (daLend (pVar 3) daNil)))), .k (pC (.int 0))])) dsNext) (dsSeq (dsAsg (dComp true [6] (diP (itA true) (pVar 1)) (tgN 6) (dtAnd (dtV (dN (f2 leD) [.k (pOp ixD (pVar 2) (pC (.int 0))), .k (pOp ixD (pVar 6) (pC (.int 0)))])) (dtAnd (dtV (dN (f2 leD) [.k (pOp ixD (pVar 6) (pC (.int 1))), .k (pOp ixD (pVar 2) (pC (.int 1)))])) (dtV (dN (f2 eqD) [.v (dCall F_stretches_within (daLend (pVar 0) (daLend (pVar 6) daNil))), .k (pVar 4)])))) (dP (pVar 6))) (tgN 5)) (dsSeq (dsIf (dtV (dN (f2 eqD) [.k (pVar 5), .v (dF mkLst daNil)])) (dsRet (dP (pC (.bl false)))) dsNext) (dsRet (dN (f2 geD) [.v (dN (f1 maxLD) [.v (dComp true [6] (diP (itA true) (pVar 1)) (tgN 6) dtYes (dCall F_stretches_short (daLend (pVar 0) (daLend (pVar 6) (daLend (pVar 3) daNil)))))]), .v (dCall F_stretches_short (daLend (pVar 0) (daLend (pVar 2) (daLend (pVar 3) daNil))))]))))))
def F_L_law_beaten : List D → Out D := runF 7 [false, false, false, false] d_L_law_beaten
/-- law -/
def d_law_k15 : DS := (dsSeq (dsFor (diD itR (dN (f2 maxD) [.k (pC (.int 3)), .v (dN (f2 minD) [.v (dN (f1 lenD) [.k (pVar 0)]), .k (pC (.int 8))])])) (tgN 1) (dsSeq (dsAsg (dCall F_L_law_box (daCons (dCall F_L_law_cell (daLend (pVar 0) (daLend (pVar 1) daNil))) daNil)) (tgN 2)) (dsSeq (dsAsg (dNI (f1 intD) [.v (dNI (f2 eqD) [.v (dCallIO F_L_law_take [.o 2, .v (dP (pC (.int 8)))]), .v (dP (pC (.int 0)))])]) (tgN 3)) (dsSeq (dsAsg (dCallIO F_L_law_rows [.o 2, .v (dN (f2 ixK) [.v (dF mkLst (daCons (dP (pC (.int 6))) (daCons (dP (pC (.int 30))) daNil))), .k (pVar 3)])]) (tgN 4)) (dsSeq (dsAsg (dCall (mkF 20 F_pieces_Pieces___init__) (daLend (pVar 4) daNil)) (tgN 5)) (dsSeq (dsAsg (dCall F_stretches_stretches (daLend (pVar 5) daNil)) (tgN 6)) (dsSeq (dsIf (dtOr (dtNot (dtV (dN (f1 (isiD "list")) [.k (pVar 6)]))) (dtV (dN (f2 neD) [.k (pVar 6), .v (dCall F_L_law_due (daLend (pVar 4) daNil))]))) (dsRet (dP (pC (.bl false)))) dsNext) (dsSeq (dsForE 6 (itA true) (tgN 7) (dsIf (dtOr (dtNot (dtV (dN (f1 (isiD "tuple")) [.k (pVar 7)]))) (dtV (dN (f2 eqD) [.v (dCall F_stretches_within (daLend (pVar 5) (daLend (pVar 7) daNil))), .v (dF mkLst daNil)]))) (dsRet (dP (pC (.bl false)))) dsNext)) (dsSeq (dsFor (diD itR (dN (f2 ixK) [.v (dF mkLst (daCons (dP (pC (.int 6))) (daCons (dP (pC (.int 1))) daNil))), .k (pVar 3)])) (tgN 8) (dsSeq (dsAsg (dNI (f2 ixK) [.v (dF mkLst (daCons (dP (pC (.int 0))) (daCons (dP (pC (.int 1))) (daCons (dCallIO F_L_law_take [.o 2, .v (dP (pC (.int 5)))]) (daCons (dP (pC (.int 300))) daNil))))), .v (dCallIO F_L_law_take [.o 2, .v (dP (pC (.int 4)))])]) (tgN 9)) (dsIf (dtNot (dtV (dCallIO F_L_law_beaten [.l 5, .l 6, .v (dCallIO F_L_law_stretch [.o 2, .l 4]), .l 9]))) (dsRet (dP (pC (.bl false)))) dsNext))) (dsSeq (dsDrop (dApp 6 (dF mkTup (daCons (dP (pC (.int 0))) (daCons (dP (pC (.int 0))) daNil))))) (dsIf (dtV (dN (f2 neD) [.v (dCall F_stretches_stretches (daLend (pVar 5) daNil)), .v (dN slD [.k (pVar 6), .k (pC .non), .v (d1 intP (dN (f1 negD) [.k (pC (.int 1))]))])])) (dsRet (dP (pC (.bl false)))) dsNext))))))))))) (dsRet (dP (pC (.bl true)))))
def F_law_k15 : List D → Out D := runF 10 [false] d_law_k15
end Lw
/-! D_k27 -/
namespace Lw
open PySem PySem.Spec PyProof.Rows L2 Fs
/-- law_within -/
def d_L_law_within_2 : DS := (dsRet (dComp true [3] (diP (itA true) (pVar 0)) (tgN 3) (dtAnd (dtV (dN (f2 geD) [.k (pOp ixD (pVar 3) (pC (.int 1))), .k (pVar 1)])) (dtV (dN (f2 leD) [.k (pOp ixD (pVar 3) (pC (.int 2))), .k (pVar 2)]))) (dP (pVar 3))))
def F_L_law_within_2 : List D → Out D := runF 4 [false, false, false] d_L_law_within_2
/-- law_stretches -/
def d_L_law_stretches : DS := (dsSeq (dsAsg (dN (f1 sortSetD) [.v (dComp true [2] (diP (itA true) (pVar 0)) (tgN 2) dtYes (dP (pOp ixD (pVar 2) (pC (.int 1)))))]) (tgN 1)) (dsSeq (dsAsg (dN (f1 sortSetD) [.v (dComp true [2] (diP (itA true) (pVar 0)) (tgN 2) dtYes (dP (pOp ixD (pVar 2) (pC (.int 2)))))]) (tgN 3)) (dsSeq (dsAsg (dF mkLst daNil) (tgN 4)) (dsSeq (dsForE 1 (itA true) (tgN 5) (dsDrop (dMut (plV 4) "list" mExtend (daCons (dComp true [6] (diP (itA true) (pVar 3)) (tgN 6) (dtV (dN (f2 neD) [.v (dCall F_L_law_within_2 (daLend (pVar 0) (daLend (pVar 5) (daLend (pVar 6) daNil)))), .v (dF mkLst daNil)])) (dF mkTup (daCons (dP (pVar 5)) (daCons (dP (pVar 6)) daNil)))) daNil)))) (dsRet (dMv 4))))))
def F_L_law_stretches : List D → Out D := runF 7 [false] d_L_law_stretches
/-- law_need -/
def d_L_law_need_2 : DS := (dsSeq (dsAsg (dCall F_L_law_within_2 (daLend (pVar 0) (daLend (pVar 1) (daLend (pVar 2) daNil)))) (tgN 4)) (dsRet (dN (f2 addA) [.v (dN (f1 sumD) [.v (dComp true [5] (diP (itA true) (pVar 4)) (tgN 5) dtYes (dP (pOp ixD (pVar 5) (pC (.int 4)))))]), .v (dN (f2 mulA) [.k (pVar 3), .v (dN (f1 maxLD) [.v (dN (f2 addA) [.v (dF mkLst (daCons (dP (pC (.int 0))) daNil)), .v (dComp true [5] (diP (itA true) (pVar 4)) (tgN 5) dtYes (dP (pOp ixD (pVar 5) (pC (.int 3)))))])])])])))
def F_L_law_need_2 : List D → Out D := runF 6 [false, false, false, false] d_L_law_need_2
/-- law_table -/
def d_L_law_table : DS := (dsSeq (dsAsg (dF mkLst daNil) (tgN 2)) (dsSeq (dsFor (diD (itA true) (dCall F_L_law_stretches (daLend (pVar 0) daNil))) (tgT [tgN 3, tgN 4]) (dsDrop (dApp 2 (dF mkTup (daCons (dP (pVar 3)) (daCons (dP (pVar 4)) (daCons (dCall F_L_law_need_2 (daLend (pVar 0) (daLend (pVar 3) (daLend (pVar 4) (daLend (pVar 1) daNil))))) (daCons (dN (f2 addA) [.v (dN (f2 subD) [.k (pVar 4), .k (pVar 3)]), .k (pC (.int 1))]) daNil)))))))) (dsRet (dMv 2))))
def F_L_law_table : List D → Out D := runF 5 [false, false] d_L_law_table
/-- law_short -/
def d_L_law_short : DS := (dsRet (dComp true [2] (diD (itA true) (dCall F_L_law_table (daLend (pVar 0) (daLend (pVar 1) daNil)))) (tgN 2) (dtV (dN (f2 gtD) [.k (pOp ixD (pVar 2) (pC (.int 2))), .k (pOp ixD (pVar 2) (pC (.int 3)))])) (dN slD [.k (pVar 2), .k (pC .non), .k (pUn intP (pC (.int 2)))])))
def F_L_law_short : List D → Out D := runF 3 [false, false] d_L_law_short
/-- table -/
def d_weighing_table : DS := (dsSeq (dsDrop (dCall F_stretches_need_failings (daLend (pVar 1) daNil))) (dsSeq (dsAsg (dF mkLst daNil) (tgN 2)) (dsSeq (dsFor (diD (itA true) (dCall F_stretches_stretches (daLend (pVar 0) daNil))) (tgT [tgN 3, tgN 4]) (dsDrop (dApp 2 (dF mkTup (daCons (dP (pVar 3)) (daCons (dP (pVar 4)) (daCons (dCall F_stretches_need (daLend (pVar 0) (daCons (dF mkTup (daCons (dP (pVar 3)) (daCons (dP (pVar 4)) daNil))) (daLend (pVar 1) daNil)))) (daCons (dCall F_stretches_room (daCons (dF mkTup (daCons (dP (pVar 3)) (daCons (dP (pVar 4)) daNil))) daNil)) daNil)))))))) (dsRet (dMv 2)))))
def F_weighing_table : List D → Out D := runF 5 [false, false] d_weighing_table
/-- too_short -/
def d_weighing_too_short : DS := (dsSeq (dsFor (diD (itA true) (dCall F_weighing_table (daLend (pVar 0) (daLend (pVar 1) daNil)))) (tgT [tgN 2, tgN 3, tgN 4, tgN 5]) (dsIf (dtV (dN (f2 gtD) [.k (pVar 4), .k (pVar 5)])) (dsRet (dF mkTup (daCons (dP (pVar 2)) (daCons (dP (pVar 3)) daNil)))) dsNext)) (dsRet (dP (pC .non))))
def F_weighing_too_short : List D → Out D := runF 6 [false, false] d_weighing_too_short
/-- is_kept -/
def d_weighing_is_kept : DS := (dsRet (dN (f1 isND) [.v (dCall F_weighing_too_short (daLend (pVar 0) (daLend (pVar 1) daNil)))]))
def F_weighing_is_kept : List D → Out D := runF 2 [false, false] d_weighing_is_kept
/-- law_asked -/
def d_L_law_asked : DS := (dsSeq (dsAsg (dCall F_L_law_short (daLend (pVar 1) (daLend (pVar 2) daNil))) (tgN 3)) (dsSeq (dsAsg (dCall F_weighing_is_kept (daLend (pVar 0) (daLend (pVar 2) daNil))) (tgN 4)) (dsSeq (dsIf (dtOr (dtNot (dtV (dN (f1 (isiD "bool")) [.k (pVar 4)]))) (dtV (dN (f2 neD) [.k (pVar 4), .v (dN (f2 eqD) [.k (pVar 3), .v (dF mkLst daNil)])]))) (dsRet (dP (pC .non))) dsNext) (dsSeq (dsIf (dtV (dN (f2 neD) [.v (dCall F_weighing_too_short (daLend (pVar 0) (daLend (pVar 2) daNil))), .v (dN (f2 ixK) [.v (dN (f2 addA) [.k (pVar 3), .v (dF mkLst (daCons (dP (pC .non)) daNil))]), .k (pC (.int 0))])])) (dsRet (dP (pC .non))) dsNext) (dsRet (dMv 4))))))
def F_L_law_asked : List D → Out D := runF 5 [false, false, false] d_L_law_asked
/-- law_size -/
def d_L_law_size : DS := (dsRet (dNI (f2 ixK) [.v (dF mkLst (daCons (dP (pC (.int 6))) (daCons (dP (pC (.int 6))) (daCons (dP (pC (.int 6))) (daCons (dP (pC (.int 6))) (daCons (dP (pC (.int 6))) (daCons (dP (pC (.int 6))) (daCons (dP (pC (.int 8))) (daCons (dP (pC (.int 30))) daNil))))))))), .v (dCallIO F_L_law_take [.o 0, .v (dP (pC (.int 8)))])]))
def F_L_law_size : List D → Out D := runF 1 [true] d_L_law_size
/-- law_any -/
def d_L_law_any : DS := (dsSeq (dsAsg (dCallIO F_L_law_take [.o 0, .v (dP (pC (.int 201)))]) (tgN 3)) (dsSeq (dsAsg (dNI (f2 addA) [.v (dN (f2 subD) [.k (pVar 3), .k (pC (.int 1))]), .v (dCallIO F_L_law_take [.o 0, .v (dN (f2 subD) [.k (pC (.int 201)), .k (pVar 3)])])]) (tgN 4)) (dsSeq (dsIf (dtV (dN (f2 leD) [.v (dCall F_L_law_need_2 (daLend (pVar 1) (daLend (pVar 3) (daLend (pVar 4) (daLend (pVar 2) daNil))))), .v (dN (f2 addA) [.v (dN (f2 subD) [.k (pVar 4), .k (pVar 3)]), .k (pC (.int 1))])])) (dsRet (dP (pC (.bl true)))) dsNext) (dsRet (dN (f2 neD) [.v (dComp true [5] (diD (itA true) (dCall F_L_law_short (daLend (pVar 1) (daLend (pVar 2) daNil)))) (tgN 5) (dtAnd (dtV (dN (f2 geD) [.k (pOp ixD (pVar 5) (pC (.int 0))), .k (pVar 3)])) (dtV (dN (f2 leD) [.k (pOp ixD (pVar 5) (pC (.int 1))), .k (pVar 4)]))) (dP (pVar 5))), .v (dF mkLst daNil)])))))
def F_L_law_any : List D → Out D := runF 6 [true, false, false] d_L_law_any
/-- law -/
def d_law_k27 : DS := (dsSeq (dsFor (diD itR (dN (f2 maxD) [.k (pC (.int 1)), .v (dN (f2 minD) [.k (pC (.int 5)), .v (dN (f1 lenD) [.k (pVar 0)])])])) (tgN 1) (dsSeq (dsAsg (dCall F_L_law_box (daCons (dCall F_L_law_cell (daLend (pVar 0) (daLend (pVar 1) daNil))) daNil)) (tgN 2)) (dsSeq (dsAsg (dCallIO F_L_law_rows [.o 2, .v (dNI (f2 minD) [.v (dCallIO F_L_law_size [.o 2]), .v (dN (f2 ixK) [.v (dF mkLst (daCons (dP (pC (.int 30))) (daCons (dP (pC (.int 8))) daNil))), .v (dN (f1 intD) [.v (dN (f2 gtD) [.k (pVar 1), .k (pC (.int 0))])])])])]) (tgN 3)) (dsSeq (dsAsg (dCall (mkF 20 F_pieces_Pieces___init__) (daLend (pVar 3) daNil)) (tgN 4)) (dsSeq (dsAsg (dP (pC (.bl true))) (tgN 5)) (dsSeq (dsAsg (dF mkLst (daCons (dP (pC (.int 0))) (daCons (dP (pC (.int 1))) (daCons (dP (pC (.int 2))) (daCons (dNI (f2 addA) [.v (dP (pC (.int 3))), .v (dCallIO F_L_law_take [.o 2, .v (dP (pC (.int 5)))])]) (daCons (dCallIO F_L_law_take [.o 2, .v (dP (pC (.int 301)))]) (daCons (dP (pC (.int 300))) daNil))))))) (tgN 6)) (dsSeq (dsIf (dtV (dN (f2 gtD) [.v (dN (f1 lenD) [.k (pVar 3)]), .k (pC (.int 9))])) (dsAsg (dF mkLst (daCons (dNI (f2 ixK) [.l 6, .v (dCallIO F_L_law_take [.o 2, .v (dP (pC (.int 6)))])]) daNil)) (tgN 6)) dsNext) (dsFor (diD (itA true) (dN (f1 sortD) [.k (pVar 6)])) (tgN 7) (dsSeq (dsAsg (dCall F_L_law_asked (daLend (pVar 4) (daLend (pVar 3) (daLend (pVar 7) daNil)))) (tgN 8)) (dsSeq (dsIf (dtOr (dtV (dN (f1 isND) [.k (pVar 8)])) (dtNot (dtV (dCallIO F_L_law_any [.o 2, .l 3, .l 7])))) (dsRet (dP (pC (.bl false)))) dsNext) (dsSeq (dsIf (dtAnd (dtV (dP (pVar 8))) (dtNot (dtV (dP (pVar 5))))) (dsRet (dP (pC (.bl false)))) dsNext) (dsAsg (dP (pVar 8)) (tgN 5))))))))))))) (dsRet (dP (pC (.bl true)))))
def F_law_k27 : List D → Out D := runF 9 [false] d_law_k27
end Lw
/-! D_k36 -/
namespace Lw
open PySem PySem.Spec PyProof.Rows L2 Fs
/-- Pieces.names -/
def d_pieces_Pieces_names : DS := (dsRet (dN (f1 listD) [.k (pUn (fldD 20 "fives") (pVar 0))]))
def F_pieces_Pieces_names : List D → Out D := runF 1 [false] d_pieces_Pieces_names
/-- quotient -/
def d_bearing_quotient : DS := (dsRet (dN (f2 maxD) [.v (dN (f1 negD) [.k (pC (.int 1))]), .v (dN (f2 divD) [.v (dN (f2 subD) [.v (dCall F_stretches_room (daLend (pVar 1) daNil)), .v (dCall F_stretches_lefts (daLend (pVar 0) (daLend (pVar 1) daNil)))]), .k (pVar 2)])]))
def F_bearing_quotient : List D → Out D := runF 3 [false, false, false] d_bearing_quotient
/-- length_of -/
def d_bearing_length_of : DS := (dsRet (dN (f2 ixK) [.v (dCall F_pieces_Pieces_row (daLend (pRc 20 "row" (pVar 0)) (daLend (pVar 1) daNil))), .k (pC (.int 3))]))
def F_bearing_length_of : List D → Out D := runF 2 [false, false] d_bearing_length_of
/-- longest -/
def d_stretches_longest : DS := (dsSeq (dsAsg (dCall F_stretches_greatest_length (daLend (pVar 0) (daLend (pVar 1) daNil))) (tgN 2)) (dsSeq (dsFor (diD (itA true) (dCall F_stretches_rows_within (daLend (pVar 0) (daLend (pVar 1) daNil)))) (tgN 3) (dsIf (dtV (dN (f2 eqD) [.k (pOp ixD (pVar 3) (pC (.int 3))), .k (pVar 2)])) (dsRet (dP (pOp ixD (pVar 3) (pC (.int 0))))) dsNext)) (dsRet (dP (pC .non)))))
def F_stretches_longest : List D → Out D := runF 4 [false, false] d_stretches_longest
/-- borne -/
def d_bearing_borne : DS := (dsSeq (dsIf (dtV (dN (f2 eqD) [.v (dCall F_pieces_Pieces_names (daLend (pRc 20 "names" (pVar 0)) daNil)), .v (dF mkLst daNil)])) (dsRet (dP (pC .non))) dsNext) (dsRet (dN (f1 minLD) [.v (dComp true [1] (diD (itA true) (dCall F_stretches_stretches (daLend (pVar 0) daNil))) (tgN 1) dtYes (dCall F_bearing_quotient (daLend (pVar 0) (daLend (pVar 1) (daCons (dCall F_bearing_length_of (daLend (pVar 0) (daCons (dCall F_stretches_longest (daLend (pVar 0) (daLend (pVar 1) daNil))) daNil))) daNil)))))])))
def F_bearing_borne : List D → Out D := runF 2 [false] d_bearing_borne
/-- law_borne -/
def d_L_law_borne : DS := (dsSeq (dsIf (dtV (dN (f2 eqD) [.k (pVar 0), .v (dF mkLst daNil)])) (dsRet (dP (pC .non))) dsNext) (dsSeq (dsAsg (dF mkLst daNil) (tgN 1)) (dsSeq (dsFor (diD (itA true) (dCall F_L_law_stretches (daLend (pVar 0) daNil))) (tgT [tgN 2, tgN 3]) (dsSeq (dsAsg (dCall F_L_law_within_2 (daLend (pVar 0) (daLend (pVar 2) (daLend (pVar 3) daNil)))) (tgN 4)) (dsSeq (dsAsg (dN (f2 subD) [.v (dN (f2 addA) [.v (dN (f2 subD) [.k (pVar 3), .k (pVar 2)]), .k (pC (.int 1))]), .v (dN (f1 sumD) [.v (dComp true [6] (diP (itA true) (pVar 4)) (tgN 6) dtYes (dP (pOp ixD (pVar 6) (pC (.int 4)))))])]) (tgN 5)) (dsDrop (dApp 1 (dN (f2 maxD) [.v (dN (f1 negD) [.k (pC (.int 1))]), .v (dN (f2 divD) [.k (pVar 5), .v (dN (f1 maxLD) [.v (dComp true [6] (diP (itA true) (pVar 4)) (tgN 6) dtYes (dP (pOp ixD (pVar 6) (pC (.int 3)))))])])])))))) (dsRet (dN (f1 minLD) [.k (pVar 1)])))))
def F_L_law_borne : List D → Out D := runF 7 [false] d_L_law_borne
/-- law_is_kept -/
def d_L_law_is_kept : DS := (dsRet (dN (f2 eqD) [.v (dComp true [2] (diD (itA true) (dCall F_L_law_table (daLend (pVar 0) (daLend (pVar 1) daNil)))) (tgN 2) (dtV (dN (f2 gtD) [.k (pOp ixD (pVar 2) (pC (.int 2))), .k (pOp ixD (pVar 2) (pC (.int 3)))])) (dP (pVar 2))), .v (dF mkLst daNil)]))
def F_L_law_is_kept : List D → Out D := runF 3 [false, false] d_L_law_is_kept
/-- law_whole -/
def d_L_law_whole_2 : DS := (dsRet (dAnd (dN (f1 (isiD "int")) [.k (pVar 0)]) (d1S notD (dN (f1 (isiD "bool")) [.k (pVar 0)]))))
def F_L_law_whole_2 : List D → Out D := runF 1 [false] d_L_law_whole_2
/-- law_right -/
def d_L_law_right : DS := (dsSeq (dsAsg (dCall (mkF 20 F_pieces_Pieces___init__) (daLend (pVar 0) daNil)) (tgN 1)) (dsSeq (dsAsg (dCall F_bearing_borne (daLend (pVar 1) daNil)) (tgN 2)) (dsSeq (dsAsg (dCall F_L_law_borne (daLend (pVar 0) daNil)) (tgN 3)) (dsSeq (dsIf (dtV (dN (f2 eqD) [.k (pVar 0), .v (dF mkLst daNil)])) (dsRet (dN (f1 isND) [.k (pVar 2)])) dsNext) (dsSeq (dsIf (dtOr (dtNot (dtV (dCall F_L_law_whole_2 (daLend (pVar 2) daNil)))) (dtOr (dtV (dN (f2 neD) [.k (pVar 2), .k (pVar 3)])) (dtV (dCall F_L_law_is_kept (daLend (pVar 0) (daCons (dN (f2 addA) [.k (pVar 2), .k (pC (.int 1))]) daNil)))))) (dsRet (dP (pC (.bl false)))) dsNext) (dsSeq (dsIf (dtAnd (dtV (dN (f2 geD) [.k (pVar 2), .k (pC (.int 0))])) (dtNot (dtV (dCall F_L_law_is_kept (daLend (pVar 0) (daLend (pVar 2) daNil)))))) (dsRet (dP (pC (.bl false)))) dsNext) (dsRet (dAnd (dN (f2 eqD) [.v (dCall F_bearing_borne (daLend (pVar 1) daNil)), .k (pVar 2)]) (dN (f2 eqD) [.v (dCall F_pieces_Pieces_told (daLend (pRc 20 "told" (pVar 1)) daNil)), .v (dN (f1 tupD) [.k (pVar 0)])])))))))))
def F_L_law_right : List D → Out D := runF 4 [false] d_L_law_right
/-- law -/
def d_law_k36 : DS := (dsSeq (dsFor (diD itR (dN (f2 maxD) [.k (pC (.int 1)), .v (dN (f2 minD) [.k (pC (.int 6)), .v (dN (f1 lenD) [.k (pVar 0)])])])) (tgN 1) (dsSeq (dsAsg (dCall F_L_law_box (daCons (dCall F_L_law_cell (daLend (pVar 0) (daLend (pVar 1) daNil))) daNil)) (tgN 2)) (dsSeq (dsAsg (dCallIO F_L_law_rows [.o 2, .v (dNI (f2 minD) [.v (dCallIO F_L_law_size [.o 2]), .v (dN (f2 ixK) [.v (dF mkLst (daCons (dP (pC (.int 30))) (daCons (dP (pC (.int 8))) daNil))), .v (dN (f1 intD) [.v (dN (f2 gtD) [.k (pVar 1), .k (pC (.int 0))])])])])]) (tgN 3)) (dsSeq (dsIf (dtNot (dtV (dCall F_L_law_right (daLend (pVar 3) daNil)))) (dsRet (dP (pC (.bl false)))) dsNext) (dsSeq (dsAsg (dNI (f2 addA) [.v (dP (pC (.int 1))), .v (dCallIO F_L_law_take [.o 2, .v (dP (pC (.int 12)))])]) (tgN 4)) (dsSeq (dsAsg (dF mkTup (daCons (dP (pC (.str "nobody9"))) (daCons (dP (pC (.int 0))) (daCons (dP (pC (.int 199))) (daCons (dP (pVar 4)) (daCons (dP (pC (.int 0))) daNil)))))) (tgN 5)) (dsSeq (dsIf (dtOr (dtNot (dtV (dCall F_L_law_right (daCons (dF mkLst (daCons (dP (pVar 5)) daNil)) daNil)))) (dtV (dN (f2 neD) [.v (dCall F_bearing_borne (daCons (dCall (mkF 20 F_pieces_Pieces___init__) (daCons (dF mkLst (daCons (dP (pVar 5)) daNil)) daNil)) daNil)), .v (dN (f2 divD) [.k (pC (.int 200)), .k (pVar 4)])]))) (dsRet (dP (pC (.bl false)))) dsNext) (dsIf (dtAnd (dtV (dN (f2 ltD) [.v (dN (f1 lenD) [.k (pVar 3)]), .k (pC (.int 30))])) (dtNot (dtV (dCall F_L_law_right (daCons (dN (f2 addA) [.k (pVar 3), .v (dF mkLst (daCons (dP (pVar 5)) daNil))]) daNil))))) (dsRet (dP (pC (.bl false)))) dsNext)))))))) (dsRet (dP (pC (.bl true)))))
def F_law_k36 : List D → Out D := runF 6 [false] d_law_k36
end Lw
/-! F42 -/
/-! x[::k] of a list: the text. -/
namespace Fs
open PySem PySem.Spec PyProof.Rows L2
theorem sliceRange_down (n : Nat) : sliceRange ((n : Int) - 1) (-1) (-1) = (List.range n).reverse := by
  unfold sliceRange
  have h : (if (-1 : Int) > 0 then (if (n : Int) - 1 < -1 then (-1 - ((n : Int) - 1) + -1 - 1) / -1 else 0) else (if (n : Int) - 1 > -1 then ((n : Int) - 1 - -1 - -1 - 1) / (- -1) else 0)).toNat = n := by
    rw [if_neg (by decide)]
    split
    · have e : (- -1 : Int) = 1 := by decide
      rw [e, Int.ediv_one]; omega
    · omega
  simp only [h]
  refine List.ext_getElem (by simp) fun i h1 h2 => ?_
  simp only [List.length_map, List.length_range] at h1
  simp only [List.getElem_map, List.getElem_range, List.getElem_reverse, List.length_range]
  omega
theorem pick_all (its : List Value) : (List.range its.length).filterMap (its.toArray[·]?) = its := by
  have h := pick_run its.toArray 0 its.length
  simp only [List.drop_zero, List.take_length] at h
  have e : (List.range its.length).map (0 + ·) = List.range its.length := by simp
  rw [e] at h
  exact h
theorem slicePick_down (its : List Value) : slicePick its.toArray none none (some (-1)) = its.reverse.toArray := by
  unfold slicePick
  have e1 : sliceBounds none none (some (-1)) its.toArray.size = (((its.length : Nat) : Int) - 1, -1, -1) := by simp [sliceBounds]
  rw [e1]
  simp only
  rw [sliceRange_down, List.filterMap_reverse, pick_all]
theorem slicePick_up (its : List Value) : slicePick its.toArray none none (some 1) = its.toArray := by
  have e : slicePick its.toArray none none (some 1) = slicePick its.toArray none none none := rfl
  rw [e, slicePick_cut]
  simp [HT.sIx]
section
variable {cl : Ec} {X : Cx} {e b : Expr} {te tb : TE} {pos p2 : Pos}
theorem pe_rev (he : PE X e te) (hb : PE X b tb) : PE X (.Subscript e (.Slice none none (some b) p2) pos) (tOp (fun x y => rRev3 X.K [x, y]) te tb) := by
  refine ⟨fun pins s σ H Q I h => ?_⟩
  refine Subscript_ (thn (he.run pins s σ H _ I h) fun v s1 ⟨x, H1, I1, r1, q1⟩ => ?_)
  refine wpAny_Slice ?_
  rw [evalPart_none, evalPart_some]
  refine wpAny_pure (wpAny_pure (thn (hb.run pins s1 σ H1 _ I1 q1) fun vs s2 ⟨y, H2, I2, r2, q2⟩ => ?_))
  have I4 : Inv X pins σ H2 { s2 with heap := s2.heap.push { cls := .type "slice", data := .fields #[.none, .none, vs] } } := I2.kept (t' := s2.toks) fun b ob q => Heap.get?_push_of_some _ q
  have hsl : ({ s2 with heap := s2.heap.push { cls := .type "slice", data := .fields #[.none, .none, vs] } } : Shared).heap.IsSliceOf s2.heap.objs.size .none .none vs := Heap.IsSliceOf.new ..
  obtain ⟨a, xs, k, rfl, rfl, hx, hq⟩ := q2
  cases r1
  obtain ⟨t, rfl⟩ := r2
  obtain ⟨its, r, ht, hz⟩ := I4.list hx
  have hlen := r.length
  show wpAny (model X.prog X.w) X.A (subscriptTail e (.Slice none none (some b) p2) (.ref a) (.ref s2.heap.objs.size)) (EP X pins σ Q) X.xe { s2 with heap := s2.heap.push { cls := .type "slice", data := .fields #[.none, .none, .int k t] } }
  refine tail_any (ops := [.ref a, .ref s2.heap.objs.size]) ht.isList.typeIs slot_list_getitem.lookup ?_ (by with_unfolding_all rfl)
  have h0 : some k ≠ some 0 := by rcases hq with ⟨rfl, _⟩ | ⟨rfl, _⟩ <;> decide
  refine wpAny_getItem_list_slice ht.isList hsl .none .none (.int k t) h0 ?_ (by rw [List.size_toArray] <;> omega)
  rcases hq with ⟨rfl, q⟩ | ⟨rfl, q⟩
  · rw [slicePick_up]
    refine ⟨.ref _, _, I4.laid (t' := s2.toks) (o := .lst xs) (fun b ob q => Heap.get?_push_of_some _ q) (Nat.le_refl _) ?_, rfl, q _ (I4.hok.fresh (Nat.le_refl _))⟩
    exact ⟨hz, _, 0, r, Heap.get?_push_size _ rfl⟩
  · rw [slicePick_down]
    refine ⟨.ref _, _, I4.laid (t' := s2.toks) (o := .lst xs.reverse) (fun b ob q => Heap.get?_push_of_some _ q) (Nat.le_refl _) ?_, rfl, q _ (I4.hok.fresh (Nat.le_refl _))⟩
    exact ⟨by rw [List.length_reverse]; exact hz, _, 0, Vals.reverse r, Heap.get?_push_size _ rfl⟩
theorem bn_rev3 (hK : X.K = cl.K) : BN X (.Subscript e (.Slice none none (some b) p2) pos) [e, b] (rRev3 cl.K) := fun tes h => by
  rw [← hK]
  cases h with
  | cons h1 h => cases h with
    | cons h2 h => cases h with
      | nil => exact pe_rev h1 h2
end
end Fs
/-! D_k12 -/
namespace Lw
open PySem PySem.Spec PyProof.Rows L2 Fs
/-- Pieces.with_row -/
def d_pieces_Pieces_with_row : DS := (dsRet (dCall (mkF 20 F_pieces_Pieces___init__) (daCons (dN (f2 addA) [.v (dN (f1 listD) [.v (dCall F_pieces_Pieces_told (daLend (pRc 20 "told" (pVar 0)) daNil))]), .v (dF mkLst (daCons (dP (pVar 1)) daNil))]) daNil)))
def F_pieces_Pieces_with_row : List D → Out D := runF 2 [false, false] d_pieces_Pieces_with_row
/-- Pieces.without -/
def d_pieces_Pieces_without : DS := (dsSeq (dsAsg (dCall F_pieces_Pieces_row (daLend (pRc 20 "row" (pVar 0)) (daLend (pVar 1) daNil))) (tgN 2)) (dsRet (dCall (mkF 20 F_pieces_Pieces___init__) (daCons (dComp true [3] (diD (itA true) (dCall F_pieces_Pieces_told (daLend (pRc 20 "told" (pVar 0)) daNil))) (tgN 3) (dtV (dN (f2 neD) [.k (pVar 3), .k (pVar 2)])) (dP (pVar 3))) daNil))))
def F_pieces_Pieces_without : List D → Out D := runF 4 [false, false] d_pieces_Pieces_without
/-- law_changed -/
def d_L_law_changed : DS := (dsSeq (dsAsg (dF mkLst daNil) (tgN 3)) (dsSeq (dsIf (dtV (dN (f2 ltD) [.v (dN (f1 lenD) [.k (pVar 1)]), .k (pC (.int 30))])) (dsSeq (dsAsg (dF mkTup (daCons (dP (pC (.str "zz99"))) (daCons (dCallIO F_L_law_take [.o 0, .v (dP (pC (.int 100)))]) (daCons (dNI (f2 addA) [.v (dP (pC (.int 100))), .v (dCallIO F_L_law_take [.o 0, .v (dP (pC (.int 100)))])]) (daCons (dNI (f2 addA) [.v (dP (pC (.int 1))), .v (dCallIO F_L_law_take [.o 0, .v (dP (pC (.int 12)))])]) daNil))))) (tgN 4)) (dsDrop (dApp 3 (dF mkTup (daCons (dN (f2 addA) [.k (pVar 1), .v (dF mkLst (daCons (dN (f2 addA) [.k (pVar 4), .v (dN slD [.k (pVar 4), .k (pUn intP (pC (.int 3))), .k (pC .non)])]) daNil))]) (daCons (dCall F_pieces_Pieces_with_row (daLend (pRc 20 "with_row" (pVar 2)) (daLend (pVar 4) daNil))) daNil)))))) dsNext) (dsSeq (dsIf (dtV (dN (f2 neD) [.k (pVar 1), .v (dF mkLst daNil)])) (dsSeq (dsAsg (dCallIO F_L_law_take [.o 0, .v (dN (f1 lenD) [.k (pVar 1)])]) (tgN 5)) (dsSeq (dsAsg (dP (pOp ixD (pVar 1) (pVar 5))) (tgT [tgN 6, tgN 7, tgN 8, tgN 9, tgN 10])) (dsSeq (dsDrop (dApp 3 (dF mkTup (daCons (dN (f2 addA) [.v (dN slD [.k (pVar 1), .k (pC .non), .k (pUn intP (pVar 5))]), .v (dN slD [.k (pVar 1), .v (d1 intP (dN (f2 addA) [.k (pVar 5), .k (pC (.int 1))])), .k (pC .non)])]) (daCons (dCall F_pieces_Pieces_without (daLend (pRc 20 "without" (pVar 2)) (daLend (pVar 6) daNil))) daNil))))) (dsSeq (dsAsg (dCallIO F_L_law_take [.o 0, .v (dN (f2 addA) [.k (pVar 9), .k (pC (.int 1))])]) (tgN 10)) (dsSeq (dsDrop (dApp 3 (dF mkTup (daCons (dN (f2 addA) [.v (dN (f2 addA) [.v (dN slD [.k (pVar 1), .k (pC .non), .k (pUn intP (pVar 5))]), .v (dF mkLst (daCons (dF mkTup (daCons (dP (pVar 6)) (daCons (dP (pVar 7)) (daCons (dP (pVar 8)) (daCons (dP (pVar 9)) (daCons (dP (pVar 10)) daNil)))))) daNil))]), .v (dN slD [.k (pVar 1), .v (d1 intP (dN (f2 addA) [.k (pVar 5), .k (pC (.int 1))])), .k (pC .non)])]) (daCons (dCall F_pieces_Pieces_with_left (daLend (pRc 20 "with_left" (pVar 2)) (daLend (pVar 6) (daLend (pVar 10) daNil)))) daNil))))) (dsSeq (dsAsg (dNI (f2 addA) [.l 8, .v (dCallIO F_L_law_take [.o 0, .v (dN (f2 subD) [.k (pC (.int 200)), .k (pVar 8)])])]) (tgN 11)) (dsSeq (dsAsg (dF mkTup (daCons (dP (pVar 6)) (daCons (dP (pVar 7)) (daCons (dP (pVar 11)) (daCons (dP (pVar 9)) (daCons (dP (pOp ixD (pOp ixD (pVar 1) (pVar 5)) (pC (.int 4)))) daNil)))))) (tgN 12)) (dsDrop (dApp 3 (dF mkTup (daCons (dN (f2 addA) [.v (dN (f2 addA) [.v (dN slD [.k (pVar 1), .k (pC .non), .k (pUn intP (pVar 5))]), .v (dF mkLst (daCons (dP (pVar 12)) daNil))]), .v (dN slD [.k (pVar 1), .v (d1 intP (dN (f2 addA) [.k (pVar 5), .k (pC (.int 1))])), .k (pC .non)])]) (daCons (dCall F_pieces_Pieces_with_last (daLend (pRc 20 "with_last" (pVar 2)) (daLend (pVar 6) (daLend (pVar 11) daNil)))) daNil)))))))))))) dsNext) (dsRet (dMv 3)))))
def F_L_law_changed : List D → Out D := runF 13 [true, false, false] d_L_law_changed
/-- law_longest -/
def d_L_law_longest : DS := (dsSeq (dsAsg (dCall F_L_law_within (daLend (pVar 0) (daLend (pVar 1) daNil))) (tgN 2)) (dsSeq (dsAsg (dN (f1 maxLD) [.v (dN (f2 addA) [.v (dComp true [4] (diP (itA true) (pVar 2)) (tgN 4) dtYes (dP (pOp ixD (pVar 4) (pC (.int 3))))), .v (dF mkLst (daCons (dP (pC (.int 0))) daNil))])]) (tgN 3)) (dsRet (dN (f2 ixK) [.v (dN (f2 addA) [.v (dComp true [4] (diP (itA true) (pVar 2)) (tgN 4) (dtV (dN (f2 eqD) [.k (pOp ixD (pVar 4) (pC (.int 3))), .k (pVar 3)])) (dP (pOp ixD (pVar 4) (pC (.int 0))))), .v (dF mkLst (daCons (dP (pC .non)) daNil))]), .k (pC (.int 0))]))))
def F_L_law_longest : List D → Out D := runF 5 [false, false] d_L_law_longest
/-- law_right -/
def d_L_law_right_2 : DS := (dsSeq (dsAsg (dCall F_L_law_within (daLend (pVar 1) (daLend (pVar 2) daNil))) (tgN 4)) (dsSeq (dsIf (dtAnd (dtV (dP (pVar 3))) (dtV (dN (f2 neD) [.v (dCall F_stretches_longest (daLend (pVar 0) (daLend (pVar 2) daNil))), .v (dCall F_L_law_longest (daLend (pVar 1) (daLend (pVar 2) daNil)))]))) (dsRet (dP (pC (.bl false)))) dsNext) (dsSeq (dsAsg (dCall F_stretches_within (daLend (pVar 0) (daLend (pVar 2) daNil))) (tgN 5)) (dsSeq (dsIf (dtOr (dtNot (dtV (dN (f1 (isiD "list")) [.k (pVar 5)]))) (dtV (dN (f2 neD) [.k (pVar 5), .v (dComp true [6] (diP (itA true) (pVar 4)) (tgN 6) dtYes (dP (pOp ixD (pVar 6) (pC (.int 0)))))]))) (dsRet (dP (pC (.bl false)))) dsNext) (dsSeq (dsDrop (dApp 5 (dP (pC (.str "late"))))) (dsSeq (dsAsg (dCall F_stretches_lefts (daLend (pVar 0) (daLend (pVar 2) daNil))) (tgN 7)) (dsSeq (dsIf (dtOr (dtNot (dtV (dN (f1 (isiD "int")) [.k (pVar 7)]))) (dtOr (dtV (dN (f1 (isiD "bool")) [.k (pVar 7)])) (dtV (dN (f2 neD) [.k (pVar 7), .v (dN (f1 sumD) [.v (dComp true [6] (diP (itA true) (pVar 4)) (tgN 6) dtYes (dP (pOp ixD (pVar 6) (pC (.int 4)))))])])))) (dsRet (dP (pC (.bl false)))) dsNext) (dsRet (dAnd (dN (f2 eqD) [.v (dCall F_stretches_longest (daLend (pVar 0) (daLend (pVar 2) daNil))), .v (dCall F_L_law_longest (daLend (pVar 1) (daLend (pVar 2) daNil)))]) (dN (f2 eqD) [.v (dCall F_stretches_within (daLend (pVar 0) (daLend (pVar 2) daNil))), .v (dN slD [.k (pVar 5), .k (pC .non), .v (d1 intP (dN (f1 negD) [.k (pC (.int 1))]))])]))))))))))
def F_L_law_right_2 : List D → Out D := runF 8 [false, false, false, false] d_L_law_right_2
/-- Pieces.since -/
def d_pieces_Pieces_since : DS := (dsSeq (dsIf (dtNot (dtV (dCall F_words_is_within (daLend (pVar 1) (daLend (pC (.int 0)) (daCons (dN (f2 addA) [.k (pC (.int 199)), .k (pC (.int 1))]) daNil)))))) (dsRaise 4 1 (daCons (dP (pVar 1)) daNil)) dsNext) (dsSeq (dsAsg (dF mkLst daNil) (tgN 2)) (dsSeq (dsFor (diD (itA true) (dCall F_pieces_Pieces_told (daLend (pRc 20 "told" (pVar 0)) daNil))) (tgT [tgN 3, tgN 4, tgN 5, tgN 6, tgN 7]) (dsDrop (dApp 2 (dF mkTup (daCons (dP (pVar 3)) (daCons (dN (f2 minD) [.v (dN (f2 maxD) [.k (pVar 4), .k (pVar 1)]), .v (dN (f2 addA) [.k (pVar 5), .k (pC (.int 1))])]) (daCons (dP (pVar 5)) (daCons (dP (pVar 6)) (daCons (dP (pVar 7)) daNil))))))))) (dsRet (dCall (mkF 20 F_pieces_Pieces___init__) (daLend (pVar 2) daNil))))))
def F_pieces_Pieces_since : List D → Out D := runF 8 [false, false] d_pieces_Pieces_since
/-- law -/
def d_law_k12 : DS := (dsSeq (dsFor (diD itR (dN (f2 maxD) [.k (pC (.int 3)), .v (dN (f2 minD) [.v (dN (f1 lenD) [.k (pVar 0)]), .k (pC (.int 12))])])) (tgN 1) (dsSeq (dsAsg (dCall F_L_law_box (daCons (dCall F_L_law_cell (daLend (pVar 0) (daLend (pVar 1) daNil))) daNil)) (tgN 2)) (dsSeq (dsAsg (dCallIO F_L_law_rows [.o 2, .v (dNI (f2 ixK) [.v (dF mkLst (daCons (dP (pC (.int 8))) (daCons (dP (pC (.int 30))) daNil))), .v (dNI (f1 intD) [.v (dNI (f2 eqD) [.v (dCallIO F_L_law_take [.o 2, .v (dP (pC (.int 8)))]), .v (dP (pC (.int 0)))])])])]) (tgN 3)) (dsSeq (dsAsg (dCall (mkF 20 F_pieces_Pieces___init__) (daLend (pVar 3) daNil)) (tgN 4)) (dsSeq (dsAsg (dComp false [6] (diD itR (dP (pC (.int 5)))) (tgN 6) dtYes (dCallIO F_L_law_stretch [.o 2, .l 3])) (tgN 5)) (dsSeq (dsFor (diD (itA true) (dN (f2 addA) [.k (pVar 5), .v (dN rev3 [.k (pVar 5), .v (dN (f1 negD) [.k (pC (.int 1))])])])) (tgN 7) (dsIf (dtNot (dtV (dCallIO F_L_law_right_2 [.l 4, .l 3, .l 7, .v (dNI (f2 eqD) [.v (dCallIO F_L_law_take [.o 2, .v (dP (pC (.int 2)))]), .v (dP (pC (.int 0)))])]))) (dsRet (dP (pC (.bl false)))) dsNext)) (dsSeq (dsAsg (dCallIO F_L_law_take [.o 2, .v (dP (pC (.int 201)))]) (tgN 8)) (dsSeq (dsAsg (dComp true [10] (diP (itA true) (pVar 3)) (tgN 10) dtYes (dN (f2 addA) [.v (dF mkTup (daCons (dP (pOp ixD (pVar 10) (pC (.int 0)))) (daCons (dN (f2 minD) [.v (dN (f2 maxD) [.k (pOp ixD (pVar 10) (pC (.int 1))), .k (pVar 8)]), .v (dN (f2 addA) [.k (pOp ixD (pVar 10) (pC (.int 2))), .k (pC (.int 1))])]) daNil))), .v (dN slD [.k (pVar 10), .k (pUn intP (pC (.int 2))), .k (pC .non)])])) (tgN 9)) (dsSeq (dsFor (diD (itA true) (dCallIO F_L_law_changed [.o 2, .l 3, .l 4])) (tgT [tgN 11, tgN 12]) (dsForE 5 (itA true) (tgN 7) (dsIf (dtNot (dtV (dCallIO F_L_law_right_2 [.l 12, .l 11, .l 7, .v (dNI (f2 eqD) [.v (dCallIO F_L_law_take [.o 2, .v (dP (pC (.int 2)))]), .v (dP (pC (.int 0)))])]))) (dsRet (dP (pC (.bl false)))) dsNext))) (dsForE 5 (itA true) (tgN 7) (dsIf (dtOr (dtNot (dtV (dCall F_L_law_right_2 (daCons (dCall F_pieces_Pieces_since (daLend (pRc 20 "since" (pVar 4)) (daLend (pVar 8) daNil))) (daLend (pVar 9) (daLend (pVar 7) (daLend (pC (.bl true)) daNil))))))) (dtNot (dtV (dCall F_L_law_right_2 (daLend (pVar 4) (daLend (pVar 3) (daLend (pVar 7) (daLend (pC (.bl false)) daNil)))))))) (dsRet (dP (pC (.bl false)))) dsNext))))))))))) (dsRet (dP (pC (.bl true)))))
def F_law_k12 : List D → Out D := runF 13 [false] d_law_k12
end Lw
/-! F43 -/
/-! What the printed text of try leans on. -/
namespace Fs
open PySem PySem.Spec PyProof.Rows L2
theorem is_nil {P : Nat → Prop} : ∀ c, ([] : List Nat).contains c = true → P c := fun c h => by simp at h
theorem is_cons {P : Nat → Prop} {a : Nat} {l : List Nat} (h : P a) (hl : ∀ c, l.contains c = true → P c) : ∀ c, (a :: l).contains c = true → P c := fun c hc => by
  rw [List.contains_cons, Bool.or_eq_true] at hc
  rcases hc with q | q
  · rw [eq_of_beq q]; exact h
  · exact hl c q
theorem one_of {l : List Nat} {c0 : Nat} (h : l = [c0]) : ∀ c, l.contains c = true → c = c0 := fun c hc => by
  subst h
  simpa using hc
def excCB (K : PySem.W.Frag) (C : Addr) : Bool := decide (PySem.W.findIn K (.ref C) "__getattribute__" = some (some (.builtin "BaseException.__getattribute__"))) && (decide (PySem.W.findIn K (.ref C) "__getattr__" = some none) && (decide (PySem.W.subIn K (.ref C) (.type "BaseException") = some true) && (PySem.W.hasDictIn K C && (decide (PySem.W.findIn K (.ref C) "__class__" = some (some (.builtin "object.__class__"))) && (decide (PySem.W.specialIn K (.builtin "object.__class__") "__get__" = some (some (.builtin "getset_descriptor.__get__"))) && (decide (PySem.W.takesIn K (.builtin "object.__class__") = some true) && decide (PySem.W.mroIn K C (.type "object") = some true)))))))
theorem excCB_ok {K : PySem.W.Frag} {C : Addr} (h : excCB K C = true) : ExcC K C := by
  unfold excCB at h
  obtain ⟨h1, h⟩ := He.ba h
  obtain ⟨h2, h⟩ := He.ba h
  obtain ⟨h3, h⟩ := He.ba h
  obtain ⟨h4, h⟩ := He.ba h
  obtain ⟨h5, h⟩ := He.ba h
  obtain ⟨h6, h⟩ := He.ba h
  obtain ⟨h7, h8⟩ := He.ba h
  exact ⟨of_decide_eq_true h1, of_decide_eq_true h2, of_decide_eq_true h3, h4, of_decide_eq_true h5, of_decide_eq_true h6, of_decide_eq_true h7, of_decide_eq_true h8⟩
end Fs
/-! D_k11 -/
namespace Lw
open PySem PySem.Spec PyProof.Rows L2 Fs
/-- law_thing -/
def d_L_law_thing : DS := (dsSeq (dsAsg (dF mkLst (daCons (dP (pC .non)) (daCons (dP (pC (.bl true))) (daCons (dP (pC (.bl false))) (daCons (dP (pC (.int 0))) (daCons (dP (pC (.int 1))) (daCons (dN (f2 subD) [.k (pC (.int 0)), .k (pC (.int 1))]) (daCons (dP (pC (.int 200))) (daCons (dP (pC (.int 201))) (daCons (dN (f2 powD) [.k (pC (.int 10)), .k (pC (.int 29))]) (daCons (dN (f2 subD) [.k (pC (.int 0)), .v (dN (f2 powD) [.k (pC (.int 10)), .k (pC (.int 29))])]) (daCons (dP (pC (.str ""))) (daCons (dP (pC (.str "a"))) (daCons (dP (pC (.str "0"))) (daCons (dP (pC (.str "7"))) (daCons (dP (pC (.str "07"))) (daCons (dP (pC (.str "9999"))) (daCons (dP (pC (.str "10000"))) daNil)))))))))))))))))) (tgN 1)) (dsSeq (dsAsg (dN (f2 addA) [.k (pVar 1), .v (dF mkLst (daCons (dP (pC (.str "a1"))) (daCons (dP (pC (.str "1a"))) (daCons (dP (pC (.str "A"))) (daCons (dP (pC (.str "abcdefgh"))) (daCons (dP (pC (.str "abcdefghi"))) (daCons (dP (pC (.str "a "))) (daCons (dP (pC (.str " 1"))) (daCons (dP (pC (.str "+1"))) (daCons (dP (pC (.str "-1"))) (daCons (dP (pC (.str "a-b"))) (daCons (dP (pC (.str "1.5"))) (daCons (dP (pC (.str "a\n"))) (daCons (dP (pC (.str "z9z9z9z9"))) daNil))))))))))))))]) (tgN 1)) (dsSeq (dsAsg (dN (f2 addA) [.k (pVar 1), .v (dF mkLst (daCons (dF mkLst daNil) (daCons (dF mkTup daNil) (daCons dDict0 (daCons (dF mkLst (daCons (dP (pC (.int 1))) daNil)) (daCons (dF mkTup (daCons (dP (pC (.int 1))) daNil)) (daCons (dF mkTup (daCons (dP (pC (.str "a"))) (daCons (dP (pC (.int 0))) (daCons (dP (pC (.int 5))) (daCons (dP (pC (.int 2))) daNil))))) (daCons (dDisp [((pC (.str "a")), (dP (pC (.int 1))))]) (daCons (dF mkLst (daCons (dF mkLst (daCons (dP (pC (.str "a"))) (daCons (dP (pC (.int 0))) (daCons (dP (pC (.int 5))) (daCons (dP (pC (.int 2))) daNil))))) daNil)) (daCons (dP (pC (.str "\n"))) (daCons (dP (pC (.str "mow 3 40 5"))) daNil)))))))))))]) (tgN 1)) (dsRet (dNI (f2 ixK) [.l 1, .v (dCallIO F_L_law_take [.o 0, .v (dP (pC (.int 40)))])])))))
def F_L_law_thing : List D → Out D := runF 2 [true] d_L_law_thing
/-- law_is_stretch -/
def d_L_law_is_stretch : DS := (dsSeq (dsIf (dtOr (dtNot (dtV (dN (f1 (isiD "tuple")) [.k (pVar 0)]))) (dtOr (dtV (dN (f2 neD) [.v (dN (f1 lenD) [.k (pVar 0)]), .k (pC (.int 2))])) (dtOr (dtNot (dtV (dCall F_L_law_whole_2 (daLend (pOp ixD (pVar 0) (pC (.int 0))) daNil)))) (dtNot (dtV (dCall F_L_law_whole_2 (daLend (pOp ixD (pVar 0) (pC (.int 1))) daNil))))))) (dsRet (dP (pC (.bl false)))) dsNext) (dsRet (dAnd (dCh leD leD (dP (pC (.int 0))) (dP (pOp ixD (pVar 0) (pC (.int 0)))) (dP (pC (.int 200)))) (dCh leD leD (dN (f2 subD) [.k (pOp ixD (pVar 0) (pC (.int 0))), .k (pC (.int 1))]) (dP (pOp ixD (pVar 0) (pC (.int 1)))) (dP (pC (.int 199)))))))
def F_L_law_is_stretch : List D → Out D := runF 1 [false] d_L_law_is_stretch
/-- law_asked -/
def d_L_law_asked_2 : DS := (dsSeq (dsAsg (dP (pC .non)) (tgN 4)) (dsSeq (dsTry (fun c => [5, 6].contains c) (dsIf (dtV (dN (f2 eqD) [.k (pVar 1), .k (pC (.int 0))])) (dsAsg (dF mkTup (daCons (dP (pC (.str "told"))) (daCons (dCall F_stretches_room (daLend (pVar 2) daNil)) daNil))) (tgN 4)) (dsIf (dtV (dN (f2 eqD) [.k (pVar 1), .k (pC (.int 1))])) (dsAsg (dF mkTup (daCons (dP (pC (.str "told"))) (daCons (dCall F_stretches_within (daLend (pVar 0) (daLend (pVar 2) daNil))) daNil))) (tgN 4)) (dsIf (dtV (dN (f2 eqD) [.k (pVar 1), .k (pC (.int 2))])) (dsAsg (dF mkTup (daCons (dP (pC (.str "told"))) (daCons (dCall F_stretches_lefts (daLend (pVar 0) (daLend (pVar 2) daNil))) daNil))) (tgN 4)) (dsIf (dtV (dN (f2 eqD) [.k (pVar 1), .k (pC (.int 3))])) (dsAsg (dF mkTup (daCons (dP (pC (.str "told"))) (daCons (dCall F_stretches_longest (daLend (pVar 0) (daLend (pVar 2) daNil))) daNil))) (tgN 4)) (dsIf (dtV (dN (f2 eqD) [.k (pVar 1), .k (pC (.int 4))])) (dsAsg (dF mkTup (daCons (dP (pC (.str "told"))) (daCons (dCall F_stretches_need (daLend (pVar 0) (daLend (pVar 2) (daLend (pVar 3) daNil)))) daNil))) (tgN 4)) (dsIf (dtV (dN (f2 eqD) [.k (pVar 1), .k (pC (.int 5))])) (dsAsg (dF mkTup (daCons (dP (pC (.str "told"))) (daCons (dCall F_stretches_short (daLend (pVar 0) (daLend (pVar 2) (daLend (pVar 3) daNil)))) daNil))) (tgN 4)) (dsAsg (dF mkTup (daCons (dP (pC (.str "told"))) (daCons (dCall F_stretches_need_failings (daLend (pVar 3) daNil)) daNil))) (tgN 4)))))))) [⟨(fun c => [5].contains c), some 5, fun xs => (dsAsg (dF mkTup (dL (lCons (pC (.str "stretch")) (lCons (fun _ => xs[0]?) (fun _ => some []))))) (tgN 4))⟩, ⟨(fun c => [6].contains c), some 5, fun xs => (dsAsg (dF mkTup (dL (lCons (pC (.str "failings")) (lCons (fun _ => xs[0]?) (fun _ => some []))))) (tgN 4))⟩, ⟨(fun c => [5, 6].contains c), none, fun xs => (dsAsg (dF mkTup (dL (lCons (pC (.str "other")) (lCons (pC .non) (fun _ => some []))))) (tgN 4))⟩]) (dsRet (dMv 4))))
def F_L_law_asked_2 : List D → Out D := runF 6 [false, false, false, false] d_L_law_asked_2
/-- law_right -/
def d_L_law_right_3 : DS := (dsSeq (dsAsg (dCall F_L_law_is_stretch (daLend (pVar 1) daNil)) (tgN 3)) (dsSeq (dsAsg (dCall F_stretches_is_stretch (daLend (pVar 1) daNil)) (tgN 4)) (dsSeq (dsIf (dtOr (dtNot (dtV (dN (f1 (isiD "bool")) [.k (pVar 4)]))) (dtV (dN (f2 neD) [.k (pVar 4), .k (pVar 3)]))) (dsRet (dP (pC (.bl false)))) dsNext) (dsSeq (dsAsg (dAnd (dCall F_L_law_whole_2 (daLend (pVar 2) daNil)) (dCh leD leD (dP (pC (.int 0))) (dP (pVar 2)) (dP (pC (.int 300))))) (tgN 5)) (dsSeq (dsFor (diD itR (dP (pC (.int 7)))) (tgN 6) (dsSeq (dsAsg (dCall F_L_law_asked_2 (daLend (pVar 0) (daLend (pVar 6) (daLend (pVar 1) (daLend (pVar 2) daNil))))) (tgN 7)) (dsSeq (dsAsg (dF mkTup (daCons (dP (pC (.str "told"))) daNil)) (tgN 8)) (dsSeq (dsIf (dtAnd (dtV (dN (f2 ltD) [.k (pVar 6), .k (pC (.int 6))])) (dtNot (dtV (dP (pVar 3))))) (dsAsg (dF mkTup (daCons (dP (pC (.str "stretch"))) (daCons (dP (pVar 1)) daNil))) (tgN 8)) (dsIf (dtAnd (dtV (dN (f2 gtD) [.k (pVar 6), .k (pC (.int 3))])) (dtNot (dtV (dP (pVar 5))))) (dsAsg (dF mkTup (daCons (dP (pC (.str "failings"))) (daCons (dP (pVar 2)) daNil))) (tgN 8)) dsNext)) (dsIf (dtOr (dtV (dN (f2 neD) [.v (dN slD [.k (pVar 7), .k (pC .non), .v (d1 intP (dN (f1 lenD) [.k (pVar 8)]))]), .k (pVar 8)])) (dtAnd (dtV (dN (f2 gtD) [.v (dN (f1 lenD) [.k (pVar 8)]), .k (pC (.int 1))])) (dtV (dN (f2 neD) [.v (dN (f1 (isiD "bool")) [.k (pOp ixD (pVar 7) (pC (.int 1)))]), .v (dN (f1 (isiD "bool")) [.k (pOp ixD (pVar 8) (pC (.int 1)))])])))) (dsRet (dP (pC (.bl false)))) dsNext))))) (dsRet (dOr (d1S notD (dP (pVar 3))) (dN (f2 eqD) [.v (dCall F_stretches_room (daLend (pVar 1) daNil)), .v (dN (f2 addA) [.v (dN (f2 subD) [.k (pOp ixD (pVar 1) (pC (.int 1))), .k (pOp ixD (pVar 1) (pC (.int 0)))]), .k (pC (.int 1))])]))))))))
def F_L_law_right_3 : List D → Out D := runF 9 [false, false, false] d_L_law_right_3
/-- law_drawn -/
def d_L_law_drawn : DS := (dsSeq (dsAsg (dF mkLst (daCons (dN (f2 subD) [.k (pC (.int 0)), .k (pC (.int 1))]) (daCons (dP (pC (.int 0))) (daCons (dP (pC (.int 1))) (daCons (dP (pC (.int 198))) (daCons (dP (pC (.int 199))) (daCons (dP (pC (.int 200))) (daCons (dP (pC (.int 201))) (daCons (dCallIO F_L_law_take [.o 0, .v (dP (pC (.int 200)))]) (daCons (dCallIO F_L_law_take [.o 0, .v (dP (pC (.int 200)))]) (daCons (dN (f2 subD) [.k (pC (.int 0)), .k (pC (.int 2))]) daNil))))))))))) (tgN 1)) (dsSeq (dsAsg (dF mkTup (daCons (dNI (f2 ixK) [.l 1, .v (dCallIO F_L_law_take [.o 0, .v (dP (pC (.int 10)))])]) (daCons (dNI (f2 ixK) [.l 1, .v (dCallIO F_L_law_take [.o 0, .v (dP (pC (.int 10)))])]) daNil))) (tgN 2)) (dsSeq (dsAsg (dCallIO F_L_law_take [.o 0, .v (dP (pC (.int 8)))]) (tgN 3)) (dsSeq (dsIf (dtV (dN (f2 eqD) [.k (pVar 3), .k (pC (.int 0))])) (dsRet (dF mkTup (daCons (dP (pOp ixD (pVar 2) (pC (.int 0)))) (daCons (dCallIO F_L_law_thing [.o 0]) daNil)))) dsNext) (dsSeq (dsIf (dtV (dN (f2 eqD) [.k (pVar 3), .k (pC (.int 1))])) (dsRet (dF mkTup (daCons (dCallIO F_L_law_thing [.o 0]) (daCons (dP (pOp ixD (pVar 2) (pC (.int 1)))) daNil)))) dsNext) (dsSeq (dsIf (dtV (dN (f2 eqD) [.k (pVar 3), .k (pC (.int 2))])) (dsRet (dNI (f2 ixK) [.v (dF mkLst (daCons (dN (f1 listD) [.k (pVar 2)]) (daCons (dN (f2 addA) [.k (pVar 2), .v (dF mkTup (daCons (dP (pC (.int 5))) daNil))]) (daCons (dN slD [.k (pVar 2), .k (pC .non), .k (pUn intP (pC (.int 1)))]) (daCons (dCallIO F_L_law_thing [.o 0]) daNil))))), .v (dCallIO F_L_law_take [.o 0, .v (dP (pC (.int 4)))])])) dsNext) (dsSeq (dsIf (dtV (dN (f2 eqD) [.k (pVar 3), .k (pC (.int 3))])) (dsRet (dF mkTup (daCons (dP (pOp ixD (pVar 2) (pC (.int 0)))) (daCons (dN (f2 subD) [.k (pOp ixD (pVar 2) (pC (.int 0))), .k (pC (.int 1))]) daNil)))) dsNext) (dsRet (dMv 2)))))))))
def F_L_law_drawn : List D → Out D := runF 4 [true] d_L_law_drawn
/-- law -/
def d_law_k11 : DS := (dsSeq (dsFor (diD itR (dN (f2 maxD) [.k (pC (.int 12)), .v (dN (f2 minD) [.v (dN (f1 lenD) [.k (pVar 0)]), .k (pC (.int 60))])])) (tgN 1) (dsSeq (dsAsg (dCall F_L_law_box (daCons (dCall F_L_law_cell (daLend (pVar 0) (daLend (pVar 1) daNil))) daNil)) (tgN 2)) (dsSeq (dsAsg (dG gYes (dCallIO (mkF 20 F_pieces_Pieces___init__) [.v (dCallIO F_L_law_rows [.o 2, .v (dP (pC (.int 3)))])])) (tgN 3)) (dsSeq (dsAsg (dNI (f2 ixK) [.v (dF mkLst (daCons (dP (pC (.int 0))) (daCons (dP (pC (.int 300))) (daCons (dP (pC (.int 301))) (daCons (dN (f2 subD) [.k (pC (.int 0)), .k (pC (.int 1))]) (daCons (dP (pC (.int 7))) (daCons (dCallIO F_L_law_thing [.o 2]) daNil))))))), .v (dCallIO F_L_law_take [.o 2, .v (dP (pC (.int 6)))])]) (tgN 4)) (dsIf (dtOr (dtNot (dtV (dCallIO F_L_law_right_3 [.l 3, .v (dCallIO F_L_law_drawn [.o 2]), .l 4]))) (dtNot (dtV (dCallIO F_L_law_right_3 [.l 3, .v (dCallIO F_L_law_thing [.o 2]), .l 4])))) (dsRet (dP (pC (.bl false)))) dsNext))))) (dsRet (dP (pC (.bl true)))))
def F_law_k11 : List D → Out D := runF 5 [false] d_law_k11
end Lw
/-! F44 -/
set_option maxHeartbeats 2000000
/-! repr: of what has no dict within, of an empty dict. -/
namespace Fs
open PySem PySem.Spec PyProof.Rows L2
def rRepr (K : PySem.W.Frag) : V → Hp → VK → Prop := fun v H Q => (∃ d, Dp K H v d ∧ d.showable = true ∧ d.hasDict = false ∧ d.depth ≤ 60 ∧ d.shown.length ≤ sizeLine ∧ Q (.str d.shown) H) ∨ ∃ a, v = .ref a ∧ H a = some (.dK []) ∧ Q (.str "{}") H
theorem call_reprG {X : Cx} (hg : X.A.guards = some []) (hu : X.A.units + 64 < cLine) : CallR X (.builtin "repr") (rL1 (rRepr X.K)) := by
  intro pins s σ H xs us Q I r h
  obtain ⟨v, rfl, h⟩ : ∃ v, xs = [v] ∧ rRepr X.K v H Q := by
    unfold rL1 at h
    split at h
    · exact ⟨_, rfl, h⟩
    · exact h.elim
  obtain ⟨u, rfl, ru⟩ := vals1 r
  rcases h with ⟨d, hd, hs, hn, hp, hz, q⟩ | ⟨a, rfl, ha, q⟩
  · have key : ∀ a, u = .ref a → wpAny (model X.prog X.w) X.A (call (.builtin "repr") [u]) (EP X pins σ Q) X.xe s := fun a e => by
      subst e
      obtain ⟨as, rd⟩ := Dp.reads I d v _ hd ru
      exact repr_of_reads' rd hs (PyData.noDict_hsm hn) hg (by omega) (fun _ _ e => e) (fun h' u tk hk => ⟨.str d.shown, H, I.kept (t' := tk) hk, ⟨_, rfl⟩, q⟩) hz
    cases hd with
    | non => cases ru; exact PySem.P.repr_of_none ⟨.str _, H, I.tok _, ⟨_, rfl⟩, by simpa [PyData.shown] using q⟩
    | bl b => cases ru; exact PySem.P.repr_of_bool ⟨.str _, H, I.tok _, ⟨_, rfl⟩, by simpa [PyData.shown] using q⟩
    | int i => obtain ⟨t, rfl⟩ := ru; exact PySem.P.repr_of_int (by simpa [PyData.showable] using hs) ⟨.str _, H, I.tok _, ⟨_, rfl⟩, by simpa [PyData.shown] using q⟩
    | str x => obtain ⟨t, rfl⟩ := ru; exact PySem.P.repr_of_str ⟨.str _, H, I.tok _, ⟨_, rfl⟩, by simpa [PyData.shown] using q⟩ (by simpa [PyData.shown] using hz)
    | lst h1 h2 => exact key _ ru
    | tup h1 h2 => exact key _ ru
  · cases (show u = Value.ref a from ru)
    obtain ⟨_, hsys, vs, kv, o, es, ep, hget, hx, hdat, _, prs, _⟩ := dk_of I.hok ha
    have e1 : vs = [] := by cases kv; rfl
    subst e1
    have e2 : es.toList = [] := List.length_eq_zero_iff.mp (Pairs.length prs)
    have rd : Reads s.heap (.ref a) (.dict []) (a :: [] ++ []) := .dict hget hx.1 hdat (by rw [e2]; exact .nil) (by rw [e2]; exact .nil)
    have hno : sysModules ∉ (a :: [] ++ [] : List Addr) := fun z => by
      simp only [List.append_nil, List.mem_singleton] at z
      rw [← z] at hsys
      simp at hsys
    exact repr_of_reads' rd rfl (fun _ => hno) hg (by have : (PyData.dict []).depth ≤ 1 := by decide
                                                      omega) (fun _ _ e => e) (fun h' u tk hk => ⟨.str _, H, I.kept (t' := tk) hk, ⟨_, rfl⟩, by have : (PyData.dict []).shown = ("{}" : Str) := by decide +kernel
                                                                                                                                                rw [this]; exact q⟩) (by decide +kernel)
/-- the data's repr -/
def reprD (x : D) : Option D := match x with
  | .n (.dct []) _ [] => some (.str "{}")
  | x => (pd x).bind fun d => if d.showable = true ∧ d.hasDict = false ∧ d.depth ≤ 60 ∧ d.shown.length ≤ 100000 then some (.str d.shown) else none
theorem reprD_kept : ∀ x z, reprD x = some z → z.kept = true := by
  intro x z e
  unfold reprD at e
  split at e
  · cases e; rfl
  · obtain ⟨d, e1, e2⟩ := Option.bind_eq_some_iff.mp e
    split at e2
    · cases e2; rfl
    · cases e2
section
variable {cl : Ec} {xf : Nat → List Str} {X : Cx} {W : WX}
theorem pun_repr : PUn cl (rRepr cl.K) reprD := by
  intro A L H x u f1 z Q h e k
  unfold reprD at e
  split at e
  · rename_i w
    cases e
    obtain ⟨a, o, vs, fp', rfl, ho, hs, hr, hf⟩ := h.node
    obtain ⟨hl, rfl⟩ := hs
    simp only [Rps] at hr
    obtain ⟨rfl, _⟩ := hr
    exact .inr ⟨a, rfl, ho, k _ [] (Rp.leaf rfl) (by simp)⟩
  · obtain ⟨d, e1, e2⟩ := Option.bind_eq_some_iff.mp e
    split at e2
    · rename_i hc
      cases e2
      exact .inl ⟨d, Rp.dp h e1, hc.1, hc.2.1, hc.2.2.1, sz_of hc.2.2.2, k _ [] (Rp.leaf rfl) (by simp)⟩
    · cases e2
theorem g_repr : GUn cl (rRepr cl.K) reprD := pun_repr.g reprD_kept
theorem o_repr {a : Expr} {pp pos : Pos} (hK : X.K = cl.K) (hgd : X.A.guards = some []) (hu : X.A.units + 64 < cLine) (hm : X.mg "repr" = none) (hg : Gl X "repr" := by rfl) (h1 : starEach [a] X.env = (false, eval a X.env) :: starEach [] X.env := by rfl) (h2 : (backTo pos (starEach [] X.env)).any (·.1) = false := by rfl) : B1 X (.Call (.Name "repr" pp) [a] [] pos) a (rRepr cl.K) := fun ta ha => by
  rw [← hK]
  exact pe_callB (call_reprG hgd hu) hg hm PyProof.Rows.boot_repr (pa_cons ha pa_nil h1) (by decide) (by decide) h1 h2
end
/-! texts compared as they are -/
def eqTx : D → D → Option D
  | .v (.str a), .v (.str b) => some (.bl (decide (V.str a = V.str b)))
  | _, _ => none
def neTx : D → D → Option D
  | .v (.str a), .v (.str b) => some (.bl (!decide (V.str a = V.str b)))
  | _, _ => none
section
variable {cl : Ec}
theorem pop_eqTx : POp cl rEq eqTx := by
  intro A L H x y u w f1 f2 z Q h1 h2 e k
  unfold eqTx at e
  split at e
  · cases e
    obtain ⟨rfl, _, _⟩ := h1.leafv
    obtain ⟨rfl, _, _⟩ := h2.leafv
    exact ⟨rfl, k _ [] (Rp.leaf rfl) (by simp)⟩
  · cases e
theorem pop_neTx : POp cl rNe neTx := by
  intro A L H x y u w f1 f2 z Q h1 h2 e k
  unfold neTx at e
  split at e
  · cases e
    obtain ⟨rfl, _, _⟩ := h1.leafv
    obtain ⟨rfl, _, _⟩ := h2.leafv
    exact ⟨rfl, k _ [] (Rp.leaf rfl) (by simp)⟩
  · cases e
theorem eqTx_kept : ∀ x y z, eqTx x y = some z → z.kept = true := by
  intro x y z e
  unfold eqTx at e
  split at e
  · cases e; rfl
  · cases e
theorem neTx_kept : ∀ x y z, neTx x y = some z → z.kept = true := by
  intro x y z e
  unfold neTx at e
  split at e
  · cases e; rfl
  · cases e
theorem g_eqTx : GOp cl rEq eqTx := pop_eqTx.gs eqTx_kept
theorem g_neTx : GOp cl rNe neTx := pop_neTx.gs neTx_kept
end
end Fs
/-! D_k41 -/
namespace Lw
open PySem PySem.Spec PyProof.Rows L2 Fs
/-- law_fitting -/
def d_L_law_fitting : DS := (dsRet (dComp true [1] (diP (itA true) (pVar 0)) (tgN 1) dtYes (dN (f2 addA) [.v (dF mkTup (daCons (dP (pOp ixD (pVar 1) (pC (.int 0)))) (daCons (dN (f2 minD) [.k (pOp ixD (pVar 1) (pC (.int 1))), .v (dN (f2 addA) [.k (pOp ixD (pVar 1) (pC (.int 2))), .k (pC (.int 1))])]) daNil))), .v (dN slD [.k (pVar 1), .k (pUn intP (pC (.int 2))), .k (pC .non)])])))
def F_L_law_fitting : List D → Out D := runF 2 [false] d_L_law_fitting
/-- law_alike -/
def d_L_law_alike : DS := (dsSeq (dsIf (dtV (dNI (f2 gtD) [.v (dCallIO F_L_law_take [.o 0, .v (dP (pC (.int 3)))]), .v (dP (pC (.int 0)))])) (dsRet (dMv 1)) dsNext) (dsSeq (dsAsg (dNI (f2 ixK) [.v (dF mkLst (daCons (dP (pC (.int 5))) (daCons (dP (pC (.int 20))) (daCons (dP (pC (.int 199))) daNil)))), .v (dCallIO F_L_law_take [.o 0, .v (dP (pC (.int 3)))])]) (tgN 2)) (dsRet (dComp false [3] (diD (itA true) (dFz 1)) (tgN 3) dtYes (dNI (f2 addA) [.v (dF mkTup (daCons (dP (pOp ixD (pVar 3) (pC (.int 0)))) (daCons (dN (f2 minD) [.k (pOp ixD (pVar 3) (pC (.int 1))), .v (dN (f2 addA) [.k (pVar 2), .k (pC (.int 1))])]) (daCons (dNI (f2 ixK) [.v (dF mkLst (daCons (dP (pVar 2)) (daCons (dP (pOp ixD (pVar 3) (pC (.int 2)))) daNil))), .v (dCallIO F_L_law_take [.o 0, .v (dP (pC (.int 2)))])]) daNil)))), .v (dN slD [.k (pVar 3), .k (pUn intP (pC (.int 3))), .k (pC .non)])])))))
def F_L_law_alike : List D → Out D := runF 4 [true, false] d_L_law_alike
/-- ahead_of -/
def d_worst_ahead_of : DS := (dsSeq (dsAsg (dN (f2 ixK) [.v (dCall F_pieces_Pieces_row (daLend (pRc 20 "row" (pVar 0)) (daLend (pVar 1) daNil))), .k (pC (.int 2))]) (tgN 2)) (dsSeq (dsAsg (dF mkLst daNil) (tgN 3)) (dsSeq (dsAsg (dP (pC (.bl false))) (tgN 4)) (dsSeq (dsFor (diD (itA true) (dCall F_pieces_Pieces_told (daLend (pRc 20 "told" (pVar 0)) daNil))) (tgN 5) (dsSeq (dsAsg (dOr (dP (pVar 4)) (dN (f2 eqD) [.k (pOp ixD (pVar 5) (pC (.int 0))), .k (pVar 1)])) (tgN 4)) (dsIf (dtOr (dtV (dN (f2 ltD) [.k (pOp ixD (pVar 5) (pC (.int 2))), .k (pVar 2)])) (dtAnd (dtV (dN (f2 eqD) [.k (pOp ixD (pVar 5) (pC (.int 2))), .k (pVar 2)])) (dtNot (dtV (dP (pVar 4)))))) (dsDrop (dApp 3 (dP (pOp ixD (pVar 5) (pC (.int 0)))))) dsNext))) (dsRet (dMv 3))))))
def F_worst_ahead_of : List D → Out D := runF 6 [false, false] d_worst_ahead_of
/-- law_refused -/
def d_L_law_refused : DS := (dsSeq (dsAsg (dP (pC .non)) (tgN 2)) (dsSeq (dsTry (fun c => [3].contains c) (dsDrop (dCall F_worst_ahead_of (daLend (pVar 0) (daLend (pVar 1) daNil)))) [⟨(fun c => [3].contains c), some 3, fun xs => (dsAsg (dP (pUn reprD (fun _ => xs[0]?))) (tgN 2))⟩]) (dsRet (dN (f2 eqTx) [.k (pVar 2), .v (dN (f1 reprD) [.k (pVar 1)])]))))
def F_L_law_refused : List D → Out D := runF 4 [false, false] d_L_law_refused
/-- law_names -/
def d_L_law_names_2 : DS := (dsSeq (dsAsg (dP (pC (.str "abcdefghijklmnopqrstuvwxyz"))) (tgN 2)) (dsSeq (dsAsg (dF mkLst (daCons (dP (pC (.str "a"))) (daCons (dP (pC (.str "ask"))) (daCons (dP (pC (.str "b"))) (daCons (dP (pC (.str "work"))) (daCons (dP (pC (.str "a1"))) (daCons (dP (pC (.str "rest"))) (daCons (dP (pC (.str "ab"))) (daCons (dP (pC (.str "failed"))) (daCons (dP (pC (.str "abc"))) (daCons (dP (pC (.str "done"))) (daCons (dP (pC (.str "ba"))) (daCons (dP (pC (.str "off"))) (daCons (dP (pC (.str "aa"))) (daCons (dP (pC (.str "left"))) daNil))))))))))))))) (tgN 3)) (dsSeq (dsIf (dtAnd (dtV (dN (f2 ltD) [.k (pVar 1), .k (pC (.int 15))])) (dtV (dNI (f2 eqD) [.v (dCallIO F_L_law_take [.o 0, .v (dP (pC (.int 4)))]), .v (dP (pC (.int 0)))]))) (dsSeq (dsAsg (dCallIO F_L_law_take [.o 0, .v (dP (pC (.int 14)))]) (tgN 4)) (dsRet (dComp true [5] (diD itR (dP (pVar 1))) (tgN 5) dtYes (dN (f2 ixK) [.k (pVar 3), .v (dN (f2 modD) [.v (dN (f2 addA) [.k (pVar 4), .v (dN (f2 mulA) [.k (pC (.int 3)), .k (pVar 5)])]), .k (pC (.int 14))])])))) dsNext) (dsSeq (dsAsg (dNI (f1 (joinD "")) [.v (dComp false [5] (diD itR (dCallIO F_L_law_take [.o 0, .v (dP (pC (.int 5)))])) (tgN 5) dtYes (dNI (f2 ixK) [.l 2, .v (dCallIO F_L_law_take [.o 0, .v (dP (pC (.int 26)))])]))]) (tgN 6)) (dsSeq (dsAsg (dCallIO F_L_law_take [.o 0, .v (dN (f2 addA) [.v (dN (f1 lenD) [.k (pVar 6)]), .k (pC (.int 1))])]) (tgN 4)) (dsSeq (dsAsg (dCallIO F_L_law_take [.o 0, .v (dP (pC (.int 26)))]) (tgN 7)) (dsSeq (dsAsg (dF mkLst daNil) (tgN 8)) (dsSeq (dsFor (diD itR (dP (pVar 1))) (tgN 5) (dsSeq (dsAsg (dN (f2 addA) [.v (dN (f2 ixK) [.k (pVar 2), .v (dN (f2 modD) [.v (dN (f2 addA) [.k (pVar 7), .v (dN (f2 mulA) [.k (pC (.int 7)), .k (pVar 5)])]), .k (pC (.int 26))])]), .v (dN slD [.k (pC (.str "z0")), .v (d1 intP (dN (f2 divD) [.k (pVar 5), .k (pC (.int 26))])), .k (pC .non)])]) (tgN 9)) (dsSeq (dsAsg (dN slD [.k (pVar 9), .k (pC .non), .v (d1 intP (dN (f2 addA) [.k (pC (.int 1)), .v (dN (f2 divD) [.k (pVar 5), .k (pC (.int 26))])]))]) (tgN 9)) (dsDrop (dApp 8 (dN (f2 addA) [.v (dN (f2 addA) [.v (dN (f2 addA) [.v (dN slD [.k (pVar 6), .k (pC .non), .k (pUn intP (pVar 4))]), .k (pVar 9)]), .v (dN slD [.k (pVar 6), .k (pUn intP (pVar 4)), .k (pC .non)])]), .v (dN slD [.k (pC (.str "z9")), .k (pC .non), .v (d1 intP (dN (f2 modD) [.k (pVar 5), .k (pC (.int 3))]))])])))))) (dsRet (dMv 8))))))))))
def F_L_law_names_2 : List D → Out D := runF 10 [true, false] d_L_law_names_2
/-- law_rows -/
def d_L_law_rows_2 : DS := (dsSeq (dsAsg (dNI (f2 ixK) [.v (dF mkLst (daCons (dP (pC (.int 8))) (daCons (dP (pC (.int 20))) (daCons (dP (pC (.int 40))) (daCons (dP (pC (.int 200))) daNil))))), .v (dCallIO F_L_law_take [.o 0, .v (dP (pC (.int 4)))])]) (tgN 2)) (dsSeq (dsAsg (dNI (f2 ixK) [.v (dF mkLst (daCons (dP (pC (.int 2))) (daCons (dP (pC (.int 4))) (daCons (dP (pC (.int 12))) daNil)))), .v (dCallIO F_L_law_take [.o 0, .v (dP (pC (.int 3)))])]) (tgN 3)) (dsSeq (dsAsg (dF mkLst daNil) (tgN 4)) (dsSeq (dsFor (diD (itA true) (dCallIO F_L_law_names_2 [.o 0, .v (dNI (f2 maxD) [.v (dCallIO F_L_law_take [.o 0, .v (dN (f2 addA) [.k (pVar 1), .k (pC (.int 1))])]), .v (dCallIO F_L_law_take [.o 0, .v (dN (f2 addA) [.k (pVar 1), .k (pC (.int 1))])])])])) (tgN 5) (dsSeq (dsAsg (dCallIO F_L_law_take [.o 0, .l 2]) (tgN 6)) (dsSeq (dsAsg (dNI (f2 minD) [.v (dP (pC (.int 199))), .v (dNI (f2 addA) [.l 6, .v (dNI (f2 ixK) [.v (dF mkLst (daCons (dCallIO F_L_law_take [.o 0, .v (dP (pC (.int 12)))]) (daCons (dCallIO F_L_law_take [.o 0, .l 2]) (daCons (dP (pC (.int 199))) daNil)))), .v (dCallIO F_L_law_take [.o 0, .v (dP (pC (.int 3)))])])])]) (tgN 7)) (dsSeq (dsIf (dtV (dNI (f2 eqD) [.v (dCallIO F_L_law_take [.o 0, .v (dP (pC (.int 10)))]), .v (dP (pC (.int 0)))])) (dsAsg (dN (f2 addA) [.k (pVar 7), .k (pC (.int 1))]) (tgN 6)) dsNext) (dsSeq (dsAsg (dNI (f2 addA) [.v (dP (pC (.int 1))), .v (dCallIO F_L_law_take [.o 0, .l 3])]) (tgN 8)) (dsSeq (dsAsg (dNI (f2 ixK) [.v (dF mkLst (daCons (dP (pVar 8)) (daCons (dP (pVar 8)) (daCons (dCallIO F_L_law_take [.o 0, .v (dN (f2 addA) [.k (pVar 8), .k (pC (.int 1))])]) (daCons (dP (pC (.int 0))) daNil))))), .v (dCallIO F_L_law_take [.o 0, .v (dP (pC (.int 4)))])]) (tgN 9)) (dsDrop (dApp 4 (dF mkTup (daCons (dP (pVar 5)) (daCons (dP (pVar 6)) (daCons (dP (pVar 7)) (daCons (dP (pVar 8)) (daCons (dP (pVar 9)) daNil)))))))))))))) (dsRet (dMv 4))))))
def F_L_law_rows_2 : List D → Out D := runF 10 [true, false] d_L_law_rows_2
/-- law_drawn -/
def d_L_law_drawn_2 : DS := (dsRet (dCallIO F_L_law_rows_2 [.o 0, .v (dNI (f2 ixK) [.v (dF mkLst (daCons (dP (pVar 2)) (daCons (dP (pC (.int 30))) daNil))), .v (dNI (f1 intD) [.v (dAnd (dN (f2 eqD) [.k (pVar 1), .k (pC (.int 0))]) (dNI (f2 eqD) [.v (dCallIO F_L_law_take [.o 0, .v (dP (pC (.int 4)))]), .v (dP (pC (.int 0)))]))])])]))
def F_L_law_drawn_2 : List D → Out D := runF 3 [true, false, false] d_L_law_drawn_2
/-- law_ahead -/
def d_L_law_ahead : DS := (dsSeq (dsAsg (dF mkLst daNil) (tgN 2)) (dsSeq (dsFor (diP (itEn false) (pVar 0)) (tgT [tgN 3, tgN 4]) (dsIf (dtOr (dtV (dN (f2 ltD) [.k (pOp ixD (pVar 4) (pC (.int 2))), .k (pOp ixD (pOp ixD (pVar 0) (pVar 1)) (pC (.int 2)))])) (dtAnd (dtV (dN (f2 eqD) [.k (pOp ixD (pVar 4) (pC (.int 2))), .k (pOp ixD (pOp ixD (pVar 0) (pVar 1)) (pC (.int 2)))])) (dtV (dN (f2 ltD) [.k (pVar 3), .k (pVar 1)])))) (dsDrop (dApp 2 (dP (pVar 4)))) dsNext)) (dsRet (dMv 2))))
def F_L_law_ahead : List D → Out D := runF 5 [false, false] d_L_law_ahead
/-- law -/
def d_law_k41 : DS := (dsSeq (dsFor (diD itR (dN (f2 maxD) [.k (pC (.int 2)), .v (dN (f2 minD) [.v (dN (f1 lenD) [.k (pVar 0)]), .k (pC (.int 10))])])) (tgN 1) (dsSeq (dsAsg (dCall F_L_law_box (daCons (dCall F_L_law_cell (daLend (pVar 0) (daLend (pVar 1) daNil))) daNil)) (tgN 2)) (dsSeq (dsAsg (dCallIO F_L_law_fitting [.v (dCallIO F_L_law_alike [.o 2, .v (dCallIO F_L_law_drawn_2 [.o 2, .l 1, .v (dP (pC (.int 8)))])])]) (tgN 3)) (dsSeq (dsAsg (dCall (mkF 20 F_pieces_Pieces___init__) (daLend (pVar 3) daNil)) (tgN 4)) (dsSeq (dsFor (diD (itEn true) (dFz 3)) (tgT [tgN 5, tgN 6]) (dsSeq (dsAsg (dComp true [8] (diD (itA true) (dCall F_L_law_ahead (daLend (pVar 3) (daLend (pVar 5) daNil)))) (tgN 8) dtYes (dP (pOp ixD (pVar 8) (pC (.int 0))))) (tgN 7)) (dsSeq (dsAsg (dCall F_worst_ahead_of (daLend (pVar 4) (daLend (pOp ixD (pVar 6) (pC (.int 0))) daNil))) (tgN 9)) (dsSeq (dsIf (dtOr (dtNot (dtV (dN (f1 (isiD "list")) [.k (pVar 9)]))) (dtV (dN (f2 neD) [.k (pVar 9), .k (pVar 7)]))) (dsRet (dP (pC (.bl false)))) dsNext) (dsSeq (dsDrop (dApp 9 (dP (pC (.str "q.q"))))) (dsIf (dtV (dN (f2 neD) [.v (dCall F_worst_ahead_of (daLend (pVar 4) (daLend (pOp ixD (pVar 6) (pC (.int 0))) daNil))), .k (pVar 7)])) (dsRet (dP (pC (.bl false)))) dsNext)))))) (dsIf (dtNot (dtV (dCallIO F_L_law_refused [.l 4, .v (dNI (f2 ixK) [.v (dF mkLst (daCons (dP (pC .non)) (daCons (dP (pC (.int 7))) (daCons (dF mkLst daNil) (daCons (dP (pC (.str ""))) (daCons (dP (pC (.str "q.q"))) (daCons (dP (pC (.bl true))) (daCons (dF mkTup (daCons (dP (pC (.str "a"))) daNil)) (daCons dDict0 daNil))))))))), .v (dCallIO F_L_law_take [.o 2, .v (dP (pC (.int 8)))])])]))) (dsRet (dP (pC (.bl false)))) dsNext)))))) (dsRet (dP (pC (.bl true)))))
def F_law_k41 : List D → Out D := runF 10 [false] d_law_k41
end Lw
/-! W_k41 -/
set_option maxHeartbeats 4000000
namespace Lw
open PySem PySem.Spec PyProof.Rows L2 Fs
def top (i : Nat) : Stmt := PySem.Challenge.pw_failslack_k41_who_goes_ahead.main.body.getD i (.Pass ⟨0, 0, 0, 0⟩)
def mth (i j : Nat) : Stmt := match top i with | .ClassDef _ _ _ body _ _ _ _ _ _ _ => body.getD j (.Pass ⟨0, 0, 0, 0⟩) | s => s
abbrev s__law_box : Stmt := top 25
def N__law_box : List Str := ["_law_cell_here"]
abbrev s__law_fitting : Stmt := top 33
def N__law_fitting : List Str := ["_law_rows_here", "_law_row"]
abbrev s_is_whole : Stmt := top 9
def N_is_whole : List Str := ["thing"]
abbrev s_is_within : Stmt := top 10
def N_is_within : List Str := ["thing", "low", "high"]
abbrev s_window_fault : Stmt := top 18
def N_window_fault : List Str := ["row"]
abbrev s_is_name : Stmt := top 11
def N_is_name : List Str := ["thing", "sign"]
abbrev s_row_fault : Stmt := top 19
def N_row_fault : List Str := ["known", "row"]
abbrev s_five_of : Stmt := top 20
def N_five_of : List Str := ["row"]
abbrev s_five_rows : Stmt := top 21
def N_five_rows : List Str := ["rows", "found", "at", "row", "why"]
abbrev s_Pieces___init__ : Stmt := mth 22 0
def N_Pieces___init__ : List Str := ["self", "rows"]
abbrev s__law_cell : Stmt := top 24
def N__law_cell : List Str := ["_law_script", "_law_k"]
abbrev s__law_take : Stmt := top 26
def N__law_take : List Str := ["_law_box_here", "_law_many", "_law_digit", "_law_number"]
abbrev s__law_alike : Stmt := top 32
def N__law_alike : List Str := ["_law_box_here", "_law_rows_here", "_law_last", "_law_row"]
abbrev s_Pieces_told : Stmt := mth 22 1
def N_Pieces_told : List Str := ["self"]
abbrev s_Pieces_has : Stmt := mth 22 3
def N_Pieces_has : List Str := ["self", "thing"]
abbrev s_Pieces_row : Stmt := mth 22 4
def N_Pieces_row : List Str := ["self", "name"]
abbrev s_ahead_of : Stmt := top 13
def N_ahead_of : List Str := ["pieces", "name", "last", "found", "passed", "row"]
abbrev s__law_refused : Stmt := top 31
def N__law_refused : List Str := ["_law_pieces", "_law_thing", "_law_caught", "e"]
abbrev s__law_names : Stmt := top 27
def N__law_names : List Str := ["_law_box_here", "_law_many", "_law_letters", "_law_words", "_law_at", "_law_k", "_law_base", "_law_first", "_law_names_here", "_law_sign"]
abbrev s__law_rows : Stmt := top 28
def N__law_rows : List Str := ["_law_box_here", "_law_most", "_law_turns", "_law_long", "_law_rows_here", "_law_name", "_law_first", "_law_last", "_law_length", "_law_left"]
abbrev s__law_drawn : Stmt := top 29
def N__law_drawn : List Str := ["_law_box_here", "_law_k", "_law_most"]
abbrev s__law_ahead : Stmt := top 30
def N__law_ahead : List Str := ["_law_rows_here", "_law_k", "_law_found", "_law_j", "_law_row"]
abbrev s_law : Stmt := top 34
def N_law : List Str := ["_law_script", "_law_k", "_law_box_here", "_law_rows_here", "_law_pieces", "_law_j", "_law_row", "_law_due", "_law_other", "_law_told"]
structure Tx (cl : Ec) (mg : Str → Option Value) : Prop where
  f_all : mg "all" = none
  f_bool : mg "bool" = none
  f_enumerate : mg "enumerate" = none
  f_int : mg "int" = none
  f_isinstance : mg "isinstance" = none
  f_len : mg "len" = none
  f_list : mg "list" = none
  f_max : mg "max" = none
  f_min : mg "min" = none
  f_range : mg "range" = none
  f_repr : mg "repr" = none
  f_str : mg "str" = none
  f_tuple : mg "tuple" = none
  c_FIGURES : ∃ u, mg "FIGURES" = some u ∧ RelV (.str "0123456789") u
  c_LETTERS : ∃ u, mg "LETTERS" = some u ∧ RelV (.str "abcdefghijklmnopqrstuvwxyz") u
  c_LONGEST_NAME : ∃ u, mg "LONGEST_NAME" = some u ∧ RelV (.int 8) u
  c_MOST_LENGTH : ∃ u, mg "MOST_LENGTH" = some u ∧ RelV (.int 12) u
  c_MOST_PIECES : ∃ u, mg "MOST_PIECES" = some u ∧ RelV (.int 30) u
  c_MOST_TURN : ∃ u, mg "MOST_TURN" = some u ∧ RelV (.int 199) u
  k_Pieces : Cls cl.K (cl.c 20)
  n_Pieces_fives : NoAttr cl.K (cl.c 20) "fives"
  g_NoPiece : mg "NoPiece" = some (.ref (cl.c 3))
  xf_NoPiece : XfC cl.K (cl.c 3)
  xn_NoPiece_found : PySem.W.findIn cl.K (.ref (cl.c 3)) "found" = some none
  ex_NoPiece_NoPiece : PySem.W.exmOne cl.K (.ref (cl.c 3)) (.ref (cl.c 3)) = some true
section
variable {P : Program} {w : World} {K : PySem.W.Frag} {mg : Str → Option Value} {base : Heap} {f : Addr} {fd : FuncData} {cl : Ec} {xf : Nat → List Str}
theorem sc__law_box : FnScope N__law_box ["_law_cell_here"] (defScope s__law_box) := ⟨rfl, rfl, rfl, by decide +kernel, rfl, by decide +kernel, by decide +kernel⟩
theorem ok__law_box (hK : cl.K = K) (hX : xf = xfG) (T : Tx cl mg) (Fd : FunD K "_law_box" "_law_box" (defArgs s__law_box) (defBody s__law_box) (defScope s__law_box) [] [] f fd)  : FnG P w K mg base (L2.CX P w) 1 f fd ["_law_cell_here"] (spF cl xf 1 F_L_law_box) := by
  subst hK; subst hX
  refine fn_ok (N := N__law_box) (ws := fun _ => false) (ds := d_L_law_box) (io := [false]) Fd sc__law_box rfl (by decide) (fun _ _ => rfl) fun cdv A outer s H E hr => ?_
  have tk := takes_of (X := cxOf (L2.CX P w) P w cl.K mg base N__law_box "_law_box" (defScope s__law_box) f cdv A outer s H E) (E := E) rfl rfl rfl rfl
  have hu := huG hr; have hu2 := hu65 hr; have nd := sc__law_box.nd
  exact (b_one (s_ret (d_lst (a_cons (d_n (b2n (o_max T.f_max)) g_max.n (n_k k_int (n_v (d_n (b2n o_sub) g_sub.n (n_k (k_var 0) (n_v (d_n (b2n o_pow) g_pow.n (n_k k_int (n_k k_int n_nil))) n_nil))) n_nil))) (a_cons (d_n (b2n o_mod) g_mod.n (n_k (k_var 0) (n_k k_int n_nil))) (a_cons (d_p k_int) a_nil))))))
theorem sc__law_fitting : FnScope N__law_fitting ["_law_rows_here"] (defScope s__law_fitting) := ⟨rfl, rfl, rfl, by decide +kernel, rfl, by decide +kernel, by decide +kernel⟩
theorem ok__law_fitting (hK : cl.K = K) (hX : xf = xfG) (T : Tx cl mg) (Fd : FunD K "_law_fitting" "_law_fitting" (defArgs s__law_fitting) (defBody s__law_fitting) (defScope s__law_fitting) [] [] f fd)  : FnG P w K mg base (L2.CX P w) 1 f fd ["_law_rows_here"] (spF cl xf 1 F_L_law_fitting) := by
  subst hK; subst hX
  refine fn_ok (N := N__law_fitting) (ws := fun _ => false) (ds := d_L_law_fitting) (io := [false]) Fd sc__law_fitting rfl (by decide) (fun _ _ => rfl) fun cdv A outer s H E hr => ?_
  have tk := takes_of (X := cxOf (L2.CX P w) P w cl.K mg base N__law_fitting "_law_fitting" (defScope s__law_fitting) f cdv A outer s H E) (E := E) rfl rfl rfl rfl
  have hu := huG hr; have hu2 := hu65 hr; have nd := sc__law_fitting.nd
  exact (b_one (s_ret (d_lcP (own := [("_law_row", 1)]) (i_anyP (cl := cl) rfl (k_var 0)) (blkOk_by (own := [("_law_row", 1)]) (N := N__law_fitting) (sc := defScope s__law_fitting) (by decide +kernel)) (tgIn_name (by simp)) (uni_g fun _ _ _ _ _ => g_name 1 nd (by rfl)) uni_y (uni_e fun _ _ _ _ _ => (d_n (b2n (o_addB (cl := cl) rfl)) na_add.n (n_v (d_tup (a_cons (d_p (k_op (o_ix (cl := cl) rfl hu (fun _ _ => rfl)) pop_ix (k_var 1) k_int)) (a_cons (d_n (b2n (o_min T.f_min)) g_min.n (n_k (k_op (o_ix (cl := cl) rfl hu (fun _ _ => rfl)) pop_ix (k_var 1) k_int) (n_v (d_n (b2n (o_addB (cl := cl) rfl)) na_add.n (n_k (k_op (o_ix (cl := cl) rfl hu (fun _ _ => rfl)) pop_ix (k_var 1) k_int) (n_k k_int n_nil))) n_nil))) a_nil))) (n_v (d_sl (cl := cl) rfl (rb_k (k_var 1)) (ro_k k_int) ro_none) n_nil)))) nd)))
theorem sc_is_whole : FnScope N_is_whole ["thing"] (defScope s_is_whole) := ⟨rfl, rfl, rfl, by decide +kernel, rfl, by decide +kernel, by decide +kernel⟩
theorem ok_is_whole (hK : cl.K = K) (hX : xf = xfG) (T : Tx cl mg) (Fd : FunD K "is_whole" "is_whole" (defArgs s_is_whole) (defBody s_is_whole) (defScope s_is_whole) [] [] f fd)  : FnG P w K mg base (L2.CX P w) 1 f fd ["thing"] (spF cl xf 1 F_words_is_whole) := by
  subst hK; subst hX
  refine fn_ok (N := N_is_whole) (ws := fun _ => false) (ds := d_words_is_whole) (io := [false]) Fd sc_is_whole rfl (by decide) (fun _ _ => rfl) fun cdv A outer s H E hr => ?_
  have tk := takes_of (X := cxOf (L2.CX P w) P w cl.K mg base N_is_whole "is_whole" (defScope s_is_whole) f cdv A outer s H E) (E := E) rfl rfl rfl rfl
  have hu := huG hr; have hu2 := hu65 hr; have nd := sc_is_whole.nd
  exact (b_one (s_ret (d_and (d_n (b1n (o_isi (T := "int") T.f_isinstance T.f_int (by decide +kernel))) (g_isi (by decide)).n (n_k (k_var 0) n_nil)) (d_one (d_not (d_n (b1n (o_isi (T := "bool") T.f_isinstance T.f_bool (by decide +kernel))) (g_isi (by decide)).n (n_k (k_var 0) n_nil)))))))
theorem sc_is_within : FnScope N_is_within ["thing", "low", "high"] (defScope s_is_within) := ⟨rfl, rfl, rfl, by decide +kernel, rfl, by decide +kernel, by decide +kernel⟩
theorem ok_is_within (hK : cl.K = K) (hX : xf = xfG) (T : Tx cl mg) (Fd : FunD K "is_within" "is_within" (defArgs s_is_within) (defBody s_is_within) (defScope s_is_within) [] [] f fd) (H_is_whole : Fn cl xf P w K mg base "is_whole" 1 1 F_words_is_whole) : FnG P w K mg base (L2.CX P w) 2 f fd ["thing", "low", "high"] (spF cl xf 3 F_words_is_within) := by
  subst hK; subst hX
  refine fn_ok (N := N_is_within) (ws := fun _ => false) (ds := d_words_is_within) (io := [false, false, false]) Fd sc_is_within rfl (by decide) (fun _ _ => rfl) fun cdv A outer s H E hr => ?_
  have tk := takes_of (X := cxOf (L2.CX P w) P w cl.K mg base N_is_within "is_within" (defScope s_is_within) f cdv A outer s H E) (E := E) rfl rfl rfl rfl
  have hu := huG hr; have hu2 := hu65 hr; have nd := sc_is_within.nd
  exact (b_one (s_ret (d_and (d_call H_is_whole hr (by decide) tk (c_lend (k_var 0) c_nil) (dl_lend dl_nil)) (d_one (d_ch op_le op_le p_le p_le (d_p (k_var 1)) (d_p (k_var 0)) (d_p (k_var 2)))))))
theorem sc_window_fault : FnScope N_window_fault ["row"] (defScope s_window_fault) := ⟨rfl, rfl, rfl, by decide +kernel, rfl, by decide +kernel, by decide +kernel⟩
theorem ok_window_fault (hK : cl.K = K) (hX : xf = xfG) (T : Tx cl mg) (Fd : FunD K "window_fault" "window_fault" (defArgs s_window_fault) (defBody s_window_fault) (defScope s_window_fault) [] [] f fd) (H_is_within : Fn cl xf P w K mg base "is_within" 2 3 F_words_is_within) : FnG P w K mg base (L2.CX P w) 3 f fd ["row"] (spF cl xf 1 F_pieces_window_fault) := by
  subst hK; subst hX
  refine fn_ok (N := N_window_fault) (ws := fun _ => false) (ds := d_pieces_window_fault) (io := [false]) Fd sc_window_fault rfl (by decide) (fun _ _ => rfl) fun cdv A outer s H E hr => ?_
  have tk := takes_of (X := cxOf (L2.CX P w) P w cl.K mg base N_window_fault "window_fault" (defScope s_window_fault) f cdv A outer s H E) (E := E) rfl rfl rfl rfl
  have hu := huG hr; have hu2 := hu65 hr; have nd := sc_window_fault.nd
  exact (b_cons (s_if (t_not (t_v (d_call H_is_within hr (by decide) tk (c_lend (k_op (o_ix (cl := cl) rfl hu (fun _ _ => rfl)) pop_ix (k_var 0) k_int) (c_lend k_int (c_val (d_n (b2n (o_addB (cl := cl) rfl)) na_add.n (n_k (k_globE (pa := 0) T.c_MOST_TURN) (n_k k_int n_nil))) c_nil))) (dl_lend (dl_lend (dl_cons dl_nil)))))) (b_one (s_ret (d_p k_str))) b_nil) (b_cons (s_if (t_not (t_v (d_call H_is_within hr (by decide) tk (c_lend (k_op (o_ix (cl := cl) rfl hu (fun _ _ => rfl)) pop_ix (k_var 0) k_int) (c_val (d_n (b2n (o_max T.f_max)) g_max.n (n_k k_int (n_v (d_n (b2n o_sub) g_sub.n (n_k (k_op (o_ix (cl := cl) rfl hu (fun _ _ => rfl)) pop_ix (k_var 0) k_int) (n_k k_int n_nil))) n_nil))) (c_lend (k_globE (pa := 0) T.c_MOST_TURN) c_nil))) (dl_lend (dl_cons (dl_lend dl_nil)))))) (b_one (s_ret (d_p k_str))) b_nil) (b_cons (s_if (t_not (t_v (d_call H_is_within hr (by decide) tk (c_lend (k_op (o_ix (cl := cl) rfl hu (fun _ _ => rfl)) pop_ix (k_var 0) k_int) (c_lend k_int (c_lend (k_globE (pa := 0) T.c_MOST_LENGTH) c_nil))) (dl_lend (dl_lend (dl_lend dl_nil)))))) (b_one (s_ret (d_p k_str))) b_nil) (b_cons (s_if (t_w (w_and (t_n (c_cmp (op_eqD hr.units) (nomark _)) g_eq.n (n_v (d_n (b1n (o_len (cl := cl) rfl T.f_len)) g_len.n (n_k (k_var 0) n_nil)) (n_k k_int n_nil))) (w_and1 (t_not (t_v (d_call H_is_within hr (by decide) tk (c_lend (k_op (o_ix (cl := cl) rfl hu (fun _ _ => rfl)) pop_ix (k_var 0) k_int) (c_lend k_int (c_lend (k_op (o_ix (cl := cl) rfl hu (fun _ _ => rfl)) pop_ix (k_var 0) k_int) c_nil))) (dl_lend (dl_lend (dl_lend dl_nil))))))))) (b_one (s_ret (d_p k_str))) b_nil) (b_one (s_ret (d_p k_non)))))))
theorem sc_is_name : FnScope N_is_name ["thing"] (defScope s_is_name) := ⟨rfl, rfl, rfl, by decide +kernel, rfl, by decide +kernel, by decide +kernel⟩
theorem ok_is_name (hK : cl.K = K) (hX : xf = xfG) (T : Tx cl mg) (Fd : FunD K "is_name" "is_name" (defArgs s_is_name) (defBody s_is_name) (defScope s_is_name) [] [] f fd)  : FnG P w K mg base (L2.CX P w) 1 f fd ["thing"] (spF cl xf 1 F_words_is_name) := by
  subst hK; subst hX
  refine fn_ok (N := N_is_name) (ws := fun _ => false) (ds := d_words_is_name) (io := [false]) Fd sc_is_name rfl (by decide) (fun _ _ => rfl) fun cdv A outer s H E hr => ?_
  have tk := takes_of (X := cxOf (L2.CX P w) P w cl.K mg base N_is_name "is_name" (defScope s_is_name) f cdv A outer s H E) (E := E) rfl rfl rfl rfl
  have hu := huG hr; have hu2 := hu65 hr; have nd := sc_is_name.nd
  exact (b_cons (s_if (t_w (w_or (t_not (t_v (d_n (b1n (o_isi (T := "str") T.f_isinstance T.f_str (by decide +kernel))) (g_isi (by decide)).n (n_k (k_var 0) n_nil)))) (w_or (t_not (t_ch op_le op_le p_le p_le (d_p k_int) (d_n (b1n (o_len (cl := cl) rfl T.f_len)) g_len.n (n_k (k_var 0) n_nil)) (d_p (k_globE (pa := 0) T.c_LONGEST_NAME)))) (w_or1 (t_n (c_cmp (opk_notin (cl := cl) rfl hu2) rfl) na_notin.n (n_k (k_op (o_ix (cl := cl) rfl hu (fun _ _ => rfl)) pop_ix (k_var 0) k_int) (n_k (k_globE (pa := 0) T.c_LETTERS) n_nil))))))) (b_one (s_ret (d_p k_bl))) b_nil) (b_one (s_ret (d_n (b1n (o_all T.f_all)) g_all.n (n_v (d_lcP (own := [("sign", 1)]) (i_anyP (cl := cl) rfl (k_var 0)) (blkOk_by (own := [("sign", 1)]) (N := N_is_name) (sc := defScope s_is_name) (by decide +kernel)) (tgIn_name (by simp)) (uni_g fun _ _ _ _ _ => g_name 1 nd (by rfl)) uni_y (uni_e fun _ _ _ _ _ => (d_n (b2n (o_cmp (opk_in (cl := cl) rfl hu2) rfl)) na_in.n (n_k (k_var 1) (n_v (d_n (b2n (o_addB (cl := cl) rfl)) na_add.n (n_k (k_globE (pa := 0) T.c_LETTERS) (n_k (k_globE (pa := 0) T.c_FIGURES) n_nil))) n_nil)))) nd) n_nil)))))
theorem sc_row_fault : FnScope N_row_fault ["known", "row"] (defScope s_row_fault) := ⟨rfl, rfl, rfl, by decide +kernel, rfl, by decide +kernel, by decide +kernel⟩
theorem ok_row_fault (hK : cl.K = K) (hX : xf = xfG) (T : Tx cl mg) (Fd : FunD K "row_fault" "row_fault" (defArgs s_row_fault) (defBody s_row_fault) (defScope s_row_fault) [] [] f fd) (H_is_name : Fn cl xf P w K mg base "is_name" 1 1 F_words_is_name) (H_window_fault : Fn cl xf P w K mg base "window_fault" 3 1 F_pieces_window_fault) : FnG P w K mg base (L2.CX P w) 4 f fd ["known", "row"] (spF cl xf 2 F_pieces_row_fault) := by
  subst hK; subst hX
  refine fn_ok (N := N_row_fault) (ws := fun _ => false) (ds := d_pieces_row_fault) (io := [false, false]) Fd sc_row_fault rfl (by decide) (fun _ _ => rfl) fun cdv A outer s H E hr => ?_
  have tk := takes_of (X := cxOf (L2.CX P w) P w cl.K mg base N_row_fault "row_fault" (defScope s_row_fault) f cdv A outer s H E) (E := E) rfl rfl rfl rfl
  have hu := huG hr; have hu2 := hu65 hr; have nd := sc_row_fault.nd
  exact (b_cons (s_if (t_w (w_or (t_not (t_v (d_n (b1n (o_isi (T := "tuple") T.f_isinstance T.f_tuple (by decide +kernel))) (g_isi (by decide)).n (n_k (k_var 1) n_nil)))) (w_or1 (t_not (t_ch op_le op_le p_le p_le (d_p k_int) (d_n (b1n (o_len (cl := cl) rfl T.f_len)) g_len.n (n_k (k_var 1) n_nil)) (d_p k_int)))))) (b_one (s_ret (d_p k_str))) b_nil) (b_cons (s_if (t_not (t_v (d_call H_is_name hr (by decide) tk (c_lend (k_op (o_ix (cl := cl) rfl hu (fun _ _ => rfl)) pop_ix (k_var 1) k_int) c_nil) (dl_lend dl_nil)))) (b_one (s_ret (d_p k_str))) b_nil) (b_cons (s_if (t_n (c_cmp (opk_in (cl := cl) rfl hu2) rfl) na_in.n (n_k (k_op (o_ix (cl := cl) rfl hu (fun _ _ => rfl)) pop_ix (k_var 1) k_int) (n_k (k_var 0) n_nil))) (b_one (s_ret (d_p k_str))) b_nil) (b_one (s_ret (d_call H_window_fault hr (by decide) tk (c_lend (k_var 1) c_nil) (dl_lend dl_nil)))))))
theorem sc_five_of : FnScope N_five_of ["row"] (defScope s_five_of) := ⟨rfl, rfl, rfl, by decide +kernel, rfl, by decide +kernel, by decide +kernel⟩
theorem ok_five_of (hK : cl.K = K) (hX : xf = xfG) (T : Tx cl mg) (Fd : FunD K "five_of" "five_of" (defArgs s_five_of) (defBody s_five_of) (defScope s_five_of) [] [] f fd)  : FnG P w K mg base (L2.CX P w) 1 f fd ["row"] (spF cl xf 1 F_pieces_five_of) := by
  subst hK; subst hX
  refine fn_ok (N := N_five_of) (ws := fun _ => false) (ds := d_pieces_five_of) (io := [false]) Fd sc_five_of rfl (by decide) (fun _ _ => rfl) fun cdv A outer s H E hr => ?_
  have tk := takes_of (X := cxOf (L2.CX P w) P w cl.K mg base N_five_of "five_of" (defScope s_five_of) f cdv A outer s H E) (E := E) rfl rfl rfl rfl
  have hu := huG hr; have hu2 := hu65 hr; have nd := sc_five_of.nd
  exact (b_cons (s_if (t_n (c_cmp (op_eqD hr.units) (nomark _)) g_eq.n (n_v (d_n (b1n (o_len (cl := cl) rfl T.f_len)) g_len.n (n_k (k_var 0) n_nil)) (n_k k_int n_nil))) (b_one (s_ret (d_n (b2n (o_addB (cl := cl) rfl)) na_add.n (n_k (k_var 0) (n_v (d_tup (a_cons (d_p (k_op (o_ix (cl := cl) rfl hu (fun _ _ => rfl)) pop_ix (k_var 0) k_int)) a_nil)) n_nil))))) b_nil) (b_one (s_ret (d_mv 0))))
theorem sc_five_rows : FnScope N_five_rows ["rows"] (defScope s_five_rows) := ⟨rfl, rfl, rfl, by decide +kernel, rfl, by decide +kernel, by decide +kernel⟩
theorem ok_five_rows (hK : cl.K = K) (hX : xf = xfG) (T : Tx cl mg) (Fd : FunD K "five_rows" "five_rows" (defArgs s_five_rows) (defBody s_five_rows) (defScope s_five_rows) [] [] f fd) (H_row_fault : Fn cl xf P w K mg base "row_fault" 4 2 F_pieces_row_fault) (H_five_of : Fn cl xf P w K mg base "five_of" 1 1 F_pieces_five_of) (X_BadPieces : Xc cl xf P w K mg base "BadPieces" 1 1) : FnG P w K mg base (L2.CX P w) 5 f fd ["rows"] (spF cl xf 1 F_pieces_five_rows) := by
  subst hK; subst hX
  refine fn_ok (N := N_five_rows) (ws := fun i => [1, 2, 3, 4].contains i) (ds := d_pieces_five_rows) (io := [false]) Fd sc_five_rows rfl (by decide) (ioOk (by decide)) fun cdv A outer s H E hr => ?_
  have tk := takes_of (X := cxOf (L2.CX P w) P w cl.K mg base N_five_rows "five_rows" (defScope s_five_rows) f cdv A outer s H E) (E := E) rfl rfl rfl rfl
  have hu := huG hr; have hu2 := hu65 hr; have nd := sc_five_rows.nd
  exact (b_cons (s_if (t_not (t_v (d_n (o_isiT (cl := cl) (t1 := "list") (t2 := "tuple") rfl T.f_isinstance T.f_list T.f_tuple (by decide +kernel) (by decide +kernel)) (no_isiT (by decide) (by decide)) (n_k (k_var 0) n_nil)))) (b_one (s_raise X_BadPieces rfl hr (by decide) tk (a_cons (d_p k_non) (a_cons (d_p k_str) a_nil)))) b_nil) (b_cons (s_if (t_n (c_cmp op_gt (nomark _)) g_gt.n (n_v (d_n (b1n (o_len (cl := cl) rfl T.f_len)) g_len.n (n_k (k_var 0) n_nil)) (n_k (k_globE (pa := 0) T.c_MOST_PIECES) n_nil))) (b_one (s_raise X_BadPieces rfl hr (by decide) tk (a_cons (d_p (k_globE (pa := 0) T.c_MOST_PIECES)) (a_cons (d_p k_str) a_nil)))) b_nil) (b_cons (s_set 1 d_dict0 nd) (b_cons (s_for (i_enP (cl := cl) rfl T.f_enumerate (k_var 0)) (g_tup (gs_cons (g_name 2 nd) (gs_cons (g_name 3 nd) gs_nil))) (b_cons (s_set 4 (d_call H_row_fault hr (by decide) tk (c_lend (k_var 1) (c_lend (k_var 3) c_nil)) (dl_lend (dl_lend dl_nil))) nd) (b_cons (s_if (t_notNn (n_k (k_var 4) n_nil)) (b_one (s_raise X_BadPieces rfl hr (by decide) tk (a_cons (d_p (k_var 2)) (a_cons (d_p (k_var 4)) a_nil)))) b_nil) (b_one (s_store hu (pl_var 1) (d_p (k_op (o_ix (cl := cl) rfl hu (fun _ _ => rfl)) pop_ix (k_var 3) k_int)) (d_call H_five_of hr (by decide) tk (c_lend (k_var 3) c_nil) (dl_lend dl_nil)) (hq := fun _ _ h1 h2 => pg_sub h1 h2 (PSet.or' set_list (set_dict hu))))))) (passes_of rfl)) (b_one (s_ret (d_mv 1)))))))
theorem sc_Pieces___init__ : FnScope N_Pieces___init__ ["self", "rows"] (defScope s_Pieces___init__) := ⟨rfl, rfl, rfl, by decide +kernel, rfl, by decide +kernel, by decide +kernel⟩
theorem ok_Pieces___init__ (hK : cl.K = K) (hX : xf = xfG) (T : Tx cl mg) (Fd : FunD K "__init__" "Pieces.__init__" (defArgs s_Pieces___init__) (defBody s_Pieces___init__) (defScope s_Pieces___init__) [] [] f fd) (H_five_rows : Fn cl xf P w K mg base "five_rows" 5 1 F_pieces_five_rows) : FnG P w K mg base (L2.CX P w) 6 f fd ["self", "rows"] (spF cl xf 2 F_pieces_Pieces___init__) := by
  subst hK; subst hX
  refine fn_ok (N := N_Pieces___init__) (ws := fun _ => false) (ds := d_pieces_Pieces___init__) (io := [true, false]) Fd sc_Pieces___init__ rfl (by decide) (fun _ _ => rfl) fun cdv A outer s H E hr => ?_
  have tk := takes_of (X := cxOf (L2.CX P w) P w cl.K mg base N_Pieces___init__ "Pieces.__init__" (defScope s_Pieces___init__) f cdv A outer s H E) (E := E) rfl rfl rfl rfl
  have hu := huG hr; have hu2 := hu65 hr; have nd := sc_Pieces___init__.nd
  exact (b_one (s_fld (cl := cl) rfl T.k_Pieces T.n_Pieces_fives (pl_var 0) (d_call H_five_rows hr (by decide) tk (c_lend (k_var 1) c_nil) (dl_lend dl_nil))))
theorem sc__law_cell : FnScope N__law_cell ["_law_script", "_law_k"] (defScope s__law_cell) := ⟨rfl, rfl, rfl, by decide +kernel, rfl, by decide +kernel, by decide +kernel⟩
theorem ok__law_cell (hK : cl.K = K) (hX : xf = xfG) (T : Tx cl mg) (Fd : FunD K "_law_cell" "_law_cell" (defArgs s__law_cell) (defBody s__law_cell) (defScope s__law_cell) [] [] f fd)  : FnG P w K mg base (L2.CX P w) 1 f fd ["_law_script", "_law_k"] (spF cl xf 2 F_L_law_cell) := by
  subst hK; subst hX
  refine fn_ok (N := N__law_cell) (ws := fun _ => false) (ds := d_L_law_cell) (io := [false, false]) Fd sc__law_cell rfl (by decide) (fun _ _ => rfl) fun cdv A outer s H E hr => ?_
  have tk := takes_of (X := cxOf (L2.CX P w) P w cl.K mg base N__law_cell "_law_cell" (defScope s__law_cell) f cdv A outer s H E) (E := E) rfl rfl rfl rfl
  have hu := huG hr; have hu2 := hu65 hr; have nd := sc__law_cell.nd
  exact (b_cons (s_if (t_n (c_cmp op_lt (nomark _)) g_lt.n (n_k (k_var 1) (n_v (d_n (b1n (o_len (cl := cl) rfl T.f_len)) g_len.n (n_k (k_var 0) n_nil)) n_nil))) (b_one (s_ret (d_p (k_op (o_ix (cl := cl) rfl hu (fun _ _ => rfl)) pop_ix (k_var 0) (k_var 1))))) b_nil) (b_cons (s_if (t_n (c_cmp (op_eqD hr.units) (nomark _)) g_eq.n (n_v (d_n (b1n (o_len (cl := cl) rfl T.f_len)) g_len.n (n_k (k_var 0) n_nil)) (n_k k_int n_nil))) (b_one (s_ret (d_n (b2n (o_addB (cl := cl) rfl)) na_add.n (n_v (d_n (b2n o_mulA) na_mul.n (n_k k_int (n_k (k_var 1) n_nil))) (n_k k_int n_nil))))) b_nil) (b_one (s_ret (d_n (b2n (o_addB (cl := cl) rfl)) na_add.n (n_v (d_n (b2n o_div) g_div.n (n_v (d_n (b2n (o_ix (cl := cl) rfl hu (fun _ _ => rfl))) g_ix.n (n_k (k_var 0) (n_v (d_n (b2n o_mod) g_mod.n (n_k (k_var 1) (n_v (d_n (b1n (o_len (cl := cl) rfl T.f_len)) g_len.n (n_k (k_var 0) n_nil)) n_nil))) n_nil))) (n_v (d_n (b2n (o_addB (cl := cl) rfl)) na_add.n (n_k (k_var 1) (n_k k_int n_nil))) n_nil))) (n_v (d_n (b2n o_mulA) na_mul.n (n_k k_int (n_k (k_var 1) n_nil))) n_nil)))))))
theorem sc__law_take : FnScope N__law_take ["_law_box_here", "_law_many"] (defScope s__law_take) := ⟨rfl, rfl, rfl, by decide +kernel, rfl, by decide +kernel, by decide +kernel⟩
theorem ok__law_take (hK : cl.K = K) (hX : xf = xfG) (T : Tx cl mg) (Fd : FunD K "_law_take" "_law_take" (defArgs s__law_take) (defBody s__law_take) (defScope s__law_take) [] [] f fd)  : FnG P w K mg base (L2.CX P w) 1 f fd ["_law_box_here", "_law_many"] (spF cl xf 2 F_L_law_take) := by
  subst hK; subst hX
  refine fn_ok (N := N__law_take) (ws := fun i => [2, 3].contains i) (ds := d_L_law_take) (io := [true, false]) Fd sc__law_take rfl (by decide) (ioOk (by decide)) fun cdv A outer s H E hr => ?_
  have tk := takes_of (X := cxOf (L2.CX P w) P w cl.K mg base N__law_take "_law_take" (defScope s__law_take) f cdv A outer s H E) (E := E) rfl rfl rfl rfl
  have hu := huG hr; have hu2 := hu65 hr; have nd := sc__law_take.nd
  exact (b_cons (s_if (t_n (c_cmp op_gt (nomark _)) g_gt.n (n_k (k_op (o_ix (cl := cl) rfl hu (fun _ _ => rfl)) pop_ix (k_var 0) k_int) (n_k k_int n_nil))) (b_cons (s_set 2 (d_n (b2n o_mod) g_mod.n (n_k (k_op (o_ix (cl := cl) rfl hu (fun _ _ => rfl)) pop_ix (k_var 0) k_int) (n_k (k_var 1) n_nil))) nd) (b_cons (s_store hu (pl_var 0) (d_p k_int) (d_n (b2n o_div) g_div.n (n_k (k_op (o_ix (cl := cl) rfl hu (fun _ _ => rfl)) pop_ix (k_var 0) k_int) (n_k (k_var 1) n_nil))) (hq := fun _ _ h1 h2 => pg_sub h1 h2 (PSet.or' set_list (set_dict hu)))) (b_one (s_ret (d_mv 2))))) b_nil) (b_cons (s_store hu (pl_var 0) (d_p k_int) (d_n (b2n (o_addB (cl := cl) rfl)) na_add.n (n_k (k_op (o_ix (cl := cl) rfl hu (fun _ _ => rfl)) pop_ix (k_var 0) k_int) (n_k k_int n_nil))) (hq := fun _ _ h1 h2 => pg_sub h1 h2 (PSet.or' set_list (set_dict hu)))) (b_cons (s_set 3 (d_n (b2n o_mod) g_mod.n (n_v (d_n (b2n (o_addB (cl := cl) rfl)) na_add.n (n_v (d_n (b2n (o_addB (cl := cl) rfl)) na_add.n (n_v (d_n (b2n o_mulA) na_mul.n (n_k (k_op (o_ix (cl := cl) rfl hu (fun _ _ => rfl)) pop_ix (k_var 0) k_int) (n_k k_int n_nil))) (n_v (d_n (b2n o_mulA) na_mul.n (n_k k_int (n_k (k_op (o_ix (cl := cl) rfl hu (fun _ _ => rfl)) pop_ix (k_var 0) k_int) n_nil))) n_nil))) (n_k k_int n_nil))) (n_k k_int n_nil))) nd) (b_cons (s_set 3 (d_n (b2n o_mod) g_mod.n (n_v (d_n (b2n o_mulA) na_mul.n (n_v (d_n (b2n o_mod) g_mod.n (n_v (d_n (b2n o_mulA) na_mul.n (n_k (k_var 3) (n_k (k_var 3) n_nil))) (n_k k_int n_nil))) (n_k k_int n_nil))) (n_k k_int n_nil))) nd) (b_one (s_ret (d_n (b2n o_mod) g_mod.n (n_v (d_n (b2n o_div) g_div.n (n_v (d_n (b2n o_mod) g_mod.n (n_v (d_n (b2n o_mulA) na_mul.n (n_k (k_var 3) (n_k (k_var 3) n_nil))) (n_k k_int n_nil))) (n_k k_int n_nil))) (n_k (k_var 1) n_nil)))))))))
theorem sc__law_alike : FnScope N__law_alike ["_law_box_here", "_law_rows_here"] (defScope s__law_alike) := ⟨rfl, rfl, rfl, by decide +kernel, rfl, by decide +kernel, by decide +kernel⟩
theorem ok__law_alike (hK : cl.K = K) (hX : xf = xfG) (T : Tx cl mg) (Fd : FunD K "_law_alike" "_law_alike" (defArgs s__law_alike) (defBody s__law_alike) (defScope s__law_alike) [] [] f fd) (H__law_take : Fn cl xf P w K mg base "_law_take" 1 2 F_L_law_take) : FnG P w K mg base (L2.CX P w) 2 f fd ["_law_box_here", "_law_rows_here"] (spF cl xf 2 F_L_law_alike) := by
  subst hK; subst hX
  refine fn_ok (N := N__law_alike) (ws := fun i => [2].contains i) (ds := d_L_law_alike) (io := [true, false]) Fd sc__law_alike rfl (by decide) (ioOk (by decide)) fun cdv A outer s H E hr => ?_
  have tk := takes_of (X := cxOf (L2.CX P w) P w cl.K mg base N__law_alike "_law_alike" (defScope s__law_alike) f cdv A outer s H E) (E := E) rfl rfl rfl rfl
  have hu := huG hr; have hu2 := hu65 hr; have nd := sc__law_alike.nd
  exact (b_cons (s_if (t_ni (c_cmp op_gt (nomark _)) g_gt.n (z_v (d_io H__law_take hr (by decide) tk (q_o 0 (q_val (d_p k_int) q_nil)) rfl) (z_v (d_p k_int) z_nil))) (b_one (s_ret (d_mv 1))) b_nil) (b_cons (s_set 2 (d_ni (b2n (o_ix (cl := cl) rfl hu (fun _ _ => rfl))) g_ix.n (z_v (d_lst (a_cons (d_p k_int) (a_cons (d_p k_int) (a_cons (d_p k_int) a_nil)))) (z_v (d_io H__law_take hr (by decide) tk (q_o 0 (q_val (d_p k_int) q_nil)) rfl) z_nil))) nd) (b_one (s_ret (d_lc (own := [("_law_row", 3)]) (i_anyD (cl := cl) rfl (d_fz 1)) (blkOk_by (own := [("_law_row", 3)]) (N := N__law_alike) (sc := defScope s__law_alike) (by decide +kernel)) (tgIn_name (by simp)) (uni_g fun _ _ _ _ _ => g_name 3 nd (by rfl)) uni_y (uni_e fun _ _ _ _ _ => (d_ni (b2n (o_addB (cl := cl) rfl)) na_add.n (z_v (d_tup (a_cons (d_p (k_op (o_ix (cl := cl) rfl hu (fun _ _ => rfl)) pop_ix (k_var 3) k_int)) (a_cons (d_n (b2n (o_min T.f_min)) g_min.n (n_k (k_op (o_ix (cl := cl) rfl hu (fun _ _ => rfl)) pop_ix (k_var 3) k_int) (n_v (d_n (b2n (o_addB (cl := cl) rfl)) na_add.n (n_k (k_var 2) (n_k k_int n_nil))) n_nil))) (a_cons (d_ni (b2n (o_ix (cl := cl) rfl hu (fun _ _ => rfl))) g_ix.n (z_v (d_lst (a_cons (d_p (k_var 2)) (a_cons (d_p (k_op (o_ix (cl := cl) rfl hu (fun _ _ => rfl)) pop_ix (k_var 3) k_int)) a_nil))) (z_v (d_io H__law_take hr (by decide) takes0 (q_o 0 (q_val (d_p k_int) q_nil)) rfl) z_nil))) a_nil)))) (z_v (d_sl (cl := cl) rfl (rb_k (k_var 3)) (ro_k k_int) ro_none) z_nil)))) nd)))))
theorem sc_Pieces_told : FnScope N_Pieces_told ["self"] (defScope s_Pieces_told) := ⟨rfl, rfl, rfl, by decide +kernel, rfl, by decide +kernel, by decide +kernel⟩
theorem ok_Pieces_told (hK : cl.K = K) (hX : xf = xfG) (T : Tx cl mg) (Fd : FunD K "told" "Pieces.told" (defArgs s_Pieces_told) (defBody s_Pieces_told) (defScope s_Pieces_told) [] [] f fd)  : FnG P w K mg base (L2.CX P w) 1 f fd ["self"] (spF cl xf 1 F_pieces_Pieces_told) := by
  subst hK; subst hX
  refine fn_ok (N := N_Pieces_told) (ws := fun _ => false) (ds := d_pieces_Pieces_told) (io := [false]) Fd sc_Pieces_told rfl (by decide) (fun _ _ => rfl) fun cdv A outer s H E hr => ?_
  have tk := takes_of (X := cxOf (L2.CX P w) P w cl.K mg base N_Pieces_told "Pieces.told" (defScope s_Pieces_told) f cdv A outer s H E) (E := E) rfl rfl rfl rfl
  have hu := huG hr; have hu2 := hu65 hr; have nd := sc_Pieces_told.nd
  exact (b_one (s_ret (d_n (bn_valsT T.f_tuple) na_valsT.n (n_k (k_un o_fld (pun_fld T.k_Pieces T.n_Pieces_fives) (k_var 0)) n_nil))))
theorem sc_Pieces_has : FnScope N_Pieces_has ["self", "thing"] (defScope s_Pieces_has) := ⟨rfl, rfl, rfl, by decide +kernel, rfl, by decide +kernel, by decide +kernel⟩
theorem ok_Pieces_has (hK : cl.K = K) (hX : xf = xfG) (T : Tx cl mg) (Fd : FunD K "has" "Pieces.has" (defArgs s_Pieces_has) (defBody s_Pieces_has) (defScope s_Pieces_has) [] [] f fd)  : FnG P w K mg base (L2.CX P w) 1 f fd ["self", "thing"] (spF cl xf 2 F_pieces_Pieces_has) := by
  subst hK; subst hX
  refine fn_ok (N := N_Pieces_has) (ws := fun _ => false) (ds := d_pieces_Pieces_has) (io := [false, false]) Fd sc_Pieces_has rfl (by decide) (fun _ _ => rfl) fun cdv A outer s H E hr => ?_
  have tk := takes_of (X := cxOf (L2.CX P w) P w cl.K mg base N_Pieces_has "Pieces.has" (defScope s_Pieces_has) f cdv A outer s H E) (E := E) rfl rfl rfl rfl
  have hu := huG hr; have hu2 := hu65 hr; have nd := sc_Pieces_has.nd
  exact (b_one (s_ret (d_and (d_n (b1n (o_isi (T := "str") T.f_isinstance T.f_str (by decide +kernel))) (g_isi (by decide)).n (n_k (k_var 1) n_nil)) (d_one (d_n (b2n (o_cmp (opk_in (cl := cl) rfl hu2) rfl)) na_in.n (n_k (k_var 1) (n_k (k_un o_fld (pun_fld T.k_Pieces T.n_Pieces_fives) (k_var 0)) n_nil)))))))
theorem sc_Pieces_row : FnScope N_Pieces_row ["self", "name"] (defScope s_Pieces_row) := ⟨rfl, rfl, rfl, by decide +kernel, rfl, by decide +kernel, by decide +kernel⟩
theorem ok_Pieces_row (hK : cl.K = K) (hX : xf = xfG) (T : Tx cl mg) (Fd : FunD K "row" "Pieces.row" (defArgs s_Pieces_row) (defBody s_Pieces_row) (defScope s_Pieces_row) [] [] f fd) (M_Pieces_has : Mt cl xf P w K mg base 20 "has" 1 2 F_pieces_Pieces_has) (X_NoPiece : Xc cl xf P w K mg base "NoPiece" 3 1) : FnG P w K mg base (L2.CX P w) 3 f fd ["self", "name"] (spF cl xf 2 F_pieces_Pieces_row) := by
  subst hK; subst hX
  refine fn_ok (N := N_Pieces_row) (ws := fun _ => false) (ds := d_pieces_Pieces_row) (io := [false, false]) Fd sc_Pieces_row rfl (by decide) (fun _ _ => rfl) fun cdv A outer s H E hr => ?_
  have tk := takes_of (X := cxOf (L2.CX P w) P w cl.K mg base N_Pieces_row "Pieces.row" (defScope s_Pieces_row) f cdv A outer s H E) (E := E) rfl rfl rfl rfl
  have hu := huG hr; have hu2 := hu65 hr; have nd := sc_Pieces_row.nd
  exact (b_cons (s_if (t_not (t_v (d_methP M_Pieces_has hr (by decide) tk (k_var 0) (c_lend (k_var 1) c_nil) (dl_lend (dl_lend dl_nil))))) (b_one (s_raise X_NoPiece rfl hr (by decide) tk (a_cons (d_p (k_var 1)) a_nil))) b_nil) (b_one (s_ret (d_p (k_op (o_ix (cl := cl) rfl hu (fun _ _ => rfl)) pop_ix (k_un o_fld (pun_fld T.k_Pieces T.n_Pieces_fives) (k_var 0)) (k_var 1))))))
theorem sc_ahead_of : FnScope N_ahead_of ["pieces", "name"] (defScope s_ahead_of) := ⟨rfl, rfl, rfl, by decide +kernel, rfl, by decide +kernel, by decide +kernel⟩
theorem ok_ahead_of (hK : cl.K = K) (hX : xf = xfG) (T : Tx cl mg) (Fd : FunD K "ahead_of" "ahead_of" (defArgs s_ahead_of) (defBody s_ahead_of) (defScope s_ahead_of) [] [] f fd) (M_Pieces_row : Mt cl xf P w K mg base 20 "row" 3 2 F_pieces_Pieces_row) (M_Pieces_told : Mt cl xf P w K mg base 20 "told" 1 1 F_pieces_Pieces_told) : FnG P w K mg base (L2.CX P w) 4 f fd ["pieces", "name"] (spF cl xf 2 F_worst_ahead_of) := by
  subst hK; subst hX
  refine fn_ok (N := N_ahead_of) (ws := fun i => [2, 3, 4, 5].contains i) (ds := d_worst_ahead_of) (io := [false, false]) Fd sc_ahead_of rfl (by decide) (ioOk (by decide)) fun cdv A outer s H E hr => ?_
  have tk := takes_of (X := cxOf (L2.CX P w) P w cl.K mg base N_ahead_of "ahead_of" (defScope s_ahead_of) f cdv A outer s H E) (E := E) rfl rfl rfl rfl
  have hu := huG hr; have hu2 := hu65 hr; have nd := sc_ahead_of.nd
  exact (b_cons (s_set 2 (d_n (b2n (o_ix (cl := cl) rfl hu (fun _ _ => rfl))) g_ix.n (n_v (d_methP M_Pieces_row hr (by decide) tk (k_var 0) (c_lend (k_var 1) c_nil) (dl_lend (dl_lend dl_nil))) (n_k k_int n_nil))) nd) (b_cons (s_set 3 (d_lst a_nil) nd) (b_cons (s_set 4 (d_p k_bl) nd) (b_cons (s_for (i_anyD (cl := cl) rfl (d_meth0P M_Pieces_told hr (by decide) tk (k_var 0) (dl_lend dl_nil))) (g_name 5 nd) (b_cons (s_set 4 (d_or (d_p (k_var 4)) (d_one (d_n (b2n (o_cmp (op_eqD hr.units) (nomark _))) g_eq.n (n_k (k_op (o_ix (cl := cl) rfl hu (fun _ _ => rfl)) pop_ix (k_var 5) k_int) (n_k (k_var 1) n_nil))))) nd) (b_one (s_if (t_w (w_or (t_n (c_cmp op_lt (nomark _)) g_lt.n (n_k (k_op (o_ix (cl := cl) rfl hu (fun _ _ => rfl)) pop_ix (k_var 5) k_int) (n_k (k_var 2) n_nil))) (w_or1 (t_w (w_and (t_n (c_cmp (op_eqD hr.units) (nomark _)) g_eq.n (n_k (k_op (o_ix (cl := cl) rfl hu (fun _ _ => rfl)) pop_ix (k_var 5) k_int) (n_k (k_var 2) n_nil))) (w_and1 (t_not (t_v (d_p (k_var 4)))))))))) (b_one (s_expr (d_app 3 (d_p (k_op (o_ix (cl := cl) rfl hu (fun _ _ => rfl)) pop_ix (k_var 5) k_int)) (hq := fun _ h => pe_bm PySem.F.plainAttrs_list PySem.F.slot_list_append PySem.F.type_list_append mt_append (pv 3) (pa_cons h pa_nil))))) b_nil))) (passes_of rfl)) (b_one (s_ret (d_mv 3)))))))
theorem sc__law_refused : FnScope N__law_refused ["_law_pieces", "_law_thing"] (defScope s__law_refused) := ⟨rfl, rfl, rfl, by decide +kernel, rfl, by decide +kernel, by decide +kernel⟩
theorem ok__law_refused (hK : cl.K = K) (hX : xf = xfG) (T : Tx cl mg) (Fd : FunD K "_law_refused" "_law_refused" (defArgs s__law_refused) (defBody s__law_refused) (defScope s__law_refused) [] [] f fd) (H_ahead_of : Fn cl xf P w K mg base "ahead_of" 4 2 F_worst_ahead_of) : FnG P w K mg base (L2.CX P w) 5 f fd ["_law_pieces", "_law_thing"] (spF cl xf 2 F_L_law_refused) := by
  subst hK; subst hX
  refine fn_ok (N := N__law_refused) (ws := fun i => [2, 3].contains i) (ds := d_L_law_refused) (io := [false, false]) Fd sc__law_refused rfl (by decide) (ioOk (by decide)) fun cdv A outer s H E hr => ?_
  have tk := takes_of (X := cxOf (L2.CX P w) P w cl.K mg base N__law_refused "_law_refused" (defScope s__law_refused) f cdv A outer s H E) (E := E) rfl rfl rfl rfl
  have hu := huG hr; have hu2 := hu65 hr; have nd := sc__law_refused.nd
  exact (b_cons (s_set 2 (d_p k_non) nd) (b_cons (s_try (n := (fun c => [3].contains c)) rfl tk nd (fun W' pn xe tk po => (b_one (s_expr (d_call H_ahead_of hr (by decide) tk (c_lend (k_var 0) (c_lend (k_var 1) c_nil)) (dl_lend (dl_lend dl_nil)))))) (.cons (hc_as (k := 3) (m := (fun c => [3].contains c)) ⟨rfl, by decide, .inl T.g_NoPiece⟩ rfl rfl rfl (is_cons T.ex_NoPiece_NoPiece is_nil) (fun a oe cls d pn hz hd => (qss_one (qs_set 2 (qe_p (qk_un (o_repr (cl := cl) rfl hr.g hr.units T.f_repr) pun_repr (qk_fld 3 3 0 T.xf_NoPiece T.xn_NoPiece_found hz hd (one_of (by decide))))) nd)))) Hcs.nil)) (b_one (s_ret (d_n (b2n (o_cmp op_eq (nomark _))) g_eqTx.n (n_k (k_var 2) (n_v (d_n (b1n (o_repr (cl := cl) rfl hr.g hr.units T.f_repr)) g_repr.n (n_k (k_var 1) n_nil)) n_nil)))))))
theorem sc__law_names : FnScope N__law_names ["_law_box_here", "_law_many"] (defScope s__law_names) := ⟨rfl, rfl, rfl, by decide +kernel, rfl, by decide +kernel, by decide +kernel⟩
theorem ok__law_names (hK : cl.K = K) (hX : xf = xfG) (T : Tx cl mg) (Fd : FunD K "_law_names" "_law_names" (defArgs s__law_names) (defBody s__law_names) (defScope s__law_names) [] [] f fd) (H__law_take : Fn cl xf P w K mg base "_law_take" 1 2 F_L_law_take) : FnG P w K mg base (L2.CX P w) 2 f fd ["_law_box_here", "_law_many"] (spF cl xf 2 F_L_law_names_2) := by
  subst hK; subst hX
  refine fn_ok (N := N__law_names) (ws := fun i => [2, 3, 4, 5, 6, 7, 8, 9].contains i) (ds := d_L_law_names_2) (io := [true, false]) Fd sc__law_names rfl (by decide) (ioOk (by decide)) fun cdv A outer s H E hr => ?_
  have tk := takes_of (X := cxOf (L2.CX P w) P w cl.K mg base N__law_names "_law_names" (defScope s__law_names) f cdv A outer s H E) (E := E) rfl rfl rfl rfl
  have hu := huG hr; have hu2 := hu65 hr; have nd := sc__law_names.nd
  exact (b_cons (s_set 2 (d_p k_str) nd) (b_cons (s_set 3 (d_lst (a_cons (d_p k_str) (a_cons (d_p k_str) (a_cons (d_p k_str) (a_cons (d_p k_str) (a_cons (d_p k_str) (a_cons (d_p k_str) (a_cons (d_p k_str) (a_cons (d_p k_str) (a_cons (d_p k_str) (a_cons (d_p k_str) (a_cons (d_p k_str) (a_cons (d_p k_str) (a_cons (d_p k_str) (a_cons (d_p k_str) a_nil))))))))))))))) nd) (b_cons (s_if (t_w (w_and (t_n (c_cmp op_lt (nomark _)) g_lt.n (n_k (k_var 1) (n_k k_int n_nil))) (w_and1 (t_ni (c_cmp (op_eqD hr.units) (nomark _)) g_eq.n (z_v (d_io H__law_take hr (by decide) tk (q_o 0 (q_val (d_p k_int) q_nil)) rfl) (z_v (d_p k_int) z_nil)))))) (b_cons (s_set 4 (d_io H__law_take hr (by decide) tk (q_o 0 (q_val (d_p k_int) q_nil)) rfl) nd) (b_one (s_ret (d_lcP (own := [("_law_k", 5)]) (i_range1 T.f_range (d_p (k_var 1))) (blkOk_by (own := [("_law_k", 5)]) (N := N__law_names) (sc := defScope s__law_names) (by decide +kernel)) (tgIn_name (by simp)) (uni_g fun _ _ _ _ _ => g_name 5 nd (by rfl)) uni_y (uni_e fun _ _ _ _ _ => (d_n (b2n (o_ix (cl := cl) rfl hu (fun _ _ => rfl))) g_ix.n (n_k (k_var 3) (n_v (d_n (b2n o_mod) g_mod.n (n_v (d_n (b2n (o_addB (cl := cl) rfl)) na_add.n (n_k (k_var 4) (n_v (d_n (b2n o_mulA) na_mul.n (n_k k_int (n_k (k_var 5) n_nil))) n_nil))) (n_k k_int n_nil))) n_nil)))) nd)))) b_nil) (b_cons (s_set 6 (d_ni (b1n o_join) g_join.n (z_v (d_lc (own := [("_law_k", 5)]) (i_range1 T.f_range (d_io H__law_take hr (by decide) tk (q_o 0 (q_val (d_p k_int) q_nil)) rfl)) (blkOk_by (own := [("_law_k", 5)]) (N := N__law_names) (sc := defScope s__law_names) (by decide +kernel)) (tgIn_name (by simp)) (uni_g fun _ _ _ _ _ => g_name 5 nd (by rfl)) uni_y (uni_e fun _ _ _ _ _ => (d_ni (b2n (o_ix (cl := cl) rfl hu (fun _ _ => rfl))) g_ix.n (z_l 2 (z_v (d_io H__law_take hr (by decide) takes0 (q_o 0 (q_val (d_p k_int) q_nil)) rfl) z_nil)))) nd) z_nil)) nd) (b_cons (s_set 4 (d_io H__law_take hr (by decide) tk (q_o 0 (q_val (d_n (b2n (o_addB (cl := cl) rfl)) na_add.n (n_v (d_n (b1n (o_len (cl := cl) rfl T.f_len)) g_len.n (n_k (k_var 6) n_nil)) (n_k k_int n_nil))) q_nil)) rfl) nd) (b_cons (s_set 7 (d_io H__law_take hr (by decide) tk (q_o 0 (q_val (d_p k_int) q_nil)) rfl) nd) (b_cons (s_set 8 (d_lst a_nil) nd) (b_cons (s_for (i_range1 T.f_range (d_p (k_var 1))) (g_name 5 nd) (b_cons (s_set 9 (d_n (b2n (o_addB (cl := cl) rfl)) na_add.n (n_v (d_n (b2n (o_ix (cl := cl) rfl hu (fun _ _ => rfl))) g_ix.n (n_k (k_var 2) (n_v (d_n (b2n o_mod) g_mod.n (n_v (d_n (b2n (o_addB (cl := cl) rfl)) na_add.n (n_k (k_var 7) (n_v (d_n (b2n o_mulA) na_mul.n (n_k k_int (n_k (k_var 5) n_nil))) n_nil))) (n_k k_int n_nil))) n_nil))) (n_v (d_sl (cl := cl) rfl (rb_k k_str) (ro_v (d_n (b2n o_div) g_div.n (n_k (k_var 5) (n_k k_int n_nil)))) ro_none) n_nil))) nd) (b_cons (s_set 9 (d_sl (cl := cl) rfl (rb_k (k_var 9)) ro_none (ro_v (d_n (b2n (o_addB (cl := cl) rfl)) na_add.n (n_k k_int (n_v (d_n (b2n o_div) g_div.n (n_k (k_var 5) (n_k k_int n_nil))) n_nil))))) nd) (b_one (s_expr (d_app 8 (d_n (b2n (o_addB (cl := cl) rfl)) na_add.n (n_v (d_n (b2n (o_addB (cl := cl) rfl)) na_add.n (n_v (d_n (b2n (o_addB (cl := cl) rfl)) na_add.n (n_v (d_sl (cl := cl) rfl (rb_k (k_var 6)) ro_none (ro_k (k_var 4))) (n_k (k_var 9) n_nil))) (n_v (d_sl (cl := cl) rfl (rb_k (k_var 6)) (ro_k (k_var 4)) ro_none) n_nil))) (n_v (d_sl (cl := cl) rfl (rb_k k_str) ro_none (ro_v (d_n (b2n o_mod) g_mod.n (n_k (k_var 5) (n_k k_int n_nil))))) n_nil))) (hq := fun _ h => pe_bm PySem.F.plainAttrs_list PySem.F.slot_list_append PySem.F.type_list_append mt_append (pv 8) (pa_cons h pa_nil))))))) (passes_of rfl)) (b_one (s_ret (d_mv 8)))))))))))
theorem sc__law_rows : FnScope N__law_rows ["_law_box_here", "_law_most"] (defScope s__law_rows) := ⟨rfl, rfl, rfl, by decide +kernel, rfl, by decide +kernel, by decide +kernel⟩
theorem ok__law_rows (hK : cl.K = K) (hX : xf = xfG) (T : Tx cl mg) (Fd : FunD K "_law_rows" "_law_rows" (defArgs s__law_rows) (defBody s__law_rows) (defScope s__law_rows) [] [] f fd) (H__law_take : Fn cl xf P w K mg base "_law_take" 1 2 F_L_law_take) (H__law_names : Fn cl xf P w K mg base "_law_names" 2 2 F_L_law_names_2) : FnG P w K mg base (L2.CX P w) 3 f fd ["_law_box_here", "_law_most"] (spF cl xf 2 F_L_law_rows_2) := by
  subst hK; subst hX
  refine fn_ok (N := N__law_rows) (ws := fun i => [2, 3, 4, 5, 6, 7, 8, 9].contains i) (ds := d_L_law_rows_2) (io := [true, false]) Fd sc__law_rows rfl (by decide) (ioOk (by decide)) fun cdv A outer s H E hr => ?_
  have tk := takes_of (X := cxOf (L2.CX P w) P w cl.K mg base N__law_rows "_law_rows" (defScope s__law_rows) f cdv A outer s H E) (E := E) rfl rfl rfl rfl
  have hu := huG hr; have hu2 := hu65 hr; have nd := sc__law_rows.nd
  exact (b_cons (s_set 2 (d_ni (b2n (o_ix (cl := cl) rfl hu (fun _ _ => rfl))) g_ix.n (z_v (d_lst (a_cons (d_p k_int) (a_cons (d_p k_int) (a_cons (d_p k_int) (a_cons (d_p k_int) a_nil))))) (z_v (d_io H__law_take hr (by decide) tk (q_o 0 (q_val (d_p k_int) q_nil)) rfl) z_nil))) nd) (b_cons (s_set 3 (d_ni (b2n (o_ix (cl := cl) rfl hu (fun _ _ => rfl))) g_ix.n (z_v (d_lst (a_cons (d_p k_int) (a_cons (d_p k_int) (a_cons (d_p k_int) a_nil)))) (z_v (d_io H__law_take hr (by decide) tk (q_o 0 (q_val (d_p k_int) q_nil)) rfl) z_nil))) nd) (b_cons (s_set 4 (d_lst a_nil) nd) (b_cons (s_for (i_anyD (cl := cl) rfl (d_io H__law_names hr (by decide) tk (q_o 0 (q_val (d_ni (b2n (o_max T.f_max)) g_max.n (z_v (d_io H__law_take hr (by decide) tk (q_o 0 (q_val (d_n (b2n (o_addB (cl := cl) rfl)) na_add.n (n_k (k_var 1) (n_k k_int n_nil))) q_nil)) rfl) (z_v (d_io H__law_take hr (by decide) tk (q_o 0 (q_val (d_n (b2n (o_addB (cl := cl) rfl)) na_add.n (n_k (k_var 1) (n_k k_int n_nil))) q_nil)) rfl) z_nil))) q_nil)) rfl)) (g_name 5 nd) (b_cons (s_set 6 (d_io H__law_take hr (by decide) tk (q_o 0 (q_l 2 q_nil)) rfl) nd) (b_cons (s_set 7 (d_ni (b2n (o_min T.f_min)) g_min.n (z_v (d_p k_int) (z_v (d_ni (b2n (o_addB (cl := cl) rfl)) na_add.n (z_l 6 (z_v (d_ni (b2n (o_ix (cl := cl) rfl hu (fun _ _ => rfl))) g_ix.n (z_v (d_lst (a_cons (d_io H__law_take hr (by decide) tk (q_o 0 (q_val (d_p k_int) q_nil)) rfl) (a_cons (d_io H__law_take hr (by decide) tk (q_o 0 (q_l 2 q_nil)) rfl) (a_cons (d_p k_int) a_nil)))) (z_v (d_io H__law_take hr (by decide) tk (q_o 0 (q_val (d_p k_int) q_nil)) rfl) z_nil))) z_nil))) z_nil))) nd) (b_cons (s_if (t_ni (c_cmp (op_eqD hr.units) (nomark _)) g_eq.n (z_v (d_io H__law_take hr (by decide) tk (q_o 0 (q_val (d_p k_int) q_nil)) rfl) (z_v (d_p k_int) z_nil))) (b_one (s_set 6 (d_n (b2n (o_addB (cl := cl) rfl)) na_add.n (n_k (k_var 7) (n_k k_int n_nil))) nd)) b_nil) (b_cons (s_set 8 (d_ni (b2n (o_addB (cl := cl) rfl)) na_add.n (z_v (d_p k_int) (z_v (d_io H__law_take hr (by decide) tk (q_o 0 (q_l 3 q_nil)) rfl) z_nil))) nd) (b_cons (s_set 9 (d_ni (b2n (o_ix (cl := cl) rfl hu (fun _ _ => rfl))) g_ix.n (z_v (d_lst (a_cons (d_p (k_var 8)) (a_cons (d_p (k_var 8)) (a_cons (d_io H__law_take hr (by decide) tk (q_o 0 (q_val (d_n (b2n (o_addB (cl := cl) rfl)) na_add.n (n_k (k_var 8) (n_k k_int n_nil))) q_nil)) rfl) (a_cons (d_p k_int) a_nil))))) (z_v (d_io H__law_take hr (by decide) tk (q_o 0 (q_val (d_p k_int) q_nil)) rfl) z_nil))) nd) (b_one (s_expr (d_app 4 (d_tup (a_cons (d_p (k_var 5)) (a_cons (d_p (k_var 6)) (a_cons (d_p (k_var 7)) (a_cons (d_p (k_var 8)) (a_cons (d_p (k_var 9)) a_nil)))))) (hq := fun _ h => pe_bm PySem.F.plainAttrs_list PySem.F.slot_list_append PySem.F.type_list_append mt_append (pv 4) (pa_cons h pa_nil)))))))))) (passes_of rfl)) (b_one (s_ret (d_mv 4)))))))
theorem sc__law_drawn : FnScope N__law_drawn ["_law_box_here", "_law_k", "_law_most"] (defScope s__law_drawn) := ⟨rfl, rfl, rfl, by decide +kernel, rfl, by decide +kernel, by decide +kernel⟩
theorem ok__law_drawn (hK : cl.K = K) (hX : xf = xfG) (T : Tx cl mg) (Fd : FunD K "_law_drawn" "_law_drawn" (defArgs s__law_drawn) (defBody s__law_drawn) (defScope s__law_drawn) [] [] f fd) (H__law_rows : Fn cl xf P w K mg base "_law_rows" 3 2 F_L_law_rows_2) (H__law_take : Fn cl xf P w K mg base "_law_take" 1 2 F_L_law_take) : FnG P w K mg base (L2.CX P w) 4 f fd ["_law_box_here", "_law_k", "_law_most"] (spF cl xf 3 F_L_law_drawn_2) := by
  subst hK; subst hX
  refine fn_ok (N := N__law_drawn) (ws := fun _ => false) (ds := d_L_law_drawn_2) (io := [true, false, false]) Fd sc__law_drawn rfl (by decide) (fun _ _ => rfl) fun cdv A outer s H E hr => ?_
  have tk := takes_of (X := cxOf (L2.CX P w) P w cl.K mg base N__law_drawn "_law_drawn" (defScope s__law_drawn) f cdv A outer s H E) (E := E) rfl rfl rfl rfl
  have hu := huG hr; have hu2 := hu65 hr; have nd := sc__law_drawn.nd
  exact (b_one (s_ret (d_io H__law_rows hr (by decide) tk (q_o 0 (q_val (d_ni (b2n (o_ix (cl := cl) rfl hu (fun _ _ => rfl))) g_ix.n (z_v (d_lst (a_cons (d_p (k_var 2)) (a_cons (d_p k_int) a_nil))) (z_v (d_ni (b1n (o_int T.f_int)) g_int.n (z_v (d_and (d_n (b2n (o_cmp (op_eqD hr.units) (nomark _))) g_eq.n (n_k (k_var 1) (n_k k_int n_nil))) (d_one (d_ni (b2n (o_cmp (op_eqD hr.units) (nomark _))) g_eq.n (z_v (d_io H__law_take hr (by decide) tk (q_o 0 (q_val (d_p k_int) q_nil)) rfl) (z_v (d_p k_int) z_nil))))) z_nil)) z_nil))) q_nil)) rfl)))
theorem sc__law_ahead : FnScope N__law_ahead ["_law_rows_here", "_law_k"] (defScope s__law_ahead) := ⟨rfl, rfl, rfl, by decide +kernel, rfl, by decide +kernel, by decide +kernel⟩
theorem ok__law_ahead (hK : cl.K = K) (hX : xf = xfG) (T : Tx cl mg) (Fd : FunD K "_law_ahead" "_law_ahead" (defArgs s__law_ahead) (defBody s__law_ahead) (defScope s__law_ahead) [] [] f fd)  : FnG P w K mg base (L2.CX P w) 1 f fd ["_law_rows_here", "_law_k"] (spF cl xf 2 F_L_law_ahead) := by
  subst hK; subst hX
  refine fn_ok (N := N__law_ahead) (ws := fun i => [2, 3, 4].contains i) (ds := d_L_law_ahead) (io := [false, false]) Fd sc__law_ahead rfl (by decide) (ioOk (by decide)) fun cdv A outer s H E hr => ?_
  have tk := takes_of (X := cxOf (L2.CX P w) P w cl.K mg base N__law_ahead "_law_ahead" (defScope s__law_ahead) f cdv A outer s H E) (E := E) rfl rfl rfl rfl
  have hu := huG hr; have hu2 := hu65 hr; have nd := sc__law_ahead.nd
  exact (b_cons (s_set 2 (d_lst a_nil) nd) (b_cons (s_for (i_enP (cl := cl) rfl T.f_enumerate (k_var 0)) (g_tup (gs_cons (g_name 3 nd) (gs_cons (g_name 4 nd) gs_nil))) (b_one (s_if (t_w (w_or (t_n (c_cmp op_lt (nomark _)) g_lt.n (n_k (k_op (o_ix (cl := cl) rfl hu (fun _ _ => rfl)) pop_ix (k_var 4) k_int) (n_k (k_op (o_ix (cl := cl) rfl hu (fun _ _ => rfl)) pop_ix (k_op (o_ix (cl := cl) rfl hu (fun _ _ => rfl)) pop_ix (k_var 0) (k_var 1)) k_int) n_nil))) (w_or1 (t_w (w_and (t_n (c_cmp (op_eqD hr.units) (nomark _)) g_eq.n (n_k (k_op (o_ix (cl := cl) rfl hu (fun _ _ => rfl)) pop_ix (k_var 4) k_int) (n_k (k_op (o_ix (cl := cl) rfl hu (fun _ _ => rfl)) pop_ix (k_op (o_ix (cl := cl) rfl hu (fun _ _ => rfl)) pop_ix (k_var 0) (k_var 1)) k_int) n_nil))) (w_and1 (t_n (c_cmp op_lt (nomark _)) g_lt.n (n_k (k_var 3) (n_k (k_var 1) n_nil))))))))) (b_one (s_expr (d_app 2 (d_p (k_var 4)) (hq := fun _ h => pe_bm PySem.F.plainAttrs_list PySem.F.slot_list_append PySem.F.type_list_append mt_append (pv 2) (pa_cons h pa_nil))))) b_nil)) (passes_of rfl)) (b_one (s_ret (d_mv 2)))))
theorem sc_law : FnScope N_law ["_law_script"] (defScope s_law) := ⟨rfl, rfl, rfl, by decide +kernel, rfl, by decide +kernel, by decide +kernel⟩
theorem ok_law (hK : cl.K = K) (hX : xf = xfG) (T : Tx cl mg) (Fd : FunD K "law" "law" (defArgs s_law) (defBody s_law) (defScope s_law) [] [] f fd) (H__law_box : Fn cl xf P w K mg base "_law_box" 1 1 F_L_law_box) (H__law_cell : Fn cl xf P w K mg base "_law_cell" 1 2 F_L_law_cell) (H__law_fitting : Fn cl xf P w K mg base "_law_fitting" 1 1 F_L_law_fitting) (H__law_alike : Fn cl xf P w K mg base "_law_alike" 2 2 F_L_law_alike) (H__law_drawn : Fn cl xf P w K mg base "_law_drawn" 4 3 F_L_law_drawn_2) (H__law_ahead : Fn cl xf P w K mg base "_law_ahead" 1 2 F_L_law_ahead) (H_ahead_of : Fn cl xf P w K mg base "ahead_of" 4 2 F_worst_ahead_of) (H__law_refused : Fn cl xf P w K mg base "_law_refused" 5 2 F_L_law_refused) (H__law_take : Fn cl xf P w K mg base "_law_take" 1 2 F_L_law_take) (K_Pieces : Kc cl xf P w K mg base "Pieces" 20 6 2 F_pieces_Pieces___init__) : FnG P w K mg base (L2.CX P w) 8 f fd ["_law_script"] (spF cl xf 1 F_law_k41) := by
  subst hK; subst hX
  refine fn_ok (N := N_law) (ws := fun i => [1, 2, 3, 4, 5, 6, 7, 9].contains i) (ds := d_law_k41) (io := [false]) Fd sc_law rfl (by decide) (ioOk (by decide)) fun cdv A outer s H E hr => ?_
  have tk := takes_of (X := cxOf (L2.CX P w) P w cl.K mg base N_law "law" (defScope s_law) f cdv A outer s H E) (E := E) rfl rfl rfl rfl
  have hu := huG hr; have hu2 := hu65 hr; have nd := sc_law.nd
  exact (b_cons (s_for (i_range1 T.f_range (d_n (b2n (o_max T.f_max)) g_max.n (n_k k_int (n_v (d_n (b2n (o_min T.f_min)) g_min.n (n_v (d_n (b1n (o_len (cl := cl) rfl T.f_len)) g_len.n (n_k (k_var 0) n_nil)) (n_k k_int n_nil))) n_nil)))) (g_name 1 nd) (b_cons (s_set 2 (d_call H__law_box hr (by decide) tk (c_val (d_call H__law_cell hr (by decide) tk (c_lend (k_var 0) (c_lend (k_var 1) c_nil)) (dl_lend (dl_lend dl_nil))) c_nil) (dl_cons dl_nil)) nd) (b_cons (s_set 3 (d_io H__law_fitting hr (by decide) tk (q_val (d_io H__law_alike hr (by decide) tk (q_o 2 (q_val (d_io H__law_drawn hr (by decide) tk (q_o 2 (q_l 1 (q_val (d_p k_int) q_nil))) rfl) q_nil)) rfl) q_nil) rfl) nd) (b_cons (s_set 4 (d_mk K_Pieces hr (by decide) tk (c_lend (k_var 3) c_nil) (dl_lend dl_nil)) nd) (b_cons (s_for (i_enD (cl := cl) rfl T.f_enumerate (d_fz 3)) (g_tup (gs_cons (g_name 5 nd) (gs_cons (g_name 6 nd) gs_nil))) (b_cons (s_lcP 7 (own := [("_law_other", 8)]) (i_anyD (cl := cl) rfl (d_call H__law_ahead hr (by decide) tk (c_lend (k_var 3) (c_lend (k_var 5) c_nil)) (dl_lend (dl_lend dl_nil)))) (blkOk_by (own := [("_law_other", 8)]) (N := N_law) (sc := defScope s_law) (by decide +kernel)) (tgIn_name (by simp)) (uni_g fun _ _ _ _ _ => g_name 8 nd (by rfl)) uni_y (uni_e fun _ _ _ _ _ => (d_p (k_op (o_ix (cl := cl) rfl hu (fun _ _ => rfl)) pop_ix (k_var 8) k_int))) nd (sw_true rfl rfl rfl (by decide +kernel))) (b_cons (s_set 9 (d_call H_ahead_of hr (by decide) tk (c_lend (k_var 4) (c_lend (k_op (o_ix (cl := cl) rfl hu (fun _ _ => rfl)) pop_ix (k_var 6) k_int) c_nil)) (dl_lend (dl_lend dl_nil))) nd) (b_cons (s_if (t_w (w_or (t_not (t_v (d_n (b1n (o_isi (T := "list") T.f_isinstance T.f_list (by decide +kernel))) (g_isi (by decide)).n (n_k (k_var 9) n_nil)))) (w_or1 (t_n (c_cmp (op_neD hr.units) (nomark _)) g_ne.n (n_k (k_var 9) (n_k (k_var 7) n_nil)))))) (b_one (s_ret (d_p k_bl))) b_nil) (b_cons (s_expr (d_app 9 (d_p k_str) (hq := fun _ h => pe_bm PySem.F.plainAttrs_list PySem.F.slot_list_append PySem.F.type_list_append mt_append (pv 9) (pa_cons h pa_nil)))) (b_one (s_if (t_n (c_cmp (op_neD hr.units) (nomark _)) g_ne.n (n_v (d_call H_ahead_of hr (by decide) tk (c_lend (k_var 4) (c_lend (k_op (o_ix (cl := cl) rfl hu (fun _ _ => rfl)) pop_ix (k_var 6) k_int) c_nil)) (dl_lend (dl_lend dl_nil))) (n_k (k_var 7) n_nil))) (b_one (s_ret (d_p k_bl))) b_nil)))))) (passes_of rfl)) (b_one (s_if (t_not (t_v (d_io H__law_refused hr (by decide) tk (q_l 4 (q_val (d_ni (b2n (o_ix (cl := cl) rfl hu (fun _ _ => rfl))) g_ix.n (z_v (d_lst (a_cons (d_p k_non) (a_cons (d_p k_int) (a_cons (d_lst a_nil) (a_cons (d_p k_str) (a_cons (d_p k_str) (a_cons (d_p k_bl) (a_cons (d_tup (a_cons (d_p k_str) a_nil)) (a_cons d_dict0 a_nil))))))))) (z_v (d_io H__law_take hr (by decide) tk (q_o 2 (q_val (d_p k_int) q_nil)) rfl) z_nil))) q_nil)) rfl))) (b_one (s_ret (d_p k_bl))) b_nil)))))) (passes_of rfl)) (b_one (s_ret (d_p k_bl))))
end
end Lw
/-! EV -/
/-! Evaluation by simp: each combinator at a state that is written as a list. -/
namespace Fs
open PySem PySem.Spec PyProof.Rows L2
section
variable {α β : Type} {x : Option D} {δ : Sl}
@[simp] theorem bind_ok' {a : α} {s : Sl} {f : α → Sl → Out β} : (Out.ok a s).bind f = f a s := rfl
@[simp] theorem bind_exc' {c : Nat} {xs : List D} {s : Sl} {f : α → Sl → Out β} : (Out.exc c xs s).bind f = .exc c xs s := rfl
@[simp] theorem bind_bad' {f : α → Sl → Out β} : (Out.bad : Out α).bind f = .bad := rfl
@[simp] theorem ofO_some {a : α} {s : Sl} : Out.ofO (some a) s = .ok a s := rfl
@[simp] theorem ofO_none {s : Sl} : Out.ofO (none : Option α) s = .bad := rfl
def seqK (b : DS) : Flow → Sl → Out Flow := fun f δ1 => match f with | .nx => b δ1 | f => .ok f δ1
@[simp] theorem dsSeq_c {a b : DS} : dsSeq a b (x :: δ) = (a (x :: δ)).bind (seqK b) := rfl
@[simp] theorem seqK_nx {b : DS} {s : Sl} : seqK b .nx s = b s := rfl
@[simp] theorem seqK_rt {b : DS} {d : D} {s : Sl} : seqK b (.rt d) s = .ok (.rt d) s := rfl
@[simp] theorem seqK_bk {b : DS} {s : Sl} : seqK b .bk s = .ok .bk s := rfl
@[simp] theorem seqK_ct {b : DS} {s : Sl} : seqK b .ct s = .ok .ct s := rfl
def ifK (a b : DS) : Bool → Sl → Out Flow := fun x δ1 => match x with | true => a δ1 | false => b δ1
@[simp] theorem dsIf_c {c : DT} {a b : DS} : dsIf c a b (x :: δ) = (c (x :: δ)).bind (ifK a b) := rfl
@[simp] theorem ifK_t {a b : DS} {s : Sl} : ifK a b true s = a s := rfl
@[simp] theorem ifK_f {a b : DS} {s : Sl} : ifK a b false s = b s := rfl
@[simp] theorem dsNext_c : dsNext (x :: δ) = .ok .nx (x :: δ) := rfl
@[simp] theorem dsRetN_c : dsRetN (x :: δ) = .ok (.rt .non) (x :: δ) := rfl
@[simp] theorem dsBrk_c : dsBrk (x :: δ) = .ok .bk (x :: δ) := rfl
@[simp] theorem dsCnt_c : dsCnt (x :: δ) = .ok .ct (x :: δ) := rfl
def asgK (tg : D → Sl → Option Sl) : D → Sl → Out Flow := fun d δ1 => match tg d δ1 with | some δ2 => .ok .nx δ2 | none => .bad
@[simp] theorem dsAsg_c {e : DE} {tg : D → Sl → Option Sl} : dsAsg e tg (x :: δ) = (e (x :: δ)).bind (asgK tg) := rfl
@[simp] theorem asgK_n {i : Nat} {d : D} {s : Sl} : asgK (tgN i) d s = .ok .nx (s.set i (some d)) := rfl
def retK : D → Sl → Out Flow := fun d δ1 => .ok (.rt d) δ1
@[simp] theorem dsRet_c {e : DE} : dsRet e (x :: δ) = (e (x :: δ)).bind retK := rfl
@[simp] theorem retK_c {d : D} {s : Sl} : retK d s = .ok (.rt d) s := rfl
def dropK : D → Sl → Out Flow := fun _ δ1 => .ok .nx δ1
@[simp] theorem dsDrop_c {e : DE} : dsDrop e (x :: δ) = (e (x :: δ)).bind dropK := rfl
@[simp] theorem dropK_c {d : D} {s : Sl} : dropK d s = .ok .nx s := rfl
def forK (tg : D → Sl → Option Sl) (body : DS) : List D → Sl → Out Flow := fun its δ1 => loop tg body its δ1
@[simp] theorem dsFor_c {di : DA} {tg : D → Sl → Option Sl} {b : DS} : dsFor di tg b (x :: δ) = (di (x :: δ)).bind (forK tg b) := rfl
@[simp] theorem forK_c {tg : D → Sl → Option Sl} {b : DS} {its : List D} {s : Sl} : forK tg b its s = loop tg b its s := rfl
def loopK (tg : D → Sl → Option Sl) (body : DS) (xs : List D) : Flow → Sl → Out Flow := fun f δ2 => match f with
  | .nx => loop tg body xs δ2
  | .ct => loop tg body xs δ2
  | .bk => .ok .nx δ2
  | .rt d => .ok (.rt d) δ2
theorem loop_nil {tg : D → Sl → Option Sl} {b : DS} {s : Sl} : loop tg b [] s = .ok .nx s := rfl
theorem loop_cons {tg : D → Sl → Option Sl} {b : DS} {d : D} {ds : List D} {s s1 : Sl} (h : tg d s = some s1) : loop tg b (d :: ds) s = (b s1).bind (loopK tg b ds) := by
  unfold loop; rw [h]; rfl
theorem loop_consN {i : Nat} {b : DS} {d : D} {ds : List D} {s : Sl} : loop (tgN i) b (d :: ds) s = (b (s.set i (some d))).bind (loopK (tgN i) b ds) := rfl
@[simp] theorem loopK_nx {tg : D → Sl → Option Sl} {b : DS} {ds : List D} {s : Sl} : loopK tg b ds .nx s = loop tg b ds s := rfl
@[simp] theorem loopK_ct {tg : D → Sl → Option Sl} {b : DS} {ds : List D} {s : Sl} : loopK tg b ds .ct s = loop tg b ds s := rfl
@[simp] theorem loopK_bk {tg : D → Sl → Option Sl} {b : DS} {ds : List D} {s : Sl} : loopK tg b ds .bk s = .ok .nx s := rfl
@[simp] theorem loopK_rt {tg : D → Sl → Option Sl} {b : DS} {ds : List D} {d : D} {s : Sl} : loopK tg b ds (.rt d) s = .ok (.rt d) s := rfl
/-! tests -/
def dtVK : D → Sl → Out Bool := fun x δ1 => match x with | .v (.bl c) => .ok c δ1 | _ => .bad
@[simp] theorem dtV_c {a : DE} : dtV a (x :: δ) = (a (x :: δ)).bind dtVK := rfl
@[simp] theorem dtVK_c {c : Bool} {s : Sl} : dtVK (.v (.bl c)) s = .ok c s := rfl
def dtAndK (b : DT) : Bool → Sl → Out Bool := fun x δ1 => match x with | true => b δ1 | false => .ok false δ1
def dtOrK (b : DT) : Bool → Sl → Out Bool := fun x δ1 => match x with | true => .ok true δ1 | false => b δ1
def dtNotK : Bool → Sl → Out Bool := fun x δ1 => .ok (!x) δ1
@[simp] theorem dtAnd_c {a b : DT} : dtAnd a b (x :: δ) = (a (x :: δ)).bind (dtAndK b) := rfl
@[simp] theorem dtOr_c {a b : DT} : dtOr a b (x :: δ) = (a (x :: δ)).bind (dtOrK b) := rfl
@[simp] theorem dtNot_c {a : DT} : dtNot a (x :: δ) = (a (x :: δ)).bind dtNotK := rfl
@[simp] theorem dtAndK_t {b : DT} {s : Sl} : dtAndK b true s = b s := rfl
@[simp] theorem dtAndK_f {b : DT} {s : Sl} : dtAndK b false s = .ok false s := rfl
@[simp] theorem dtOrK_t {b : DT} {s : Sl} : dtOrK b true s = .ok true s := rfl
@[simp] theorem dtOrK_f {b : DT} {s : Sl} : dtOrK b false s = b s := rfl
@[simp] theorem dtNotK_c {b : Bool} {s : Sl} : dtNotK b s = .ok (!b) s := rfl
@[simp] theorem dtYes_c : dtYes (x :: δ) = .ok true (x :: δ) := rfl
/-! peeks -/
@[simp] theorem pVar_z {d : D} : pVar 0 (some d :: δ) = some d := rfl
@[simp] theorem pVar_s {i : Nat} : pVar (i + 1) (x :: δ) = pVar i δ := rfl
@[simp] theorem pC_c {v : V} {s : Sl} : pC v s = some (.v v) := rfl
def pOp2 (f : D → D → Option D) : Option D → Option D → Option D
  | some a, some b => f a b
  | _, _ => none
@[simp] theorem pOp2_c {f : D → D → Option D} {a b : D} : pOp2 f (some a) (some b) = f a b := rfl
@[simp] theorem pOp_c {f : D → D → Option D} {a b : PP} : pOp f a b (x :: δ) = pOp2 f (a (x :: δ)) (b (x :: δ)) := by unfold pOp pOp2; cases a (x :: δ) <;> cases b (x :: δ) <;> rfl
/-! values -/
@[simp] theorem filt_v {v : V} : Option.filter D.kept (some (.v v)) = some (.v v) := rfl
@[simp] theorem filt_s {ns : List Int} : Option.filter D.kept (some (.s ns)) = some (.s ns) := rfl
@[simp] theorem filt_n {k : Kd} {ds : List D} : Option.filter D.kept (some (.n k .shr ds)) = some (.n k .shr ds) := rfl
@[simp] theorem dP_c {a : PP} : dP a (x :: δ) = Out.ofO (Option.filter D.kept (a (x :: δ))) (x :: δ) := rfl
@[simp] theorem dPP_c {f : D → D → Option D} {a b : PP} : dPP f a b (x :: δ) = Out.ofO (pOp2 f (a (x :: δ)) (b (x :: δ))) (x :: δ) := by unfold dPP pOp2; cases a (x :: δ) <;> cases b (x :: δ) <;> rfl
@[simp] theorem dP1_c {f : D → Option D} {a : PP} : dP1 f a (x :: δ) = Out.ofO ((a (x :: δ)).bind f) (x :: δ) := rfl
def k2 (f : D → D → Option D) (a : Option D) : D → Sl → Out D := fun y δ2 => Out.ofO (pOp2 f a (some y)) δ2
@[simp] theorem k2_c {f : D → D → Option D} {a : Option D} {y : D} {s : Sl} : k2 f a y s = Out.ofO (pOp2 f a (some y)) s := rfl
theorem dPD_c {f : D → D → Option D} {a : PP} {b : DE} {d : D} (h : a (x :: δ) = some d) : dPD f a b (x :: δ) = (b (x :: δ)).bind (k2 f (some d)) := by unfold dPD; rw [h]; rfl
@[simp] theorem dPD_v {f : D → D → Option D} {i : Nat} {b : DE} : dPD f (pVar i) b (x :: δ) = if ((x :: δ)[i]?).join.isSome then (b (x :: δ)).bind (k2 f ((x :: δ)[i]?).join) else .bad := by
  unfold dPD pVar
  cases ((x :: δ)[i]?).join <;> rfl
@[simp] theorem dPD_k {f : D → D → Option D} {v : V} {b : DE} : dPD f (pC v) b (x :: δ) = (b (x :: δ)).bind (k2 f (some (.v v))) := rfl
def k1 (f : D → D → Option D) (b : PP) : D → Sl → Out D := fun x δ1 => Out.ofO ((b δ1).bind fun y => f x y) δ1
@[simp] theorem dDP_c {f : D → D → Option D} {a : DE} {b : PP} : dDP f a b (x :: δ) = (a (x :: δ)).bind (k1 f b) := rfl
@[simp] theorem k1_c {f : D → D → Option D} {b : PP} {d : D} : k1 f b d (x :: δ) = Out.ofO (pOp2 f (some d) (b (x :: δ))) (x :: δ) := by unfold k1 pOp2; cases b (x :: δ) <;> rfl
def kd (f : D → D → Option D) (b : DE) : D → Sl → Out D := fun x δ1 => (b δ1).bind fun y δ2 => Out.ofO (f x y) δ2
theorem bind_assoc {γ : Type} {o : Out α} {f : α → Sl → Out β} {g : β → Sl → Out γ} : (o.bind f).bind g = o.bind fun a s => (f a s).bind g := by cases o <;> rfl
@[simp] theorem d2_c {f : D → D → Option D} {a b : DE} : d2 f a b (x :: δ) = (a (x :: δ)).bind (kd f b) := by
  unfold d2 both kd
  cases a (x :: δ) with
  | ok d s => simp only [bind_ok']; cases b s <;> rfl
  | exc c xs s => rfl
  | bad => rfl
@[simp] theorem kd_c {f : D → D → Option D} {b : DE} {d : D} : kd f b d (x :: δ) = (b (x :: δ)).bind (k2 f (some d)) := rfl
def kf (f : D → Option D) : D → Sl → Out D := fun x δ2 => Out.ofO (f x) δ2
@[simp] theorem d1_c {f : D → Option D} {a : DE} : d1 f a (x :: δ) = (a (x :: δ)).bind (kf f) := rfl
@[simp] theorem d1S_c {f : D → Option D} {a : DE} : d1S f a (x :: δ) = (a (x :: δ)).bind (kf f) := rfl
@[simp] theorem kf_c {f : D → Option D} {d : D} {s : Sl} : kf f d s = Out.ofO (f d) s := rfl
def andK (b : DE) : D → Sl → Out D := fun x δ1 => match x with | .v (.bl true) => b δ1 | .v (.bl false) => .ok (.bl false) δ1 | _ => .bad
def orK (b : DE) : D → Sl → Out D := fun x δ1 => match x with | .v (.bl true) => .ok (.bl true) δ1 | .v (.bl false) => b δ1 | _ => .bad
@[simp] theorem dAnd_c {a b : DE} : dAnd a b (x :: δ) = (a (x :: δ)).bind (andK b) := rfl
@[simp] theorem dOr_c {a b : DE} : dOr a b (x :: δ) = (a (x :: δ)).bind (orK b) := rfl
@[simp] theorem andK_b {b : DE} {c : Bool} {s : Sl} : andK b (.v (.bl c)) s = if c then b s else .ok (.bl false) s := by cases c <;> rfl
@[simp] theorem orK_b {b : DE} {c : Bool} {s : Sl} : orK b (.v (.bl c)) s = if c then .ok (.bl true) s else b s := by cases c <;> rfl
@[simp] theorem notD_b {c : Bool} : notD (.v (.bl c)) = some (.bl !c) := rfl
def ifeK (a b : DE) : Bool → Sl → Out D := fun x δ1 => match x with | true => a δ1 | false => b δ1
@[simp] theorem dIf_c {t : DT} {a b : DE} : dIf t a b (x :: δ) = (t (x :: δ)).bind (ifeK a b) := rfl
@[simp] theorem ifeK_t {a b : DE} {s : Sl} : ifeK a b true s = a s := rfl
@[simp] theorem ifeK_f {a b : DE} {s : Sl} : ifeK a b false s = b s := rfl
def chK2 (g : D → D → Option D) (y : D) : D → Sl → Out D := fun z δ2 => Out.ofO ((g y z).filter D.kept) δ2
def chK (f g : D → D → Option D) (c : DE) : D × D → Sl → Out D := fun xy δ1 => match f xy.1 xy.2 with
  | some (.v (.bl true)) => (c δ1).bind (chK2 g xy.2)
  | some (.v (.bl false)) => .ok (.bl false) δ1
  | _ => .bad
def pairK (b : DE) : D → Sl → Out (D × D) := fun x δ1 => (b δ1).bind fun y δ2 => .ok (x, y) δ2
def pairK2 (x : D) : D → Sl → Out (D × D) := fun y δ2 => .ok (x, y) δ2
@[simp] theorem dCh_c {f g : D → D → Option D} {a b c : DE} : dCh f g a b c (x :: δ) = ((a (x :: δ)).bind (pairK b)).bind (chK f g c) := rfl
@[simp] theorem pairK_c {b : DE} {d : D} : pairK b d (x :: δ) = (b (x :: δ)).bind (pairK2 d) := rfl
@[simp] theorem pairK2_c {a b : D} {s : Sl} : pairK2 a b s = .ok (a, b) s := rfl
theorem chK_c {f g : D → D → Option D} {c : DE} {a b : D} {k : Bool} (h : f a b = some (.v (.bl k))) : chK f g c (a, b) (x :: δ) = if k then (c (x :: δ)).bind (chK2 g b) else .ok (.bl false) (x :: δ) := by
  unfold chK
  simp only [h]
  cases k <;> rfl
@[simp] theorem chK_le {c : DE} {i j : Int} : chK leD leD c (.v (.int i), .v (.int j)) (x :: δ) = if decide (i ≤ j) then (c (x :: δ)).bind (chK2 leD (.v (.int j))) else .ok (.bl false) (x :: δ) := chK_c rfl
@[simp] theorem chK2_c {g : D → D → Option D} {y z : D} {s : Sl} : chK2 g y z s = Out.ofO ((g y z).filter D.kept) s := rfl
/-! lists of values -/
@[simp] theorem daNil_c {s : Sl} : daNil s = .ok [] s := rfl
def consK2 (d : D) : List D → Sl → Out (List D) := fun xs δ2 => .ok (d :: xs) δ2
def consK (r : DA) : D → Sl → Out (List D) := fun x δ1 => (r δ1).bind (consK2 x)
@[simp] theorem daCons_c {a : DE} {r : DA} : daCons a r (x :: δ) = (a (x :: δ)).bind (consK r) := rfl
@[simp] theorem consK_c {r : DA} {d : D} : consK r d (x :: δ) = (r (x :: δ)).bind (consK2 d) := rfl
@[simp] theorem consK2_c {d : D} {ds : List D} {s : Sl} : consK2 d ds s = .ok (d :: ds) s := rfl
@[simp] theorem daLend_v {i : Nat} {r : DA} : daLend (pVar i) r (x :: δ) = match ((x :: δ)[i]?).join with | some d => (r (x :: δ)).bind (consK2 (lend d)) | none => .bad := by
  unfold daLend pVar
  cases ((x :: δ)[i]?).join <;> rfl
@[simp] theorem daLend_k {v : V} {r : DA} : daLend (pC v) r (x :: δ) = (r (x :: δ)).bind (consK2 (.v v)) := by
  unfold daLend
  simp only [pC_c, lend]
  rfl
def fK (F : List D → Option D) : List D → Sl → Out D := fun xs δ1 => Out.ofO (F xs) δ1
@[simp] theorem dF_c {F : List D → Option D} {r : DA} : dF F r (x :: δ) = (r (x :: δ)).bind (fK F) := rfl
@[simp] theorem fK_c {F : List D → Option D} {ds : List D} {s : Sl} : fK F ds s = Out.ofO (F ds) s := rfl
def callK (F : List D → Out D) : List D → Sl → Out D := fun ds δ1 => match F ds with
  | .ok d _ => .ok d δ1
  | .exc c xs _ => .exc c xs δ1
  | .bad => .bad
@[simp] theorem dCall_c {F : List D → Out D} {r : DA} : dCall F r (x :: δ) = (r (x :: δ)).bind (callK F) := rfl
theorem callK_ok {F : List D → Out D} {ds : List D} {d : D} {s s' : Sl} (h : F ds = .ok d s') : callK F ds s = .ok d s := by unfold callK; rw [h]
def ioK (F : List D → Out D) (ks : List AK) : List D → Sl → Out D := fun ts δ1 => match tk ks ts δ1 with
  | none => .bad
  | some r => match res r.2 r.1 with
    | none => .bad
    | some ds => match F ds with
      | .ok d ios => (match putB ks ios r.2 with | some δ2 => .ok d δ2 | none => .bad)
      | .exc c xs ios => (match putB ks ios r.2 with | some δ2 => .exc c xs δ2 | none => .bad)
      | .bad => .bad
@[simp] theorem dCallIO_c {F : List D → Out D} {ks : List AK} : dCallIO F ks (x :: δ) = (dArgs ks (x :: δ)).bind (ioK F ks) := rfl
theorem ioK_ok {F : List D → Out D} {ks : List AK} {ts ds : List D} {s δr ios δ2 : Sl} {es : List (Option D × Nat)} {d : D} (h1 : tk ks ts s = some (es, δr)) (h2 : res δr es = some ds) (h3 : F ds = .ok d ios) (h4 : putB ks ios δr = some δ2) : ioK F ks ts s = .ok d δ2 := by
  unfold ioK
  simp only [h1, h2, h3, h4]
/-! defs -/
def finF (io : List Bool) : Out Flow → Out D
  | .ok .nx δ' => .ok .non (ioF io δ')
  | .ok (.rt d) δ' => .ok d (ioF io δ')
  | .ok .bk _ => .bad
  | .ok .ct _ => .bad
  | .exc c xs δ' => .exc c xs (ioF io δ')
  | .bad => .bad
theorem runF_c {N : Nat} {io : List Bool} {ds : DS} {args : List D} (h : args.length = io.length) : runF N io ds args = finF io (ds (args.map some ++ List.replicate (N - args.length) none)) := by
  unfold runF
  rw [if_pos h]
  unfold finF
  split <;> simp_all
@[simp] theorem finF_nx {io : List Bool} {s : Sl} : finF io (.ok .nx s) = .ok .non (ioF io s) := rfl
@[simp] theorem finF_rt {io : List Bool} {d : D} {s : Sl} : finF io (.ok (.rt d) s) = .ok d (ioF io s) := rfl
@[simp] theorem finF_exc {io : List Bool} {c : Nat} {xs : List D} {s : Sl} : finF io (.exc c xs s) = .exc c xs (ioF io s) := rfl
@[simp] theorem pOp2_mul {i j : Int} : mulD (.v (.int i)) (.v (.int j)) = if cMul i j then some (.v (.int (i * j))) else none := by simp only [mulD, f2I]; split <;> rfl
@[simp] theorem pOp2_mod {i j : Int} : modD (.v (.int i)) (.v (.int j)) = if cMod i j then some (.v (.int (i % j))) else none := by simp only [modD, f2I]; split <;> rfl
@[simp] theorem pOp2_div {i j : Int} : divD (.v (.int i)) (.v (.int j)) = if cDiv i j then some (.v (.int (i / j))) else none := by simp only [divD, f2I]; split <;> rfl
@[simp] theorem pOp2_gt {i j : Int} : gtD (.v (.int i)) (.v (.int j)) = some (.v (.bl (decide (j < i)))) := rfl
@[simp] theorem pOp2_lt {i j : Int} : ltD (.v (.int i)) (.v (.int j)) = some (.v (.bl (decide (i < j)))) := rfl
@[simp] theorem pOp2_sub {i j : Int} : subD (.v (.int i)) (.v (.int j)) = some (.v (.int (i - j))) := rfl
@[simp] theorem pOp2_add {i j : Int} : addD (.v (.int i)) (.v (.int j)) = some (.v (.int (i + j))) := rfl
@[simp] theorem ix3_0 {w : Fl} {a b c : D} : ixD (.n .lst w [a, b, c]) (.v (.int 0)) = some a := rfl
@[simp] theorem ix3_1 {w : Fl} {a b c : D} : ixD (.n .lst w [a, b, c]) (.v (.int 1)) = some b := rfl
@[simp] theorem ix3_2 {w : Fl} {a b c : D} : ixD (.n .lst w [a, b, c]) (.v (.int 2)) = some c := rfl
theorem cMul_r {i j : Int} (h : j.natAbs < 2 ^ 64) : cMul i j = true := by simp [cMul, h]
theorem cMul_l {i j : Int} (h : i.natAbs < 2 ^ 64) : cMul i j = true := by simp [cMul, h]
theorem cMod_p {i j : Int} (h : 0 < j) : cMod i j = true := by simp [cMod, h]
theorem cDiv_p {i j : Int} (h : 0 < j) (h2 : j < 1073741824) : cDiv i j = true := by simp [cDiv, h, h2]
def setK (i : Nat) (ix : DE) : D → Sl → Out Fs.Flow := fun y δ1 => if (δ1[i]?).join.isSome then (ix δ1).bind fun k δ2 => (match (δ2[i]?).join, k with
  | some (.n .lst .own xs), .v (.int n) => (match ixN xs.length n with | some m => .ok .nx (δ2.set i (some (.n .lst .own (xs.set m (frz y))))) | none => .bad)
  | _, _ => .bad) else .bad
@[simp] theorem dsSetL_c {x : Option D} {δ : Sl} {i : Nat} {ix e : DE} : dsSetL i ix e (x :: δ) = (e (x :: δ)).bind (setK i ix) := rfl
@[simp] theorem setK_0 {a b c : D} {d : D} {δ : Sl} : setK 0 (dP (pC (.int 0))) d (some (.n .lst .own [a, b, c]) :: δ) = .ok .nx (some (.n .lst .own [frz d, b, c]) :: δ) := rfl
@[simp] theorem setK_2 {a b c : D} {d : D} {δ : Sl} : setK 0 (dP (pC (.int 2))) d (some (.n .lst .own [a, b, c]) :: δ) = .ok .nx (some (.n .lst .own [a, b, frz d]) :: δ) := rfl
@[simp] theorem frz_v {v : V} : frz (.v v) = .v v := by simp [frz]
@[simp] theorem dMv_v {i : Nat} {δ : Sl} {v : V} (h : (δ[i]?).join = some (.v v)) : dMv i δ = .ok (.v v) (δ.set i none) := by unfold dMv; rw [h]; rfl
def Out.val : Out α → Option α | .ok a _ => some a | _ => none
@[simp] theorem val_ok {a : α} {s : Sl} : (Out.ok a s).val = some a := rfl
theorem callK_val {F : List D → Out D} {ds : List D} {d : D} {s : Sl} (h : (F ds).val = some d) : callK F ds s = .ok d s := by
  unfold callK
  cases e : F ds with
  | ok d' s' => rw [e] at h; cases h; rfl
  | exc c xs s' => rw [e] at h; cases h
  | bad => rw [e] at h; cases h
theorem val_ex {o : Out D} {d : D} (h : o.val = some d) : ∃ s, o = .ok d s := by
  cases o with
  | ok d' s => cases h; exact ⟨s, rfl⟩
  | exc c xs s => cases h
  | bad => cases h
@[simp] theorem pOp2_le {i j : Int} : leD (.v (.int i)) (.v (.int j)) = some (.v (.bl (decide (i ≤ j)))) := rfl
@[simp] theorem pOp2_ge {i j : Int} : geD (.v (.int i)) (.v (.int j)) = some (.v (.bl (decide (j ≤ i)))) := rfl
end
end Fs
/-! EV2 -/
/-! Evaluation by simp: the newer combinators; what an outcome satisfies. -/
namespace Fs
open PySem PySem.Spec PyProof.Rows L2
section
variable {α β : Type} {x : Option D} {δ s : Sl}
@[simp] theorem evO_nil : evO [] s = .ok [] s := rfl
def evK (o : Option D) (os : List Od) (δ : Sl) : Out (List D) := match o with
  | some d => (evO os δ).bind (consK2 d)
  | none => .bad
@[simp] theorem evO_k {a : PP} {os : List Od} : evO (.k a :: os) s = evK (a s) os s := rfl
@[simp] theorem evK_s {d : D} {os : List Od} : evK (some d) os s = (evO os s).bind (consK2 d) := rfl
@[simp] theorem evK_n {os : List Od} : evK none os s = .bad := rfl
def evV (os : List Od) : D → Sl → Out (List D) := fun d s => (evO os s).bind (consK2 d)
@[simp] theorem evO_v {e : DE} {os : List Od} : evO (.v e :: os) s = (e s).bind (evV os) := rfl
@[simp] theorem evV_c {d : D} {os : List Od} : evV os d s = (evO os s).bind (consK2 d) := rfl
@[simp] theorem dN_c {F : List D → Option D} {os : List Od} : dN F os s = (evO os s).bind (fK F) := rfl
@[simp] theorem f2_c {f : D → D → Option D} {a b : D} : f2 f [a, b] = f a b := rfl
@[simp] theorem f1_c {f : D → Option D} {a : D} : f1 f [a] = f a := rfl
@[simp] theorem dArgs_nil : dArgs [] s = .ok [] s := rfl
def argK (ks : List AK) : D → Sl → Out (List D) := fun d s => (dArgs ks s).bind (consK2 d)
@[simp] theorem dArgs_v {e : DE} {ks : List AK} : dArgs (.v e :: ks) s = (e s).bind (argK ks) := rfl
@[simp] theorem argK_c {d : D} {ks : List AK} : argK ks d s = (dArgs ks s).bind (consK2 d) := rfl
@[simp] theorem dArgs_l {i : Nat} {ks : List AK} : dArgs (.l i :: ks) s = if (s[i]?).join.isSome then dArgs ks s else .bad := rfl
@[simp] theorem dArgs_o {i : Nat} {ks : List AK} : dArgs (.o i :: ks) s = if (s[i]?).join.isSome then dArgs ks s else .bad := rfl
def niK (F : List D → Option D) (ks : List AK) : List D → Sl → Out D := fun ts s => Out.ofO ((resN ks ts s).bind F) s
@[simp] theorem dNI_c {F : List D → Option D} {ks : List AK} : dNI F ks s = (dArgs ks s).bind (niK F ks) := by
  unfold dNI niK
  cases dArgs ks s with
  | ok a s1 => simp only [bind_ok']; cases resN ks a s1 <;> rfl
  | exc c xs s1 => rfl
  | bad => rfl
@[simp] theorem niK_c {F : List D → Option D} {ks : List AK} {ts : List D} : niK F ks ts s = Out.ofO ((resN ks ts s).bind F) s := rfl
@[simp] theorem resN_nil : resN [] [] s = some [] := rfl
@[simp] theorem resN_v {e : DE} {ks : List AK} {t : D} {ts : List D} : resN (.v e :: ks) (t :: ts) s = (resN ks ts s).map (t :: ·) := by simp [resN]
@[simp] theorem resN_l {i : Nat} {ks : List AK} {ts : List D} : resN (.l i :: ks) ts s = ((s[i]?).join).bind fun d => (resN ks ts s).map (d :: ·) := by simp [resN]
@[simp] theorem pUn_c {f : D → Option D} {a : PP} : pUn f a s = (a s).bind f := rfl
@[simp] theorem pRc_c {c : Nat} {m : Str} {a : PP} : pRc c m a s = (a s).bind (rcD c m) := rfl
def lendK (o : Option D) (r : DA) (s : Sl) : Out (List D) := match o with
  | some d => (r s).bind (consK2 (lend d))
  | none => .bad
theorem daLend_g {a : PP} {r : DA} : daLend a r s = lendK (a s) r s := by
  unfold daLend lendK
  cases a s <;> rfl
@[simp] theorem lendK_s {d : D} {r : DA} : lendK (some d) r s = (r s).bind (consK2 (lend d)) := rfl
@[simp] theorem daLend_un {f : D → Option D} {a : PP} {r : DA} : daLend (pUn f a) r s = lendK (pUn f a s) r s := daLend_g
@[simp] theorem daLend_op {f : D → D → Option D} {a b : PP} {r : DA} : daLend (pOp f a b) r s = lendK (pOp f a b s) r s := daLend_g
@[simp] theorem daLend_rc {c : Nat} {m : Str} {a : PP} {r : DA} : daLend (pRc c m a) r s = lendK (pRc c m a s) r s := daLend_g
def rcK (c : Nat) (m : Str) : D → Sl → Out D := fun d s => Out.ofO (rcD c m d) s
@[simp] theorem dRc_c {c : Nat} {m : Str} {a : DE} : dRc c m a s = (a s).bind (rcK c m) := rfl
@[simp] theorem rcK_c {c : Nat} {m : Str} {d : D} : rcK c m d s = Out.ofO (rcD c m d) s := rfl
@[simp] theorem lend_v {v : V} : lend (.v v) = .v v := by simp [lend]
@[simp] theorem lend_s {ns : List Int} : lend (.s ns) = .s ns := by simp [lend]
@[simp] theorem lend_shr {k : Kd} {ds : List D} : lend (.n k .shr ds) = .n k .shr ds := by simp [lend]
@[simp] theorem lend_bor {k : Kd} {ds : List D} : lend (.n k .bor ds) = .n k .bor ds := by simp [lend]
@[simp] theorem lend_own {k : Kd} {ds : List D} : lend (.n k .own ds) = .n k .bor (lends ds) := by simp [lend]
@[simp] theorem frz_shr {k : Kd} {ds : List D} : frz (.n k .shr ds) = .n k .shr ds := by simp [frz]
@[simp] theorem frz_s {ns : List Int} : frz (.s ns) = .s ns := by simp [frz]
@[simp] theorem frzs_nil : frzs [] = [] := by simp [frzs]
@[simp] theorem frzs_cons {d : D} {ds : List D} : frzs (d :: ds) = frz d :: frzs ds := by simp [frzs]
@[simp] theorem lends_nil : lends [] = [] := by simp [lends]
@[simp] theorem lends_cons {d : D} {ds : List D} : lends (d :: ds) = lend d :: lends ds := by simp [lends]
@[simp] theorem addA_i {i j : Int} : addA (.v (.int i)) (.v (.int j)) = some (.v (.int (i + j))) := rfl
@[simp] theorem mulA_i {i j : Int} : mulA (.v (.int i)) (.v (.int j)) = if cMul i j then some (.v (.int (i * j))) else none := by
  simp only [mulA]
@[simp] theorem maxD_i {i j : Int} : maxD (.v (.int i)) (.v (.int j)) = some (.v (.int (max i j))) := by
  show some (D.v (V.int (if j > i then j else i))) = _
  have : (if j > i then j else i) = max i j := by split <;> omega
  rw [this]
@[simp] theorem minD_i {i j : Int} : minD (.v (.int i)) (.v (.int j)) = some (.v (.int (min i j))) := by
  show some (D.v (V.int (if j < i then j else i))) = _
  have : (if j < i then j else i) = min i j := by split <;> omega
  rw [this]
@[simp] theorem isND_non : isND (.v .non) = some (.v (.bl true)) := rfl
@[simp] theorem isND_int {i : Int} : isND (.v (.int i)) = some (.v (.bl false)) := rfl
@[simp] theorem isND_str {z : Str} : isND (.v (.str z)) = some (.v (.bl false)) := rfl
@[simp] theorem notND_non : notND (.v .non) = some (.v (.bl false)) := rfl
@[simp] theorem notND_int {i : Int} : notND (.v (.int i)) = some (.v (.bl true)) := rfl
@[simp] theorem notND_str {z : Str} : notND (.v (.str z)) = some (.v (.bl true)) := rfl
/-! stores -/
def storeK (pl : PL) (kd : DE) (fz : Bool) : D → Sl → Out Flow := fun y δ1 => stC pl δ1 fun i π d c => (noX (kd δ1)).bind fun kk δ2 => stEnd mSet i π d c [kk, if fz then frz y else y] δ2
@[simp] theorem dsStore_c {pl : PL} {kd e : DE} {fz : Bool} : dsStore pl kd fz e s = (e s).bind (storeK pl kd fz) := rfl
@[simp] theorem storeK_0 {a b c d : D} : storeK (plV 0) (dP (pC (.int 0))) true d (some (.n .lst .own [a, b, c]) :: δ) = .ok .nx (some (.n .lst .own [frz d, b, c]) :: δ) := rfl
@[simp] theorem storeK_2 {a b c d : D} : storeK (plV 0) (dP (pC (.int 2))) true d (some (.n .lst .own [a, b, c]) :: δ) = .ok .nx (some (.n .lst .own [a, b, frz d]) :: δ) := rfl
def fldSK (pl : PL) (c0 : Nat) (f : Str) : D → Sl → Out Flow := fun y δ1 => stC pl δ1 fun i π d c => stEnd (mFld c0 f) i π d c [y] δ1
@[simp] theorem dsFldS_c {pl : PL} {c : Nat} {f : Str} {e : DE} : dsFldS pl c f e s = (e s).bind (fldSK pl c f) := rfl
def raiseK (c n : Nat) : List D → Sl → Out Flow := fun xs s => if xs.length = n then .exc c xs s else .bad
@[simp] theorem dsRaise_c {c n : Nat} {da : DA} : dsRaise c n da s = (da s).bind (raiseK c n) := rfl
@[simp] theorem raiseK_c {c n : Nat} {xs : List D} : raiseK c n xs s = if xs.length = n then .exc c xs s else .bad := rfl
/-! what an outcome satisfies -/
def sat (o : Out α) (Q : α → Sl → Prop) : Prop := ∃ a s, o = .ok a s ∧ Q a s
@[simp] theorem sat_ok {a : α} {Q : α → Sl → Prop} : sat (.ok a s) Q ↔ Q a s := ⟨fun ⟨_, _, e, h⟩ => by cases e; exact h, fun h => ⟨a, s, rfl, h⟩⟩
@[simp] theorem sat_bad {Q : α → Sl → Prop} : sat (.bad : Out α) Q ↔ False := ⟨fun ⟨_, _, e, _⟩ => (by cases e), False.elim⟩
@[simp] theorem sat_exc {c : Nat} {xs : List D} {Q : α → Sl → Prop} : sat (.exc c xs s : Out α) Q ↔ False := ⟨fun ⟨_, _, e, _⟩ => (by cases e), False.elim⟩
@[simp] theorem sat_bind {o : Out α} {f : α → Sl → Out β} {Q : β → Sl → Prop} : sat (o.bind f) Q ↔ sat o fun a s => sat (f a s) Q := by
  cases o <;> simp
theorem sat_mono {o : Out α} {Q Q' : α → Sl → Prop} (h : sat o Q) (k : ∀ a s, Q a s → Q' a s) : sat o Q' := by
  obtain ⟨a, s, e, h⟩ := h; exact ⟨a, s, e, k a s h⟩
theorem sat_eq {o o' : Out α} {Q : α → Sl → Prop} (e : o = o') (h : sat o' Q) : sat o Q := e ▸ h
@[simp] theorem tk_nil : tk [] [] s = some ([], s) := rfl
@[simp] theorem tk_v {e : DE} {ks : List AK} {t : D} {ts : List D} : tk (.v e :: ks) (t :: ts) s = (tk ks ts s).map fun r => ((some t, 0) :: r.1, r.2) := by simp only [tk]
@[simp] theorem tk_l {i : Nat} {ks : List AK} {ts : List D} : tk (.l i :: ks) ts s = (tk ks ts s).map fun r => ((none, i) :: r.1, r.2) := by simp only [tk]
@[simp] theorem tk_o {i : Nat} {ks : List AK} {ts : List D} : tk (.o i :: ks) ts s = ((s[i]?).join).bind fun d => if d.free then (tk ks ts (s.set i none)).map fun r => ((some d, 0) :: r.1, r.2) else none := by simp only [tk]
@[simp] theorem res_nil : res s [] = some [] := rfl
@[simp] theorem res_s {d : D} {n : Nat} {r : List (Option D × Nat)} : res s ((some d, n) :: r) = (res s r).map fun ds => d :: ds := by simp only [res]
@[simp] theorem res_n {i : Nat} {r : List (Option D × Nat)} : res s ((none, i) :: r) = ((s[i]?).join).bind fun d => (res s r).map fun ds => lend d :: ds := by simp only [res]
@[simp] theorem putB_nil : putB [] [] s = some s := rfl
@[simp] theorem putB_o {i : Nat} {ks : List AK} {d : D} {ios : Sl} : putB (.o i :: ks) (some d :: ios) s = if d.free then putB ks ios (s.set i (some d)) else none := by simp only [putB]
@[simp] theorem putB_v {e : DE} {ks : List AK} {x : Option D} {ios : Sl} : putB (.v e :: ks) (x :: ios) s = putB ks ios s := by simp only [putB]
@[simp] theorem putB_l {i : Nat} {ks : List AK} {x : Option D} {ios : Sl} : putB (.l i :: ks) (x :: ios) s = putB ks ios s := by simp only [putB]
def ioP (F : List D → Out D) (ks : List AK) (Q : D → Sl → Prop) : Option (List (Option D × Nat) × Sl) → Prop
  | some r => (match res r.2 r.1 with
    | some ds => sat (F ds) fun y ios => ∃ δ2, putB ks ios r.2 = some δ2 ∧ Q y δ2
    | none => False)
  | none => False
@[simp] theorem sat_ioK {F : List D → Out D} {ks : List AK} {ts : List D} {Q : D → Sl → Prop} : sat (ioK F ks ts s) Q ↔ ioP F ks Q (tk ks ts s) := by
  unfold ioK ioP
  cases tk ks ts s with
  | none => simp
  | some r =>
    simp only
    cases res r.2 r.1 with
    | none => simp
    | some ds =>
      simp only
      cases F ds with
      | bad => simp
      | exc c xs ios => simp only [sat_exc, iff_false]; split <;> simp
      | ok d ios =>
        simp only [sat_ok]
        cases putB ks ios r.2 <;> simp
@[simp] theorem ioP_s {F : List D → Out D} {ks : List AK} {Q : D → Sl → Prop} {es : List (Option D × Nat)} {δr : Sl} : ioP F ks Q (some (es, δr)) = (match res δr es with
    | some ds => sat (F ds) fun y ios => ∃ δ2, putB ks ios δr = some δ2 ∧ Q y δ2
    | none => False) := rfl
theorem sat_call {F : List D → Out D} {ds : List D} {Q : D → Sl → Prop} (h : sat (F ds) fun y _ => Q y s) : sat (callK F ds s) Q := by
  obtain ⟨y, s', e, h⟩ := h
  rw [callK_ok e]
  exact ⟨y, s, rfl, h⟩
theorem sat_F {N : Nat} {io : List Bool} {ds : DS} {args : List D} {Q : D → Sl → Prop} (hl : args.length = io.length) (h : sat (ds (args.map some ++ List.replicate (N - args.length) none)) fun f s => match f with | .nx => Q .non (ioF io s) | .rt d => Q d (ioF io s) | _ => False) : sat (runF N io ds args) Q := by
  rw [runF_c hl]
  obtain ⟨f, s, e, h⟩ := h
  rw [e]
  cases f with
  | nx => exact ⟨_, _, rfl, h⟩
  | rt d => exact ⟨_, _, rfl, h⟩
  | bk => exact h.elim
  | ct => exact h.elim
theorem sat_loop {tg : D → Sl → Option Sl} {b : DS} (I : List D → Sl → Prop) (hs : ∀ d r s, I (d :: r) s → ∃ s1, tg d s = some s1 ∧ sat (b s1) fun f s2 => (f = .nx ∨ f = .ct) ∧ I r s2) : ∀ {its : List D} {s : Sl}, I its s → sat (loop tg b its s) fun f s2 => f = .nx ∧ I [] s2
  | [], s, h => by rw [loop_nil]; exact sat_ok.mpr ⟨rfl, h⟩
  | d :: r, s, h => by
    obtain ⟨s1, e1, f, s2, e2, hf, h2⟩ := hs d r s h
    rw [loop_cons e1, e2, bind_ok']
    rcases hf with rfl | rfl
    · rw [loopK_nx]; exact sat_loop I hs h2
    · rw [loopK_ct]; exact sat_loop I hs h2
end
end Fs
/-! EV3 -/
/-! Lists of things of one kind; comprehensions and loops at the head of a goal. -/
namespace Fs
open PySem PySem.Spec PyProof.Rows L2
theorem lend_kept : ∀ {d : D}, d.kept = true → lend d = d
  | .v _, _ => by simp
  | .s _, _ => by simp
  | .n _ .shr _, _ => by simp
  | .n _ .own _, h => by simp [D.kept] at h
  | .n _ .bor _, h => by simp [D.kept] at h
class Ke {ρ : Type} (enc : ρ → D) : Prop where
  kept : ∀ x, (enc x).kept = true
instance : Ke D.int := ⟨fun _ => rfl⟩
instance : Ke D.str := ⟨fun _ => rfl⟩
instance : Ke D.bl := ⟨fun _ => rfl⟩
def lnd : Fl → Fl | .own => .bor | .bor => .bor | .shr => .shr
def fzd : Fl → Fl | .own => .shr | .bor => .bor | .shr => .shr
@[simp] theorem lnd_own : lnd .own = .bor := rfl
@[simp] theorem lnd_bor : lnd .bor = .bor := rfl
@[simp] theorem lnd_shr : lnd .shr = .shr := rfl
@[simp] theorem fzd_own : fzd .own = .shr := rfl
@[simp] theorem fzd_shr : fzd .shr = .shr := rfl
section
variable {ρ τ : Type} {enc : ρ → D} {w w' : Fl} {xs ys : List ρ} {s δ : Sl}
def Lst (enc : ρ → D) (w : Fl) (xs : List ρ) : D := .n .lst w (xs.map enc)
def Tpl (enc : ρ → D) (xs : List ρ) : D := .n .tup .shr (xs.map enc)
instance [Ke enc] : Ke (Lst enc .shr) := ⟨fun _ => rfl⟩
instance : Ke (Tpl enc) := ⟨fun _ => rfl⟩
theorem lends_enc [Ke enc] : ∀ xs : List ρ, lends (xs.map enc) = xs.map enc
  | [] => by simp
  | x :: xs => by simp [lends_enc xs, lend_kept (Ke.kept (enc := enc) x)]
theorem frzs_enc [Ke enc] : ∀ xs : List ρ, frzs (xs.map enc) = xs.map enc
  | [] => by simp
  | x :: xs => by simp [frzs_enc xs, frz_kept (Ke.kept (enc := enc) x)]
theorem all_enc [Ke enc] (xs : List ρ) : (xs.map enc).all D.kept = true := by
  simp only [List.all_map, List.all_eq_true]
  intro x _; exact Ke.kept x
@[simp] theorem lend_Lst [Ke enc] : lend (Lst enc w xs) = Lst enc (lnd w) xs := by
  unfold Lst; cases w <;> simp [lnd, lends_enc]
@[simp] theorem frz_Lst [Ke enc] : frz (Lst enc w xs) = Lst enc (fzd w) xs := by
  unfold Lst; cases w <;> simp [fzd, frzs_enc, frz]
@[simp] theorem lend_Tpl : lend (Tpl enc xs) = Tpl enc xs := by unfold Tpl; simp
@[simp] theorem frz_Tpl : frz (Tpl enc xs) = Tpl enc xs := by unfold Tpl; simp
@[simp] theorem kept_Lst : (Lst enc .shr xs).kept = true := rfl
@[simp] theorem kept_Tpl : (Tpl enc xs).kept = true := rfl
@[simp] theorem filt_Tpl : Option.filter D.kept (some (Tpl enc xs)) = some (Tpl enc xs) := rfl
@[simp] theorem filt_Lst : Option.filter D.kept (some (Lst enc .shr xs)) = some (Lst enc .shr xs) := rfl
theorem free_all [Ke enc] : ∀ xs : List ρ, (∀ x ∈ xs.map enc, D.kept x = true) := fun xs x hx => by
  obtain ⟨y, _, rfl⟩ := List.mem_map.mp hx; exact Ke.kept y
@[simp] theorem len_Lst : lenD (Lst enc w xs) = some (.v (.int (xs.length : Int))) := by simp [Lst, lenD]
@[simp] theorem len_Tpl : lenD (Tpl enc xs) = some (.v (.int (xs.length : Int))) := by simp [Tpl, lenD]
@[simp] theorem isl_Lst : isiD "list" (Lst enc w xs) = some (.v (.bl true)) := rfl
@[simp] theorem isl_Tpl : isiD "tuple" (Tpl enc xs) = some (.v (.bl true)) := rfl
@[simp] theorem it_Lst [Ke enc] : itA true (Lst enc w xs) = some (xs.map enc) := by
  simp only [Lst, itA]
  rw [if_pos ⟨all_enc xs, .inl (by trivial)⟩]
theorem it_LstB [Ke enc] {p : Bool} (h : w ≠ .own) : itA p (Lst enc w xs) = some (xs.map enc) := by
  simp only [Lst, itA]
  rw [if_pos ⟨all_enc xs, .inr h⟩]
@[simp] theorem it_LstB1 [Ke enc] {p : Bool} : itA p (Lst enc .bor xs) = some (xs.map enc) := it_LstB (by decide)
@[simp] theorem it_LstB2 [Ke enc] {p : Bool} : itA p (Lst enc .shr xs) = some (xs.map enc) := it_LstB (by decide)
@[simp] theorem it_Tpl [Ke enc] {p : Bool} : itA p (Tpl enc xs) = some (xs.map enc) := by
  simp only [Tpl, itA]
  rw [if_pos ⟨all_enc xs, .inr (by decide)⟩]
theorem ix_Lst [Ke enc] {i : Nat} {x : ρ} (h : xs[i]? = some x) : ixD (Lst enc w xs) (.v (.int (i : Int))) = some (enc x) := by
  have hl : i < xs.length := (List.getElem?_eq_some_iff.mp h).1
  simp only [Lst, ixD, atI, ixN]
  have h2 : xs[i] = x := by rw [List.getElem?_eq_getElem hl] at h; exact Option.some.inj h
  simp [hl, h2]
theorem ixK_Lst [Ke enc] {i : Nat} {x : ρ} (h : xs[i]? = some x) : ixK (Lst enc w xs) (.v (.int (i : Int))) = some (enc x) := by
  unfold ixK
  rw [ix_Lst h]
  simp [Option.filter, Ke.kept]
theorem ixI_Lst [Ke enc] {i : Int} (h0 : 0 ≤ i) (h1 : i < xs.length) : ∃ x, x ∈ xs ∧ xs[i.toNat]? = some x ∧ ixK (Lst enc w xs) (.v (.int i)) = some (enc x) ∧ ixD (Lst enc w xs) (.v (.int i)) = some (enc x) := by
  obtain ⟨n, rfl⟩ : ∃ n : Nat, i = (n : Int) := ⟨i.toNat, by omega⟩
  have h2 : n < xs.length := by omega
  have h3 : xs[n]? = some xs[n] := List.getElem?_eq_getElem h2
  exact ⟨xs[n], List.getElem_mem h2, h3, ixK_Lst h3, ix_Lst h3⟩
theorem add_Lst [Ke enc] (h : xs.length + ys.length ≤ 100000) : addA (Lst enc w xs) (Lst enc w' ys) = some (Lst enc .own (xs ++ ys)) := by
  simp only [Lst, addA]
  rw [if_pos ⟨by simpa using h, all_enc xs, all_enc ys⟩]
  simp
@[simp] theorem list_Lst [Ke enc] : listD (Lst enc w xs) = some (Lst enc .own xs) := by
  simp only [Lst, listD, all_enc, if_true]
@[simp] theorem list_Tpl [Ke enc] : listD (Tpl enc xs) = some (Lst enc .own xs) := by
  simp only [Lst, Tpl, listD, all_enc, if_true]
@[simp] theorem tup_Lst [Ke enc] : tupD (Lst enc w xs) = some (Tpl enc xs) := by
  simp only [Lst, Tpl, tupD, all_enc, if_true]
theorem sl_Lst [Ke enc] {a b : D} {lo hi : Option Int} (ha : partD a = some lo) (hb : partD b = some hi) : slD [Lst enc w xs, a, b] = some (Lst enc .own (cutD xs lo hi)) := by
  simp only [Lst, slD, ha, hb, Option.bind_some, all_enc, if_true, cutD, List.map_drop, List.map_take, List.length_map]
/-! numbers -/
theorem seqI_I {ns : List Int} : seqI (Lst D.int w ns) = some ns := by
  have : ∀ ns : List Int, intsD (ns.map D.int) = some ns := fun ns => by
    induction ns with
    | nil => rfl
    | cons i ns ih => simp [intsD, ih]
  simp [Lst, seqI, seqL, this]
@[simp] theorem sum_I {ns : List Int} : sumD (Lst D.int w ns) = some (.v (.int ns.sum)) := by simp only [sumD, seqI_I]; rfl
theorem maxL_I {ns : List Int} : maxLD (Lst D.int w ns) = (maxI ns).map D.int := by simp only [maxLD, seqI_I, Option.bind_some]
theorem minL_I {ns : List Int} : minLD (Lst D.int w ns) = (minI ns).map D.int := by simp only [minLD, seqI_I, Option.bind_some]
@[simp] theorem maxDf_I {ns : List Int} {k : Int} : maxDfD (Lst D.int w ns) (.v (.int k)) = some (.v (.int ((maxI ns).getD k))) := by
  simp only [maxDfD, seqI_I, Option.bind_some]
  cases maxI ns <;> rfl
@[simp] theorem sort_I {ns : List Int} : sortD (Lst D.int w ns) = some (Lst D.int .own (isrt ns)) := by simp only [sortD, seqI_I]; rfl
@[simp] theorem sortSet_I {ns : List Int} (h : ns.length < 64) : sortSetD (Lst D.int w ns) = some (Lst D.int .own (sset ns)) := by
  simp only [sortSetD, seqI_I, Option.bind_some, if_pos h]; rfl
/-! displays -/
@[simp] theorem mkI1 {a : Int} : mkLst [.v (.int a)] = some (Lst D.int .own [a]) := rfl
@[simp] theorem mkI2 {a b : Int} : mkLst [.v (.int a), .v (.int b)] = some (Lst D.int .own [a, b]) := rfl
@[simp] theorem mkI3 {a b c : Int} : mkLst [.v (.int a), .v (.int b), .v (.int c)] = some (Lst D.int .own [a, b, c]) := rfl
@[simp] theorem mkI4 {a b c d : Int} : mkLst [.v (.int a), .v (.int b), .v (.int c), .v (.int d)] = some (Lst D.int .own [a, b, c, d]) := rfl
@[simp] theorem mkI5 {a b c d e : Int} : mkLst [.v (.int a), .v (.int b), .v (.int c), .v (.int d), .v (.int e)] = some (Lst D.int .own [a, b, c, d, e]) := rfl
@[simp] theorem mkI6 {a b c d e f : Int} : mkLst [.v (.int a), .v (.int b), .v (.int c), .v (.int d), .v (.int e), .v (.int f)] = some (Lst D.int .own [a, b, c, d, e, f]) := rfl
@[simp] theorem mkI7 {a b c d e f g : Int} : mkLst [.v (.int a), .v (.int b), .v (.int c), .v (.int d), .v (.int e), .v (.int f), .v (.int g)] = some (Lst D.int .own [a, b, c, d, e, f, g]) := rfl
@[simp] theorem mkI8 {a b c d e f g h : Int} : mkLst [.v (.int a), .v (.int b), .v (.int c), .v (.int d), .v (.int e), .v (.int f), .v (.int g), .v (.int h)] = some (Lst D.int .own [a, b, c, d, e, f, g, h]) := rfl
/-! comparing -/
class EqE {ρ : Type} (enc : ρ → D) (ok : outParam (ρ → Prop)) where
  p : ρ → PyData
  pd_eq : ∀ x, pd (enc x) = some (p x)
  lay : ∀ x, ok x → PyData.canLay0 (p x) = true
  dep : ∀ x, PyData.depth (p x) ≤ 8
  eqv : ∀ x y, PyData.eqv (p x) (p y) = true ↔ x = y
def okS (z : Str) : Prop := ∀ c ∈ z.cps.toList, c < 1114112
theorem strOk_of {z : Str} (h : okS z) : PyData.strOk z = true := by
  simp [PyData.strOk]; intro i hi; exact h _ (by simp)
instance : EqE D.int (fun _ => True) := ⟨.int, fun _ => by simp [pd], fun _ _ => by simp [PyData.canLay0], fun _ => by simp [PyData.depth], fun x y => by simp [PyData.eqv]⟩
instance : EqE D.str okS := ⟨.str, fun _ => by simp [pd], fun _ h => by simpa [PyData.canLay0] using strOk_of h, fun _ => by simp [PyData.depth], fun x y => by simp [PyData.eqv]⟩
theorem pds_enc {ok : ρ → Prop} [E : EqE enc ok] : ∀ xs : List ρ, pds (xs.map enc) = some (xs.map E.p)
  | [] => rfl
  | x :: xs => by simp [pds, E.pd_eq, pds_enc xs]
theorem lay_enc {ok : ρ → Prop} [E : EqE enc ok] : ∀ xs : List ρ, (∀ x ∈ xs, ok x) → PyData.canLayAll0 (xs.map E.p) = true
  | [], _ => rfl
  | x :: xs, h => by simp [PyData.canLayAll0, E.lay x (h x List.mem_cons_self), lay_enc xs fun y hy => h y (List.mem_cons_of_mem _ hy)]
theorem dep_enc {ok : ρ → Prop} [E : EqE enc ok] : ∀ xs : List ρ, PyData.depthAll (xs.map E.p) ≤ 8
  | [] => by simp [PyData.depthAll]
  | x :: xs => by
    have h1 := E.dep x
    have h2 := dep_enc (E := E) xs
    simp only [List.map_cons, PyData.depthAll]
    omega
theorem eqv_enc {ok : ρ → Prop} [E : EqE enc ok] : ∀ xs ys : List ρ, PyData.eqvAll (xs.map E.p) (ys.map E.p) = true ↔ xs = ys
  | [], [] => by simp [PyData.eqvAll]
  | [], y :: ys => by simp [PyData.eqvAll]
  | x :: xs, [] => by simp [PyData.eqvAll]
  | x :: xs, y :: ys => by simp [PyData.eqvAll, E.eqv, eqv_enc xs ys]
theorem eqD_of {x y : D} {a b : PyData} (hx : pd x = some a) (hy : pd y = some b) (ha : SeqAt.shaped a = true) (hb : SeqAt.shaped b = true) : eqD x y = some (.v (.bl (PyData.eqv a b))) := by
  unfold eqD
  rw [hx, hy]
  simp only [Option.bind_some]
  rw [if_pos ⟨ha, hb⟩]
theorem neD_of {x y : D} {a b : PyData} (hx : pd x = some a) (hy : pd y = some b) (ha : SeqAt.shaped a = true) (hb : SeqAt.shaped b = true) : neD x y = some (.v (.bl (!PyData.eqv a b))) := by
  unfold neD
  rw [hx, hy]
  simp only [Option.bind_some]
  rw [if_pos ⟨ha, hb⟩]
theorem sh_enc {ok : ρ → Prop} [E : EqE enc ok] (h : ∀ x ∈ xs, ok x) : SeqAt.shaped (.list (xs.map E.p)) = true := by
  have h2 := dep_enc (E := E) xs
  simp [SeqAt.shaped, PyData.canLay0, PyData.depth, lay_enc xs h]
  omega
theorem shT_enc {ok : ρ → Prop} [E : EqE enc ok] (h : ∀ x ∈ xs, ok x) : SeqAt.shaped (.tuple (xs.map E.p)) = true := by
  have h2 := dep_enc (E := E) xs
  simp [SeqAt.shaped, PyData.canLay0, PyData.depth, lay_enc xs h]
  omega
theorem eq_Lst [DecidableEq ρ] {ok : ρ → Prop} [E : EqE enc ok] (hx : ∀ x ∈ xs, ok x) (hy : ∀ x ∈ ys, ok x) : eqD (Lst enc w xs) (Lst enc w' ys) = some (.v (.bl (decide (xs = ys)))) := by
  rw [eqD_of (a := .list (xs.map E.p)) (b := .list (ys.map E.p)) (by simp [Lst, pd, pds_enc]) (by simp [Lst, pd, pds_enc]) (sh_enc hx) (sh_enc hy)]
  have := eqv_enc (E := E) xs ys
  simp only [PyData.eqv]
  congr 3
  rw [Bool.eq_iff_iff, this]; simp
theorem ne_Lst [DecidableEq ρ] {ok : ρ → Prop} [E : EqE enc ok] (hx : ∀ x ∈ xs, ok x) (hy : ∀ x ∈ ys, ok x) : neD (Lst enc w xs) (Lst enc w' ys) = some (.v (.bl (!decide (xs = ys)))) := by
  rw [neD_of (a := .list (xs.map E.p)) (b := .list (ys.map E.p)) (by simp [Lst, pd, pds_enc]) (by simp [Lst, pd, pds_enc]) (sh_enc hx) (sh_enc hy)]
  have := eqv_enc (E := E) xs ys
  simp only [PyData.eqv]
  congr 4
  rw [Bool.eq_iff_iff, this]; simp
theorem eqT_Lst [DecidableEq ρ] {ok : ρ → Prop} [E : EqE enc ok] (hx : ∀ x ∈ xs, ok x) (hy : ∀ x ∈ ys, ok x) : eqD (Tpl enc xs) (Tpl enc ys) = some (.v (.bl (decide (xs = ys)))) := by
  rw [eqD_of (a := .tuple (xs.map E.p)) (b := .tuple (ys.map E.p)) (by simp [Tpl, pd, pds_enc]) (by simp [Tpl, pd, pds_enc]) (shT_enc hx) (shT_enc hy)]
  have := eqv_enc (E := E) xs ys
  simp only [PyData.eqv]
  congr 3
  rw [Bool.eq_iff_iff, this]; simp
theorem neT_Lst [DecidableEq ρ] {ok : ρ → Prop} [E : EqE enc ok] (hx : ∀ x ∈ xs, ok x) (hy : ∀ x ∈ ys, ok x) : neD (Tpl enc xs) (Tpl enc ys) = some (.v (.bl (!decide (xs = ys)))) := by
  rw [neD_of (a := .tuple (xs.map E.p)) (b := .tuple (ys.map E.p)) (by simp [Tpl, pd, pds_enc]) (by simp [Tpl, pd, pds_enc]) (shT_enc hx) (shT_enc hy)]
  have := eqv_enc (E := E) xs ys
  simp only [PyData.eqv]
  congr 4
  rw [Bool.eq_iff_iff, this]; simp
theorem eq_nil {ok : ρ → Prop} [E : EqE enc ok] (hx : ∀ x ∈ xs, ok x) : eqD (Lst enc w xs) (.n .lst w' []) = some (.v (.bl xs.isEmpty)) := by
  rw [eqD_of (a := .list (xs.map E.p)) (b := .list []) (by simp [Lst, pd, pds_enc]) (by simp [pd, pds]) (sh_enc hx) (by decide)]
  cases xs <;> simp [PyData.eqv, PyData.eqvAll]
theorem ne_nil' {ok : ρ → Prop} [E : EqE enc ok] (hx : ∀ x ∈ xs, ok x) : neD (Lst enc w xs) (.n .lst w' []) = some (.v (.bl (!xs.isEmpty))) := by
  rw [neD_of (a := .list (xs.map E.p)) (b := .list []) (by simp [Lst, pd, pds_enc]) (by simp [pd, pds]) (sh_enc hx) (by decide)]
  cases xs <;> simp [PyData.eqv, PyData.eqvAll]
/-! comprehensions -/
variable {keep : Bool} {vs : List Nat} {di : DA} {tg : D → Sl → Option Sl} {tst : DT} {elt : DE} {Q : D → Sl → Prop} {out : τ → D}
theorem comp_go [Ke out] (st : ρ → Sl) (t : ρ → Bool) (f : ρ → τ) : ∀ (xs : List ρ) (acc : List D), (∀ x ∈ xs, tg (enc x) δ = some (st x) ∧ wipeD (st x) vs = δ ∧ tst (st x) = .ok (t x) (st x) ∧ (t x = true → elt (st x) = .ok (out (f x)) (st x))) → acc.length + xs.length ≤ 100000 → comp vs tg tst elt (xs.map enc) acc δ = .ok (acc ++ ((xs.filter t).map f).map out) δ
  | [], acc, _, _ => by simp [comp]
  | x :: xs, acc, h, hl => by
    obtain ⟨h1, h2, h3, h4⟩ := h x List.mem_cons_self
    rw [List.map_cons]
    unfold comp
    simp only [h1, h3, noX_ok, bind_ok']
    cases ht : t x with
    | true =>
      simp only [h4 ht, noX_ok, bind_ok', frz_kept (Ke.kept (enc := out) (f x))]
      rw [if_pos (by simp at hl; omega), h2, comp_go st t f xs (acc ++ [out (f x)]) (fun y hy => h y (List.mem_cons_of_mem _ hy)) (by simp at hl ⊢; omega)]
      simp [ht]
    | false =>
      simp only
      rw [h2, comp_go st t f xs acc (fun y hy => h y (List.mem_cons_of_mem _ hy)) (by simp at hl ⊢; omega)]
      simp [ht]
theorem dComp_go [Ke out] (st : ρ → Sl) (t : ρ → Bool) (f : ρ → τ) {δ0 : Sl} (h1 : di δ0 = .ok (xs.map enc) δ) (hw : wipeD δ vs = δ) (h : ∀ x ∈ xs, tg (enc x) δ = some (st x) ∧ wipeD (st x) vs = δ ∧ tst (st x) = .ok (t x) (st x) ∧ (t x = true → elt (st x) = .ok (out (f x)) (st x))) (hl : xs.length ≤ 100000) : dComp keep vs di tg tst elt δ0 = .ok (Lst out .own ((xs.filter t).map f)) δ := by
  unfold dComp
  rw [h1, bind_ok', hw, comp_go st t f xs [] h (by simpa using hl), bind_ok']
  cases keep <;> simp [Lst]
/-- [elt for v in its if tst] -/
theorem sat_cmp {i : Nat} [Ke out] (enc : ρ → D) (xs : List ρ) (t : ρ → Bool) (f : ρ → τ) (hd : sat (di s) fun a s' => a = xs.map enc ∧ s' = s) (hw : s.set i none = s) (h : ∀ x ∈ xs, tst (s.set i (some (enc x))) = .ok (t x) (s.set i (some (enc x))) ∧ (t x = true → elt (s.set i (some (enc x))) = .ok (out (f x)) (s.set i (some (enc x))))) (hl : xs.length ≤ 100000) (k : Q (Lst out .own ((xs.filter t).map f)) s) : sat (dComp keep [i] di (tgN i) tst elt s) Q := by
  obtain ⟨a, s', e, rfl, rfl⟩ := hd
  rw [dComp_go (enc := enc) (fun x => s'.set i (some (enc x))) t f e (by simpa [wipeD] using hw) (fun x hx => ⟨rfl, by simp only [wipeD, List.set_set]; exact hw, (h x hx).1, (h x hx).2⟩) hl]
  exact sat_ok.mpr k
/-- [elt for v in its] -/
theorem sat_cm {i : Nat} [Ke out] (enc : ρ → D) (xs : List ρ) (f : ρ → τ) (hd : sat (di s) fun a s' => a = xs.map enc ∧ s' = s) (hw : s.set i none = s) (h : ∀ x ∈ xs, elt (s.set i (some (enc x))) = .ok (out (f x)) (s.set i (some (enc x)))) (hl : xs.length ≤ 100000) (k : Q (Lst out .own (xs.map f)) s) : sat (dComp keep [i] di (tgN i) dtYes elt s) Q :=
  sat_cmp enc xs (fun _ => true) f hd hw (fun x hx => ⟨rfl, fun _ => h x hx⟩) hl (by rw [List.filter_eq_self.mpr (fun _ _ => rfl)]; exact k)
/-! loops -/
/-- a loop: what holds behind the first things; a return or a break may end it -/
theorem sat_for {b : DS} {P : Flow → Sl → Prop} (I : List ρ → Sl → Prop) (hs : ∀ pre x post s, xs = pre ++ x :: post → I pre s → ∃ s1, tg (enc x) s = some s1 ∧ sat (b s1) fun f s2 => match f with | .nx => I (pre ++ [x]) s2 | .ct => I (pre ++ [x]) s2 | .bk => P .nx s2 | .rt d => P (.rt d) s2) (h0 : I [] s) (k : ∀ s, I xs s → P .nx s) : sat (loop tg b (xs.map enc) s) P := by
  have key : ∀ (post pre : List ρ) (s : Sl), xs = pre ++ post → I pre s → sat (loop tg b (post.map enc) s) P := by
    intro post
    induction post with
    | nil =>
      intro pre s e h
      rw [List.append_nil] at e
      subst e
      exact sat_ok.mpr (k s h)
    | cons x post ih =>
      intro pre s e h
      obtain ⟨s1, e1, f, s2, e2, h2⟩ := hs pre x post s e h
      rw [List.map_cons, loop_cons e1, e2, bind_ok']
      cases f with
      | nx => rw [loopK_nx]; exact ih (pre ++ [x]) s2 (by simp [e]) h2
      | ct => rw [loopK_ct]; exact ih (pre ++ [x]) s2 (by simp [e]) h2
      | bk => rw [loopK_bk]; exact sat_ok.mpr h2
      | rt d => rw [loopK_rt]; exact sat_ok.mpr h2
  exact key xs [] s rfl h0
theorem sat_appG {i : Nat} {a : DE} [Ke enc] (hi : (s[i]?).join = some (Lst enc w xs)) (ha : sat (a s) fun y s1 => ∃ x ys, y = enc x ∧ (s1[i]?).join = some (Lst enc .own ys) ∧ ys.length < 100000 ∧ Q .non (s1.set i (some (Lst enc .own (ys ++ [x]))))) : sat (dApp i a s) Q := by
  obtain ⟨y, s', e, x, ys, rfl, h1, hl, k⟩ := ha
  unfold dApp
  unfold Lst at hi h1
  rw [hi]
  simp only [e, bind_ok', h1, List.length_map, hl, if_true, frz_kept (Ke.kept (enc := enc) x)]
  refine sat_ok.mpr ?_
  have : Lst enc .own (ys ++ [x]) = .n .lst .own (ys.map enc ++ [enc x]) := by simp [Lst]
  rw [← this]
  exact k
theorem sat_app' {i : Nat} {a : DE} [Ke enc] (x : ρ) (hi : (s[i]?).join = some (Lst enc .own xs)) (ha : sat (a s) fun y s' => y = enc x ∧ s' = s) (hl : xs.length < 100000) (k : Q .non (s.set i (some (Lst enc .own (xs ++ [x]))))) : sat (dApp i a s) Q :=
  sat_appG (w := .own) hi (sat_mono ha fun y s1 ⟨h1, h2⟩ => ⟨x, xs, h1, by rw [h2]; exact hi, hl, by rw [h2]; exact k⟩)
@[simp] theorem free_Lst : (Lst enc .own xs).free = true := rfl
@[simp] theorem free_LstS : (Lst enc .shr xs).free = true := rfl
@[simp] theorem free_Tpl : (Tpl enc xs).free = true := rfl
@[simp] theorem free_v {v : V} : (D.v v).free = true := rfl
@[simp] theorem free_shr {k : Kd} {ds : List D} : (D.n k .shr ds).free = true := rfl
@[simp] theorem free_own {k : Kd} {ds : List D} : (D.n k .own ds).free = true := rfl
theorem sat_forE {i : Nat} {d : D} {it : D → Option (List D)} {its : List D} {b : DS} {P : Flow → Sl → Prop} (hd : (s[i]?).join = some d) (hf : d.free = true) (hi : it d = some its) (h : sat (loop tg b its (s.set i none)) fun f s' => s'[i]? = some none ∧ P f (s'.set i (some d))) : sat (dsForE i it tg b s) P := by
  obtain ⟨f, s', e, h1, h2⟩ := h
  unfold dsForE
  simp only [hd, hf, if_true, hi, e, backE, gapE, h1]
  exact sat_ok.mpr h2
theorem sat_ext {i : Nat} {e : DE} [Ke enc] (hi : (s[i]?).join = some (Lst enc .own xs)) (he : sat (e s) fun y s' => y = Lst enc w ys ∧ s' = s) (hl : xs.length + ys.length ≤ 100000) (k : Q .non (s.set i (some (Lst enc .own (xs ++ ys))))) : sat (dMut (plV i) "list" mExtend (daCons e daNil) s) Q := by
  obtain ⟨y, s', e1, rfl, rfl⟩ := he
  have e2 : daCons e daNil s' = .ok [Lst enc w ys] s' := by
    show (e s').bind _ = _
    rw [e1]; rfl
  have e3 : mExtend (Lst enc .own xs) [Lst enc w ys] = some (Lst enc .own (xs ++ ys), .non) := by
    simp only [Lst, mExtend]
    rw [if_pos ⟨by simpa using hl, all_enc ys⟩]
    simp
  have e4 : (tyF "list" (Lst enc .own xs)).isSome = true := rfl
  unfold dMut dMutC
  simp only [plV, hi, getP, free_Lst, ownP, Bool.and_self, if_true, e4, e2, bind_ok', mutEnd, e3]
  exact sat_ok.mpr k
def natE (k : Nat) : D := .v (.int (k : Int))
instance : Ke natE := ⟨fun _ => rfl⟩
theorem itR_I {i : Int} (h0 : 0 ≤ i) (h1 : i ≤ 100000) : itR (.v (.int i)) = some ((List.range i.toNat).map natE) := by
  simp only [itR]
  rw [if_pos (by omega)]
  rfl
theorem law_of {F : List D → Out D} {ns : List Int} (h : sat (F [.s ns]) fun y _ => y = .bl true) : ∃ s, F [.s ns] = .ok (.bl true) s := by
  obtain ⟨y, s, e, rfl⟩ := h
  exact ⟨s, e⟩
end
end Fs
/-! P1 -/
/-! The law's draws. -/
namespace Lw
open PySem PySem.Spec PyProof.Rows L2 Fs
abbrev boxD (a b c : Int) : D := .n .lst .own [.int a, .int b, .int c]
def IsBox (d : D) : Prop := ∃ a b c : Int, d = boxD a b c ∧ 0 ≤ b ∧ b < 2147483647
theorem IsBox.free {d : D} (h : IsBox d) : d.free = true := by obtain ⟨a, b, c, rfl, _⟩ := h; rfl
theorem emod_b (x m : Int) (h : 0 < m) : 0 ≤ x % m ∧ x % m < m := ⟨Int.emod_nonneg x (by omega), Int.emod_lt_of_pos x h⟩
theorem take_sp {d : D} {m : Int} (h : IsBox d) (hm : 0 < m) (hm2 : m < 1073741824) : sat (F_L_law_take [d, .int m]) fun y ios => ∃ r d', y = .int r ∧ ios = [some d', none] ∧ 0 ≤ r ∧ r < m ∧ IsBox d' := by
  obtain ⟨a, b, c, rfl, hb, hb2⟩ := h
  refine sat_F rfl ?_
  by_cases ha : 0 < a
  · simp [d_L_law_take, ha, cMod_p hm, cDiv_p hm hm2, ioF]
    exact ⟨(emod_b a m hm).1, (emod_b a m hm).2, _, _, _, rfl, hb, hb2⟩
  · have h1 := emod_b (b * 48271 + 7919 * (c + 1) + 11) 2147483629 (by omega)
    generalize hx : (b * 48271 + 7919 * (c + 1) + 11) % 2147483629 = n1 at h1
    have h2 := emod_b (n1 * n1 % 2147483587 * 69621) 2147483647 (by omega)
    generalize hy : n1 * n1 % 2147483587 * 69621 % 2147483647 = n2 at h2
    have e1 : cMul n1 n1 = true := cMul_l (by omega)
    have e2 : cMul n2 n2 = true := cMul_l (by omega)
    have e3 : ∀ i, cMul i 48271 = true := fun i => cMul_r (by decide)
    have e4 : ∀ i, cMul 7919 i = true := fun i => cMul_l (by decide)
    have e5 : ∀ i, cMul i 69621 = true := fun i => cMul_r (by decide)
    have e6 : ∀ i j : Int, 0 < j → cMod i j = true := fun i j h => cMod_p h
    have e7 : ∀ i, cDiv i 8 = true := fun i => cDiv_p (by decide) (by decide)
    simp [d_L_law_take, ha, e1, e2, e3, e4, e5, e6, e7, hm, hx, hy, ioF]
    exact ⟨(emod_b _ m hm).1, (emod_b _ m hm).2, _, _, _, rfl, hb, hb2⟩
@[simp] theorem eqD_int {i j : Int} : eqD (.v (.int i)) (.v (.int j)) = some (.v (.bl (decide (i = j)))) := by
  have h1 : ∀ k : Int, SeqAt.shaped (.int k) = true := fun k => rfl
  simp only [eqD, pd, Option.bind_some, h1, and_self, if_true]
  simp only [PyData.eqv, Option.some.injEq, D.v.injEq, V.bl.injEq]; by_cases h : i = j <;> simp [h]
@[simp] theorem neD_int {i j : Int} : neD (.v (.int i)) (.v (.int j)) = some (.v (.bl (!decide (i = j)))) := by
  have h1 : ∀ k : Int, SeqAt.shaped (.int k) = true := fun k => rfl
  simp only [neD, pd, Option.bind_some, h1, and_self, if_true]
  simp only [PyData.eqv, Option.some.injEq, D.v.injEq, V.bl.injEq]; by_cases h : i = j <;> simp [h]
theorem len_scr {ns : List Int} : lenD (.s ns) = some (.int (ns.length : Int)) := rfl
theorem box_sp (i : Int) : sat (F_L_law_box [.int i]) fun y _ => IsBox y := by
  refine sat_F rfl ?_
  have e1 : cMod i 2147483647 = true := cMod_p (by decide)
  have h := emod_b i 2147483647 (by decide)
  have e2 : powD (.v (.int 10)) (.v (.int 18)) = some (.v (.int (10 ^ 18))) := rfl
  simp [d_L_law_box, e1, e2, mkLst]
  exact ⟨_, _, _, rfl, h.1, h.2⟩
theorem cell_sp (ns : List Int) (k : Nat) (hk : k ≤ 100) : sat (F_L_law_cell [.s ns, .int (k : Int)]) fun y _ => ∃ i, y = .int i := by
  refine sat_F rfl ?_
  by_cases h : k < ns.length
  · have e : ixD (.s ns) (.v (.int (k : Int))) = some (.int ns[k]) := by
      simp only [ixD, atI, ixN]
      simp [h]
    simp [d_L_law_cell, len_scr, h, e]
  · have h3 : ¬ ((k : Int) < ns.length) := by omega
    by_cases h0 : ns.length = 0
    · have e1 : cMul 48271 (k : Int) = true := cMul_l (by decide)
      have h4 : ¬ ((k : Int) < 0) := by omega
      simp [d_L_law_cell, len_scr, h0, h4, e1]
    · have h5 : ¬ (ns = []) := fun z => h0 (by rw [z]; rfl)
      have e1 : cMod (k : Int) (ns.length : Int) = true := cMod_p (by omega)
      have hm := emod_b (k : Int) (ns.length : Int) (by omega)
      have e2 : ixK (.s ns) (.v (.int ((k : Int) % (ns.length : Int)))) = some (.int (ns[((k : Int) % (ns.length : Int)).toNat]'(by omega))) := by
        simp only [ixK, ixD, atI, ixN]
        have : ((k : Int) % (ns.length : Int)).toNat < ns.length := by omega
        simp [hm.1, hm.2, this]
      have e3 : ∀ i : Int, cDiv i ((k : Int) + 1) = true := fun i => cDiv_p (by omega) (by omega)
      have e4 : cMul 7919 (k : Int) = true := cMul_l (by decide)
      simp [d_L_law_cell, len_scr, h, h3, h5, e1, e2, e3, e4]
end Lw
/-! P2 -/
/-! Words and rows. -/
namespace Lw
open PySem PySem.Spec PyProof.Rows L2 Fs
section
variable {s : Sl}
theorem callK_F {N : Nat} {io : List Bool} {ds : DS} {args : List D} {d : D} (hl : args.length = io.length) (h : sat (ds (args.map some ++ List.replicate (N - args.length) none)) fun f _ => match f with | .nx => d = .non | .rt x => x = d | _ => False) : callK (runF N io ds) args s = .ok d s := by
  have h2 : sat (runF N io ds args) fun y _ => y = d := sat_F hl (sat_mono h fun f s h => by cases f <;> first | exact h.symm | exact h)
  obtain ⟨y, s', e, rfl⟩ := h2
  exact callK_ok e
@[simp] theorem isi_int_i {i : Int} : isiD "int" (.v (.int i)) = some (.v (.bl true)) := rfl
@[simp] theorem isi_bool_i {i : Int} : isiD "bool" (.v (.int i)) = some (.v (.bl false)) := rfl
@[simp] theorem isi_str_s {z : Str} : isiD "str" (.v (.str z)) = some (.v (.bl true)) := rfl
@[simp] theorem isi_tup {w : Fl} {ds : List D} : isiD "tuple" (.n .tup w ds) = some (.v (.bl true)) := rfl
@[simp] theorem is_whole_c {i : Int} : callK F_words_is_whole [.v (.int i)] s = .ok (.v (.bl true)) s := callK_F rfl (by simp [d_words_is_whole])
@[simp] theorem is_within_c {i lo hi : Int} : callK F_words_is_within [.v (.int i), .v (.int lo), .v (.int hi)] s = .ok (.v (.bl (decide (lo ≤ i) && decide (i ≤ hi)))) s := callK_F rfl (by
  by_cases h : lo ≤ i <;> simp [d_words_is_within, h])
/-! texts -/
abbrev sg (c : Nat) : D := D.str ⟨#[c]⟩
def LF : List Nat := (("abcdefghijklmnopqrstuvwxyz" : Str) ++ ("0123456789" : Str)).cps.toList
def LT : List Nat := ("abcdefghijklmnopqrstuvwxyz" : Str).cps.toList
theorem len_cps (z : Str) : z.length = z.cps.toList.length := by simp [Str.length]
theorem Str.ext' {a b : Str} (h : a.cps.toList = b.cps.toList) : a = b := by
  obtain ⟨⟨x⟩⟩ := a; obtain ⟨⟨y⟩⟩ := b
  simp only at h
  rw [h]
def nameB (cs : List Nat) : Bool := match cs with
  | [] => false
  | c :: _ => decide (cs.length ≤ 8) && (decide (c ∈ LT) && cs.all fun c => decide (c ∈ LF))
theorem allB_map (f : Nat → Bool) : ∀ cs : List Nat, Fs.allB (cs.map fun c => D.bl (f c)) = some (cs.all f)
  | [] => rfl
  | c :: cs => by simp [Fs.allB, allB_map f cs]
/-! comprehensions whose parts change nothing -/
theorem comp_filt {i : Nat} {tst : DT} {elt : DE} {g : D → D} {t : D → Bool} {δ : Sl} (hw : δ.set i none = δ) : ∀ (its acc : List D), (∀ d ∈ its, tst (δ.set i (some d)) = .ok (t d) (δ.set i (some d)) ∧ (t d = true → elt (δ.set i (some d)) = .ok (g d) (δ.set i (some d)) ∧ frz (g d) = g d)) → acc.length + its.length ≤ 100000 → comp [i] (tgN i) tst elt its acc δ = .ok (acc ++ (its.filter t).map g) δ
  | [], acc, _, _ => by simp [comp]
  | d :: its, acc, h, hl => by
    have h1 := h d List.mem_cons_self
    unfold comp
    have e0 : (tgN i) d δ = some (δ.set i (some d)) := rfl
    have e1 : wipeD (δ.set i (some d)) [i] = δ := by simp only [wipeD, List.set_set]; exact hw
    simp only [e0, h1.1, noX_ok, bind_ok']
    cases ht : t d with
    | true =>
      simp only [(h1.2 ht).1, (h1.2 ht).2, noX_ok, bind_ok']
      rw [if_pos (by simp at hl; omega), e1, comp_filt hw its (acc ++ [g d]) (fun x hx => h x (List.mem_cons_of_mem _ hx)) (by simp at hl ⊢; omega)]
      simp [ht]
    | false =>
      simp only
      rw [e1, comp_filt hw its acc (fun x hx => h x (List.mem_cons_of_mem _ hx)) (by simp at hl ⊢; omega)]
      simp [ht]
theorem dComp_f {i : Nat} {keep : Bool} {di : DA} {tst : DT} {elt : DE} {δ δ1 : Sl} {its : List D} (t : D → Bool) (g : D → D) (h1 : di δ = .ok its δ1) (hw : (δ1.set i none) = δ1) (h2 : ∀ d ∈ its, tst (δ1.set i (some d)) = .ok (t d) (δ1.set i (some d)) ∧ (t d = true → elt (δ1.set i (some d)) = .ok (g d) (δ1.set i (some d)) ∧ frz (g d) = g d)) (hl : its.length ≤ 100000) : dComp keep [i] di (tgN i) tst elt δ = .ok (.n .lst .own ((its.filter t).map g)) δ1 := by
  unfold dComp
  have e1 : wipeD δ1 [i] = δ1 := by simp only [wipeD]; exact hw
  rw [h1, bind_ok', e1, comp_filt hw its [] h2 (by simpa using hl), bind_ok']
  cases keep <;> simp
theorem dComp_m {i : Nat} {keep : Bool} {di : DA} {elt : DE} {δ δ1 : Sl} {its : List D} (g : D → D) (h1 : di δ = .ok its δ1) (hw : (δ1.set i none) = δ1) (h2 : ∀ d ∈ its, elt (δ1.set i (some d)) = .ok (g d) (δ1.set i (some d)) ∧ frz (g d) = g d) (hl : its.length ≤ 100000) : dComp keep [i] di (tgN i) dtYes elt δ = .ok (.n .lst .own (its.map g)) δ1 := by
  have h := dComp_f (keep := keep) (i := i) (tst := dtYes) (elt := elt) (fun _ => true) g h1 hw (fun d hd => ⟨rfl, fun _ => h2 d hd⟩) hl
  rw [h, List.filter_eq_self.mpr (fun _ _ => rfl)]
theorem it_str {z : Str} : itA true (.v (.str z)) = some (z.cps.toList.map sg) := rfl
theorem notin_sg {c : Nat} {z : Str} : notinD (sg c) (.v (.str z)) = some (.v (.bl (!decide (c ∈ z.cps.toList)))) := rfl
theorem in_sg {c : Nat} {z : Str} : inD (sg c) (.v (.str z)) = some (.v (.bl (decide (c ∈ z.cps.toList)))) := rfl
theorem len_str {z : Str} (hl : z.length ≤ 100000) : lenD (.v (.str z)) = some (.int z.length) := by simp [lenD, hl]
theorem ix0_str {z : Str} {c : Nat} {cs : List Nat} (h : z.cps.toList = c :: cs) (hl : z.length ≤ 100000) : ixD (.v (.str z)) (.v (.int 0)) = some (sg c) := by
  simp only [ixD, hl, if_true, h]
  simp [atI, ixN]
theorem add_lf : addA (.v (.str "abcdefghijklmnopqrstuvwxyz")) (.v (.str "0123456789")) = some (.v (.str (("abcdefghijklmnopqrstuvwxyz" : Str) ++ ("0123456789" : Str)))) := by
  simp only [addA]
  rw [if_pos (by decide +kernel)]
theorem is_name_c {z : Str} (hl : z.length ≤ 100) : callK F_words_is_name [.v (.str z)] s = .ok (.v (.bl (nameB z.cps.toList))) s := callK_F rfl (by
  have hl2 : z.length ≤ 100000 := by omega
  have hlen := len_cps z
  cases hc : z.cps.toList with
  | nil =>
    rw [hc] at hlen
    simp [d_words_is_name, len_str hl2, hlen, nameB]
  | cons c cs =>
    rw [hc] at hlen
    simp only [List.length_cons] at hlen
    by_cases h8 : z.length ≤ 8
    · by_cases hL : c ∈ LT
      · have hcomp : dComp true [1] (diP (itA true) (pVar 0)) (tgN 1) dtYes (dN (f2 inD) [.k (pVar 1), .v (dN (f2 addA) [.k (pC (.str "abcdefghijklmnopqrstuvwxyz")), .k (pC (.str "0123456789"))])]) [some (D.v (.str z)), none] = .ok (.n .lst .own (((c :: cs).map sg).map fun d => match d with | .v (.str ⟨⟨[c]⟩⟩) => D.bl (decide (c ∈ LF)) | _ => .non)) [some (D.v (.str z)), none] := by
          refine dComp_m _ (by simp only [diP, pVar, List.getElem?_cons_zero, Option.join_some, Option.bind_some, it_str, hc]; rfl) rfl (fun d hd => ?_) (by simp; omega)
          obtain ⟨k, hk, rfl⟩ := List.mem_map.mp hd
          have e2 : inD (sg k) (.v (.str (("abcdefghijklmnopqrstuvwxyz" : Str) ++ ("0123456789" : Str)))) = some (.v (.bl (decide (k ∈ LF)))) := rfl
          constructor
          · simp [add_lf, e2]
          · simp
        have e3 : allD (.n .lst .own (((c :: cs).map sg).map fun d => match d with | .v (.str ⟨⟨[c]⟩⟩) => D.bl (decide (c ∈ LF)) | _ => .non)) = some (.v (.bl ((c :: cs).all fun c => decide (c ∈ LF)))) := by
          have := allB_map (fun c => decide (c ∈ LF)) (c :: cs)
          simp only [List.map_map, allD] at this ⊢
          rw [show ((fun d => match d with | .v (.str ⟨⟨[c]⟩⟩) => D.bl (decide (c ∈ LF)) | _ => .non) ∘ sg) = fun c => D.bl (decide (c ∈ LF)) from rfl, this]
          rfl
        generalize (((c :: cs).map sg).map fun d => match d with | .v (.str ⟨⟨[c]⟩⟩) => D.bl (decide (c ∈ LF)) | _ => .non) = G at hcomp e3
        have hn : notinD (sg c) (.v (.str "abcdefghijklmnopqrstuvwxyz")) = some (.v (.bl false)) := by show some (D.v (.bl (!decide (c ∈ LT)))) = _; simp [hL]
        have h1 : (1 : Int) ≤ z.length := by omega
        have h2 : (z.length : Int) ≤ 8 := by omega
        simp only [d_words_is_name]
        have h3 : cs.length + 1 ≤ 8 := by omega
        simp only [nameB, List.length_cons, h3, hL, decide_true, Bool.true_and]
        simp [len_str hl2, h1, h2, ix0_str hc hl2, hn, hcomp, e3]
      · have hn : notinD (sg c) (.v (.str "abcdefghijklmnopqrstuvwxyz")) = some (.v (.bl true)) := by show some (D.v (.bl (!decide (c ∈ LT)))) = _; simp [hL]
        have h1 : (1 : Int) ≤ z.length := by omega
        have h2 : (z.length : Int) ≤ 8 := by omega
        simp [d_words_is_name, len_str hl2, h1, h2, ix0_str hc hl2, hn, nameB, hL]
    · have h1 : (1 : Int) ≤ z.length := by omega
      have h2 : ¬ (z.length : Int) ≤ 8 := by omega
      have h3 : ¬ (cs.length + 1 ≤ 8) := by omega
      simp [d_words_is_name, len_str hl2, h1, h2, nameB, h3])
end
end Lw
/-! P3 -/
/-! Rows and pieces. -/
namespace Lw
open PySem PySem.Spec PyProof.Rows L2 Fs
structure Row where
  nm : Str
  a : Int
  b : Int
  l : Int
  k : Int
abbrev rowD (r : Row) : D := .n .tup .shr [.v (.str r.nm), .v (.int r.a), .v (.int r.b), .v (.int r.l), .v (.int r.k)]
structure Row.ok (r : Row) : Prop where
  nm : nameB r.nm.cps.toList = true
  a0 : 0 ≤ r.a
  a1 : r.a ≤ 200
  b0 : 0 ≤ r.b
  b1 : r.a - 1 ≤ r.b
  b2 : r.b ≤ 199
  l0 : 1 ≤ r.l
  l1 : r.l ≤ 12
  k0 : 0 ≤ r.k
  k1 : r.k ≤ r.l
theorem nameB_len {cs : List Nat} (h : nameB cs = true) : cs.length ≤ 8 := by
  cases cs with
  | nil => simp
  | cons c cs =>
    simp only [nameB, Bool.and_eq_true, decide_eq_true_eq] at h
    exact h.1
section
variable {s : Sl}
@[simp] theorem ixR0 {r : Row} : ixD (rowD r) (.v (.int 0)) = some (.v (.str r.nm)) := rfl
@[simp] theorem ixR1 {r : Row} : ixD (rowD r) (.v (.int 1)) = some (.v (.int r.a)) := rfl
@[simp] theorem ixR2 {r : Row} : ixD (rowD r) (.v (.int 2)) = some (.v (.int r.b)) := rfl
@[simp] theorem ixR3 {r : Row} : ixD (rowD r) (.v (.int 3)) = some (.v (.int r.l)) := rfl
@[simp] theorem ixR4 {r : Row} : ixD (rowD r) (.v (.int 4)) = some (.v (.int r.k)) := rfl
@[simp] theorem lenR {r : Row} : lenD (rowD r) = some (.v (.int 5)) := rfl
theorem window_c {r : Row} (h : r.ok) : callK F_pieces_window_fault [rowD r] s = .ok .non s := callK_F rfl (by
  have h1 : max 0 (r.a - 1) ≤ r.b := by have := h.b0; have := h.b1; omega
  have h2 := h.b0; have h3 : r.a ≤ r.b + 1 := by have := h.b1; omega
  simp [d_pieces_window_fault, h.a0, h.a1, h1, h2, h3, h.b2, h.l0, h.l1, h.k0, h.k1])
theorem in_dct {z : Str} {ks : List Key} {w : Fl} {xs : List D} : inD (.v (.str z)) (.n (.dct ks) w xs) = some (.v (.bl (lkD ks xs (.inr z)).isSome)) := by
  simp [inD, inB, keyD]
theorem row_fault_c {r : Row} {ks : List Key} {w : Fl} {xs : List D} (h : r.ok) (hn : lkD ks xs (.inr r.nm) = none) : callK F_pieces_row_fault [.n (.dct ks) w xs, rowD r] s = .ok .non s := callK_F rfl (by
  have hl := nameB_len h.nm
  have hl2 : r.nm.length ≤ 100 := by rw [len_cps]; omega
  simp [d_pieces_row_fault, is_name_c hl2, h.nm, in_dct, hn, window_c h])
theorem five_of_c {r : Row} : callK F_pieces_five_of [rowD r] s = .ok (rowD r) s := callK_F rfl (by
  simp [d_pieces_five_of, dMv, D.free])
end
end Lw
/-! P4 -/
/-! Pieces. -/
namespace Lw
open PySem PySem.Spec PyProof.Rows L2 Fs
abbrev keyR (r : Row) : Key := .inr r.nm
abbrev keysR (rs : List Row) : List Key := rs.map keyR
abbrev rowsD (rs : List Row) : List D := rs.map rowD
abbrev fivesD (w : Fl) (rs : List Row) : D := .n (.dct (keysR rs)) w (rowsD rs)
abbrev piecesD (w : Fl) (rs : List Row) : D := .n (.obj 20 ["fives"]) w [fivesD w rs]
structure RowsOk (rs : List Row) : Prop where
  len : rs.length ≤ 30
  nd : (rs.map Row.nm).Nodup
  ok : ∀ r ∈ rs, r.ok
def lw : Fl → Fl | .own => .bor | .bor => .bor | .shr => .shr
section
variable {s : Sl}
theorem storeK_dct {i : Nat} {ks : List Key} {xs : List D} {k : Key} {kk y : D} {kd : DE} {fz : Bool} (hd : s[i]? = some (some (.n (.dct ks) .own xs))) (hk : kd s = .ok kk s) (hkey : keyD kk = some k) (hn : ks.Nodup) (hl : xs.length < 100000) :
    storeK (plV i) kd fz y s = .ok .nx (s.set i (some (.n (.dct (putKs ks k)) .own (putVs ks xs k (if fz then frz y else y))))) := by
  simp only [storeK, Fs.stC, plV, hd, Option.join_some, getP, D.free, ownP, Bool.and_self, if_true, hk, noX_ok, bind_ok', stEnd, mSet, hkey, Option.bind_some]
  rw [if_pos ⟨hn, hl⟩]
  rfl
theorem lkR (rs : List Row) (z : Str) : lkD (keysR rs) (rowsD rs) (.inr z) = (rs.find? fun r => decide (r.nm = z)).map rowD := by
  induction rs with
  | nil => rfl
  | cons r rs ih =>
    simp only [keysR, rowsD, List.map_cons, lkD, List.find?_cons] at ih ⊢
    by_cases h : r.nm = z
    · simp [h]
    · have h2 : ¬ ((Sum.inr r.nm : Key) = .inr z) := fun e => h (Sum.inr.inj e)
      simp only [if_neg h2, decide_eq_false h, ih]
theorem lkR_none {rs : List Row} {z : Str} (h : z ∉ rs.map Row.nm) : lkD (keysR rs) (rowsD rs) (.inr z) = none := by
  rw [lkR, List.find?_eq_none.mpr]
  · rfl
  · intro r hr
    simp only [decide_eq_true_eq]
    exact fun e => h (List.mem_map.mpr ⟨r, hr, e⟩)
theorem putKs_new : ∀ {ks : List Key} {k : Key}, k ∉ ks → putKs ks k = ks ++ [k]
  | [], k, _ => rfl
  | k' :: ks, k, h => by
    have h1 : k' ≠ k := fun e => h (by rw [e]; exact List.mem_cons_self)
    rw [putKs_cons h1, putKs_new (fun e => h (List.mem_cons_of_mem _ e))]
    rfl
theorem putVs_new {α : Type} : ∀ {ks : List Key} {xs : List α} {k : Key} {y : α}, k ∉ ks → ks.length = xs.length → putVs ks xs k y = xs ++ [y]
  | [], xs, k, y, _, _ => rfl
  | k' :: ks, [], k, y, h, e => by simp at e
  | k' :: ks, x :: xs, k, y, h, e => by
    have h1 : k' ≠ k := fun e => h (by rw [e]; exact List.mem_cons_self)
    simp only [putVs, if_neg h1, List.cons_append]
    rw [putVs_new (fun e => h (List.mem_cons_of_mem _ e)) (by simpa using e)]
theorem keys_nd {rs : List Row} (h : (rs.map Row.nm).Nodup) : (keysR rs).Nodup := by
  have e : keysR rs = (rs.map Row.nm).map Sum.inr := by simp [keysR, keyR]
  rw [e]
  exact List.pairwise_map.mpr (h.imp fun q e => q (Sum.inr.inj e))
theorem rows_kept (rs : List Row) : (rowsD rs).all D.kept = true := by simp [rowsD, D.kept]
theorem pairsE_cons {n : Nat} {x : D} {xs : List D} : pairsE n (x :: xs) = .n .tup .shr [.int (n : Int), x] :: pairsE (n + 1) xs := rfl
theorem five_rows_c {rs : List Row} {w : Fl} (h : RowsOk rs) (hw : w ≠ .own) : callK F_pieces_five_rows [.n .lst w (rowsD rs)] s = .ok (fivesD .own rs) s := callK_F rfl (by
  have e1 : isiTD ["list", "tuple"] (.n .lst w (rowsD rs)) = some (.v (.bl true)) := rfl
  have e2 : lenD (.n .lst w (rowsD rs)) = some (.v (.int (rs.length : Int))) := by simp [lenD]
  have e3 : ¬ ((30 : Int) < rs.length) := by have := h.len; omega
  have e4 : itEn false (.n .lst w (rowsD rs)) = some (pairsE 0 (rowsD rs)) := by
    have h0 : (rowsD rs).all D.kept = true ∧ (false = true ∨ w ≠ .own) := ⟨rows_kept rs, .inr hw⟩
    simp only [itEn, if_pos h0]
  generalize hR : (.n .lst w (rowsD rs) : D) = R at e1 e2 e4
  simp [d_pieces_five_rows, e1, e2, e3, e4, dDict0, diP]
  refine sat_mono (sat_loop (I := fun its s => ∃ dn rest y2 y3 y4, rs = dn ++ rest ∧ its = pairsE dn.length (rowsD rest) ∧ s = [some R, some (fivesD .own dn), y2, y3, y4]) ?_ ⟨[], rs, _, _, _, rfl, rfl, rfl⟩) ?_
  · rintro d r s ⟨dn, rest, y2, y3, y4, e, ei, rfl⟩
    cases rest with
    | nil => simp [rowsD, pairsE] at ei
    | cons x rest =>
      rw [show rowsD (x :: rest) = rowD x :: rowsD rest from rfl, pairsE_cons] at ei
      obtain ⟨rfl, rfl⟩ := List.cons.inj ei
      have hx : x.ok := h.ok x (by rw [e]; simp)
      have hnd := h.nd
      rw [e, List.map_append, List.map_cons] at hnd
      have hxn : x.nm ∉ dn.map Row.nm := fun q => (List.nodup_append.mp hnd).2.2 _ q _ List.mem_cons_self rfl
      have hdn : (dn.map Row.nm).Nodup := (List.nodup_append.mp hnd).1
      have hl := h.len
      rw [e] at hl
      simp only [List.length_append, List.length_cons] at hl
      refine ⟨_, rfl, ?_⟩
      have e6 : lends (rowsD dn) = rowsD dn := by
        clear e hl hdn hnd hxn ei
        induction dn with
        | nil => simp
        | cons r dn ih => simp only [rowsD, List.map_cons, lends_cons, lend_shr] at ih ⊢; rw [ih]
      have e5 := row_fault_c (s := [some R, some (fivesD .own dn), some (.int (dn.length : Int)), some (rowD x), y4]) (ks := keysR dn) (w := .bor) (xs := rowsD dn) hx (lkR_none hxn)
      have hkn : keyR x ∉ keysR dn := fun q => by
        obtain ⟨r, hr, er⟩ := List.mem_map.mp q
        exact hxn (List.mem_map.mpr ⟨r, hr, Sum.inr.inj er⟩)
      have e7 := storeK_dct (s := [some R, some (fivesD .own dn), some (.int (dn.length : Int)), some (rowD x), some .non]) (i := 1) (kd := dP (pOp ixD (pVar 3) (pC (.int 0)))) (fz := true) (y := rowD x) rfl (kk := .v (.str x.nm)) rfl rfl (keys_nd hdn) (by simp [rowsD]; omega)
      rw [putKs_new hkn, putVs_new hkn (by simp [keysR, rowsD])] at e7
      simp only [frz_shr, if_true] at e7
      simp [e6, e5, five_of_c, e7]
      exact ⟨dn ++ [x], rest, by simpa using e, by simp, by simp [keysR], by simp [rowsD]⟩
  · rintro f s' ⟨rfl, dn, rest, y2, y3, y4, e, ei, rfl⟩
    cases rest with
    | cons x rest => simp [rowsD, pairsE] at ei
    | nil =>
      simp only [List.append_nil] at e
      subst e
      simp [dMv, D.free])
theorem lends_rows : ∀ rs : List Row, lends (rowsD rs) = rowsD rs
  | [] => by simp
  | r :: rs => by
    have := lends_rows rs
    simp only [rowsD, List.map_cons, lends_cons, lend_shr] at this ⊢
    rw [this]
theorem frzs_rows : ∀ rs : List Row, frzs (rowsD rs) = rowsD rs
  | [] => by simp
  | r :: rs => by
    have := frzs_rows rs
    simp only [rowsD, List.map_cons, frzs_cons, frz_shr] at this ⊢
    rw [this]
@[simp] theorem lend_pieces {w : Fl} {rs : List Row} : lend (piecesD w rs) = piecesD (lw w) rs := by
  cases w <;> simp [piecesD, lends_rows, lw]
theorem mk_pieces {rs : List Row} {w : Fl} (h : RowsOk rs) : callK (mkF 20 F_pieces_Pieces___init__) [.n .lst w (rowsD rs)] s = .ok (piecesD .own rs) s := by
  have h1 : sat (F_pieces_Pieces___init__ [.n (.obj 20 []) .own [], .n .lst w (rowsD rs)]) fun y ios => y = .non ∧ ios = [some (piecesD .own rs), none] := by
    refine sat_F rfl ?_
    have e : ∀ s, callK F_pieces_five_rows [lend (.n .lst w (rowsD rs))] s = .ok (fivesD .own rs) s := fun s => by
      cases w with
      | own => rw [lend_own, lends_rows]; exact five_rows_c h (by decide)
      | shr => rw [lend_shr]; exact five_rows_c h (by decide)
      | bor => rw [lend_bor]; exact five_rows_c h (by decide)
    have e2 : fldSK (plV 0) 20 "fives" (fivesD .own rs) [some (.n (.obj 20 []) .own []), some (.n .lst w (rowsD rs))] = .ok .nx [some (piecesD .own rs), some (.n .lst w (rowsD rs))] := rfl
    generalize hR : (.n .lst w (rowsD rs) : D) = R at e e2
    simp [d_pieces_Pieces___init__, e, e2, ioF]
  obtain ⟨y, ios, e, rfl, rfl⟩ := h1
  refine callK_ok (s' := [none]) ?_
  unfold mkF
  rw [e]
  rfl
@[simp] theorem rc_pieces {w : Fl} {rs : List Row} {m : Str} (h : (m == ("fives" : Str)) = false) : rcD 20 m (piecesD w rs) = some (piecesD w rs) := by
  have h2 : ¬ (m = "fives") := fun e => by rw [e] at h; simp at h
  simp [rcD, h2]
@[simp] theorem fld_pieces {w : Fl} {rs : List Row} : fldD 20 "fives" (piecesD w rs) = some (fivesD w rs) := rfl
@[simp] theorem told_c {w : Fl} {rs : List Row} : callK F_pieces_Pieces_told [piecesD w rs] s = .ok (.n .tup .shr (rowsD rs)) s := callK_F rfl (by
  have e : valsTD (fivesD w rs) = some (.n .tup .shr (rowsD rs)) := by simp only [valsTD, rows_kept, if_true]
  simp [d_pieces_Pieces_told, e])
theorem has_c {w : Fl} {rs : List Row} {z : Str} : callK F_pieces_Pieces_has [piecesD w rs, .v (.str z)] s = .ok (.v (.bl (rs.find? fun r => decide (r.nm = z)).isSome)) s := callK_F rfl (by
  simp [d_pieces_Pieces_has, in_dct, lkR])
theorem row_c {w : Fl} {rs : List Row} {z : Str} {r : Row} (h : (rs.find? fun r => decide (r.nm = z)) = some r) : callK F_pieces_Pieces_row [piecesD w rs, .v (.str z)] s = .ok (rowD r) s := callK_F rfl (by
  have e1 : rcD 20 "has" (piecesD w rs) = some (piecesD w rs) := rc_pieces (by decide)
  have e2 : lend (piecesD w rs) = piecesD (lw w) rs := lend_pieces
  have e3 : ixD (fivesD w rs) (.v (.str z)) = some (rowD r) := by simp only [ixD]; rw [lkR, h]; rfl
  simp only [d_pieces_Pieces_row]
  simp [e1, e2, has_c, h, e3, -lend_own, -lend_bor])
end
end Lw
/-! P5 -/
/-! Pieces changed; stretches. -/
namespace Lw
open PySem PySem.Spec PyProof.Rows L2 Fs
section
variable {s : Sl} {τ : Type}
theorem comp_ft {i : Nat} {tst : DT} {elt : DE} {enc : τ → D} {g : τ → D} {t : τ → Bool} {δ : Sl} (hw : δ.set i none = δ) : ∀ (xs : List τ) (acc : List D), (∀ x ∈ xs, tst (δ.set i (some (enc x))) = .ok (t x) (δ.set i (some (enc x))) ∧ (t x = true → elt (δ.set i (some (enc x))) = .ok (g x) (δ.set i (some (enc x))) ∧ frz (g x) = g x)) → acc.length + xs.length ≤ 100000 → comp [i] (tgN i) tst elt (xs.map enc) acc δ = .ok (acc ++ (xs.filter t).map g) δ
  | [], acc, _, _ => by simp [comp]
  | x :: xs, acc, h, hl => by
    have h1 := h x List.mem_cons_self
    rw [List.map_cons]
    unfold comp
    have e0 : (tgN i) (enc x) δ = some (δ.set i (some (enc x))) := rfl
    have e1 : wipeD (δ.set i (some (enc x))) [i] = δ := by simp only [wipeD, List.set_set]; exact hw
    simp only [e0, h1.1, noX_ok, bind_ok']
    cases ht : t x with
    | true =>
      simp only [(h1.2 ht).1, (h1.2 ht).2, noX_ok, bind_ok']
      rw [if_pos (by simp at hl; omega), e1, comp_ft hw xs (acc ++ [g x]) (fun y hy => h y (List.mem_cons_of_mem _ hy)) (by simp at hl ⊢; omega)]
      simp [ht]
    | false =>
      simp only
      rw [e1, comp_ft hw xs acc (fun y hy => h y (List.mem_cons_of_mem _ hy)) (by simp at hl ⊢; omega)]
      simp [ht]
theorem dComp_ft {i : Nat} {keep : Bool} {di : DA} {tst : DT} {elt : DE} {δ δ1 : Sl} {enc : τ → D} {xs : List τ} (t : τ → Bool) (g : τ → D) (h1 : di δ = .ok (xs.map enc) δ1) (hw : (δ1.set i none) = δ1) (h2 : ∀ x ∈ xs, tst (δ1.set i (some (enc x))) = .ok (t x) (δ1.set i (some (enc x))) ∧ (t x = true → elt (δ1.set i (some (enc x))) = .ok (g x) (δ1.set i (some (enc x))) ∧ frz (g x) = g x)) (hl : xs.length ≤ 100000) : dComp keep [i] di (tgN i) tst elt δ = .ok (.n .lst .own ((xs.filter t).map g)) δ1 := by
  unfold dComp
  have e1 : wipeD δ1 [i] = δ1 := by simp only [wipeD]; exact hw
  rw [h1, bind_ok', e1, comp_ft hw xs [] h2 (by simpa using hl), bind_ok']
  cases keep <;> simp
theorem dComp_mt {i : Nat} {keep : Bool} {di : DA} {elt : DE} {δ δ1 : Sl} {enc : τ → D} {xs : List τ} (g : τ → D) (h1 : di δ = .ok (xs.map enc) δ1) (hw : (δ1.set i none) = δ1) (h2 : ∀ x ∈ xs, elt (δ1.set i (some (enc x))) = .ok (g x) (δ1.set i (some (enc x))) ∧ frz (g x) = g x) (hl : xs.length ≤ 100000) : dComp keep [i] di (tgN i) dtYes elt δ = .ok (.n .lst .own (xs.map g)) δ1 := by
  have h := dComp_ft (keep := keep) (i := i) (tst := dtYes) (elt := elt) (fun _ => true) g h1 hw (fun d hd => ⟨rfl, fun _ => h2 d hd⟩) hl
  rw [h, List.filter_eq_self.mpr (fun _ _ => rfl)]
theorem LF_small : ∀ c ∈ LF, c < 128 := by decide +kernel
theorem nameB_small {cs : List Nat} (h : nameB cs = true) : ∀ c ∈ cs, c < 1114112 := by
  cases cs with
  | nil => simp
  | cons c cs =>
    simp only [nameB, Bool.and_eq_true, List.all_eq_true, decide_eq_true_eq] at h
    intro d hd
    have := LF_small d (h.2.2 d hd)
    omega
theorem shaped_str {z : Str} (h : ∀ c ∈ z.cps.toList, c < 1114112) : SeqAt.shaped (.str z) = true := by
  simp [SeqAt.shaped, PyData.canLay0, PyData.strOk, PyData.depth]; intro i hi; exact h _ (by simp)
theorem eqD_str {a b : Str} (ha : ∀ c ∈ a.cps.toList, c < 1114112) (hb : ∀ c ∈ b.cps.toList, c < 1114112) : eqD (.v (.str a)) (.v (.str b)) = some (.v (.bl (decide (a = b)))) := by
  simp only [eqD, pd, Option.bind_some, shaped_str ha, shaped_str hb, and_self, if_true]
  simp only [PyData.eqv, Option.some.injEq, D.v.injEq, V.bl.injEq]
  by_cases h : a = b <;> simp [h]
def putR (z : Str) (r' : Row) (rs : List Row) : List Row := rs.map fun o => if o.nm = z then r' else o
theorem putR_ok {z : Str} {r' : Row} {rs : List Row} (h : RowsOk rs) (hr : r'.ok) (hz : r'.nm = z) : RowsOk (putR z r' rs) := by
  refine ⟨by simpa [putR] using h.len, ?_, ?_⟩
  · have : (putR z r' rs).map Row.nm = rs.map Row.nm := by
      simp only [putR, List.map_map]
      refine List.map_congr_left fun o _ => ?_
      simp only [Function.comp]
      split
      · rename_i e; rw [hz, e]
      · rfl
    rw [this]; exact h.nd
  · intro r hr2
    obtain ⟨o, ho, rfl⟩ := List.mem_map.mp hr2
    split
    · exact hr
    · exact h.ok o ho
theorem itA_tup {rs : List Row} {p : Bool} : itA p (.n .tup .shr (rowsD rs)) = some (rowsD rs) := by
  have h0 : (rowsD rs).all D.kept = true ∧ (p = true ∨ Fl.shr ≠ .own) := ⟨rows_kept rs, .inr (by decide)⟩
  simp only [itA, if_pos h0]
theorem itA_lst {rs : List Row} {w : Fl} : itA true (.n .lst w (rowsD rs)) = some (rowsD rs) := by
  have h0 : (rowsD rs).all D.kept = true ∧ (true = true ∨ w ≠ .own) := ⟨rows_kept rs, .inl rfl⟩
  show (if (rowsD rs).all D.kept = true ∧ (true = true ∨ w ≠ .own) then some (rowsD rs) else none) = _
  rw [if_pos h0]
theorem put_at_c {w : Fl} {z : Str} {r' : Row} {rs : List Row} (h : RowsOk rs) (hr : r'.ok) (hz : r'.nm = z) : callK F_pieces_Pieces_put_at [piecesD w rs, .v (.str z), rowD r'] s = .ok (piecesD .own (putR z r' rs)) s := callK_F rfl (by
  have e1 : rcD 20 "told" (piecesD w rs) = some (piecesD w rs) := rc_pieces (by decide)
  have e2 : lend (piecesD w rs) = piecesD (lw w) rs := lend_pieces
  have hzz : ∀ c ∈ z.cps.toList, c < 1114112 := by rw [← hz]; exact nameB_small hr.nm
  have hc : dComp true [3] (diD (itA true) (dCall F_pieces_Pieces_told (daLend (pRc 20 "told" (pVar 0)) daNil))) (tgN 3) dtYes (dIf (dtV (dN (f2 eqD) [.k (pOp ixD (pVar 3) (pC (.int 0))), .k (pVar 1)])) (dP (pVar 2)) (dP (pVar 3))) [some (piecesD w rs), some (.v (.str z)), some (rowD r'), none] = .ok (.n .lst .own (rs.map fun o => if o.nm = z then rowD r' else rowD o)) [some (piecesD w rs), some (.v (.str z)), some (rowD r'), none] := by
    refine dComp_mt (enc := rowD) _ ?_ rfl (fun o ho => ?_) (by have := h.len; omega)
    · simp [diD, e1, e2, itA_tup, -lend_own, -lend_bor]
    · have := eqD_str (nameB_small (h.ok o ho).nm) hzz
      by_cases hn : o.nm = z
      · simp [hn, this]
        rw [hn] at this
        simp [this]
      · simp [hn, this]
  have e3 : (.n .lst .own (rs.map fun o => if o.nm = z then rowD r' else rowD o) : D) = .n .lst .own (rowsD (putR z r' rs)) := by
    simp only [putR, rowsD, List.map_map]
    congr 1
    refine List.map_congr_left fun o _ => ?_
    simp only [Function.comp]
    split <;> rfl
  rw [e3] at hc
  simp only [d_pieces_Pieces_put_at]
  simp [hc, mk_pieces (putR_ok h hr hz)])
theorem cut4 {r : Row} : slD [rowD r, .v .non, .v (.int 4)] = some (.n .tup .shr [.v (.str r.nm), .v (.int r.a), .v (.int r.b), .v (.int r.l)]) := rfl
theorem cut2 {r : Row} : slD [rowD r, .v .non, .v (.int 2)] = some (.n .tup .shr [.v (.str r.nm), .v (.int r.a)]) := rfl
theorem cut3 {r : Row} : slD [rowD r, .v (.int 3), .v .non] = some (.n .tup .shr [.v (.int r.l), .v (.int r.k)]) := rfl
@[simp] theorem intP_i {i : Int} : intP (.v (.int i)) = some (.v (.int i)) := rfl
theorem with_left_c {w : Fl} {z : Str} {r : Row} {rs : List Row} {k : Int} (h : RowsOk rs) (hf : (rs.find? fun r => decide (r.nm = z)) = some r) (hk : 0 ≤ k) (hk2 : k ≤ r.l) : callK F_pieces_Pieces_with_left [piecesD w rs, .v (.str z), .v (.int k)] s = .ok (piecesD .own (putR z { r with k := k } rs)) s := callK_F rfl (by
  have e1 : ∀ m : Str, (m == ("fives" : Str)) = false → rcD 20 m (piecesD w rs) = some (piecesD w rs) := fun m hm => rc_pieces hm
  have e2 : lend (piecesD w rs) = piecesD (lw w) rs := lend_pieces
  have hr := h.ok r (List.mem_of_find?_eq_some hf)
  have hz : r.nm = z := by have := List.find?_some hf; simpa using this
  have hr' : ({ r with k := k } : Row).ok := ⟨hr.nm, hr.a0, hr.a1, hr.b0, hr.b1, hr.b2, hr.l0, hr.l1, hk, hk2⟩
  have e3 : addA (.n .tup .shr [.v (.str r.nm), .v (.int r.a), .v (.int r.b), .v (.int r.l)]) (.n .tup .shr [.v (.int k)]) = some (rowD { r with k := k }) := rfl
  have e4 : mkTup [D.v (.int k)] = some (.n .tup .shr [.v (.int k)]) := rfl
  have e5 := fun s => put_at_c (s := s) (w := lw w) h hr' (z := z) hz
  generalize hN : (({ r with k := k } : Row)) = r' at e3 e5 ⊢
  simp only [d_pieces_Pieces_with_left]
  simp [e1 "put_at" (by decide), e1 "row" (by decide), e2, row_c hf, cut4, e4, e3, e5, -lend_own, -lend_bor])
theorem with_last_c {w : Fl} {z : Str} {r : Row} {rs : List Row} {b : Int} (h : RowsOk rs) (hf : (rs.find? fun r => decide (r.nm = z)) = some r) (hb : 0 ≤ b) (hb1 : r.a - 1 ≤ b) (hb2 : b ≤ 199) : callK F_pieces_Pieces_with_last [piecesD w rs, .v (.str z), .v (.int b)] s = .ok (piecesD .own (putR z { r with b := b } rs)) s := callK_F rfl (by
  have e1 : ∀ m : Str, (m == ("fives" : Str)) = false → rcD 20 m (piecesD w rs) = some (piecesD w rs) := fun m hm => rc_pieces hm
  have e2 : lend (piecesD w rs) = piecesD (lw w) rs := lend_pieces
  have hr := h.ok r (List.mem_of_find?_eq_some hf)
  have hz : r.nm = z := by have := List.find?_some hf; simpa using this
  have hr' : ({ r with b := b } : Row).ok := ⟨hr.nm, hr.a0, hr.a1, hb, hb1, hb2, hr.l0, hr.l1, hr.k0, hr.k1⟩
  have e3 : addA (.n .tup .shr [.v (.str r.nm), .v (.int r.a)]) (.n .tup .shr [.v (.int b)]) = some (.n .tup .shr [.v (.str r.nm), .v (.int r.a), .v (.int b)]) := rfl
  have e6 : addA (.n .tup .shr [.v (.str r.nm), .v (.int r.a), .v (.int b)]) (.n .tup .shr [.v (.int r.l), .v (.int r.k)]) = some (rowD { r with b := b }) := rfl
  have e4 : mkTup [D.v (.int b)] = some (.n .tup .shr [.v (.int b)]) := rfl
  have e5 := fun s => put_at_c (s := s) (w := lw w) h hr' (z := z) hz
  generalize hN : (({ r with b := b } : Row)) = r' at e6 e5 ⊢
  simp only [d_pieces_Pieces_with_last]
  simp [e1 "put_at" (by decide), e1 "row" (by decide), e2, row_c hf, cut2, cut3, e4, e3, e6, e5, -lend_own, -lend_bor])
/-! stretches -/
abbrev stD (a b : Int) : D := .n .tup .shr [.v (.int a), .v (.int b)]
structure StOk (a b : Int) : Prop where
  a0 : 0 ≤ a
  a1 : a ≤ 200
  b0 : a - 1 ≤ b
  b1 : b ≤ 199
@[simp] theorem ixS0 {a b : Int} : ixD (stD a b) (.v (.int 0)) = some (.v (.int a)) := rfl
@[simp] theorem ixS1 {a b : Int} : ixD (stD a b) (.v (.int 1)) = some (.v (.int b)) := rfl
@[simp] theorem lenS {a b : Int} : lenD (stD a b) = some (.v (.int 2)) := rfl
theorem is_stretch_c {a b : Int} (h : StOk a b) : callK F_stretches_is_stretch [stD a b] s = .ok (.v (.bl true)) s := callK_F rfl (by
  have := h.b0
  simp [d_stretches_is_stretch, h.a0, h.a1, h.b1]
  omega)
theorem need_stretch_c {a b : Int} (h : StOk a b) : callK F_stretches_need_stretch [stD a b] s = .ok .non s := callK_F rfl (by
  simp [d_stretches_need_stretch, is_stretch_c h])
theorem need_failings_c {f : Int} (h0 : 0 ≤ f) (h1 : f ≤ 300) : callK F_stretches_need_failings [.v (.int f)] s = .ok .non s := callK_F rfl (by
  simp [d_stretches_need_failings, h0, h1])
theorem room_c {a b : Int} (h : StOk a b) : callK F_stretches_room [stD a b] s = .ok (.v (.int (b - a + 1))) s := callK_F rfl (by
  simp [d_stretches_room, need_stretch_c h])
def inSt (a b : Int) (r : Row) : Bool := decide (a ≤ r.a) && decide (r.b ≤ b)
theorem rows_within_c {w : Fl} {rs : List Row} {a b : Int} (h : StOk a b) (hl : rs.length ≤ 1000) : callK F_stretches_rows_within [piecesD w rs, stD a b] s = .ok (.n .lst .own (rowsD (rs.filter (inSt a b)))) s := callK_F rfl (by
  have e1 : rcD 20 "told" (piecesD w rs) = some (piecesD w rs) := rc_pieces (by decide)
  have e2 : lend (piecesD w rs) = piecesD (lw w) rs := lend_pieces
  have hc := dComp_ft (keep := true) (i := 2) (di := diD (itA true) (dCall F_pieces_Pieces_told (daLend (pRc 20 "told" (pVar 0)) daNil))) (tst := dtAnd (dtV (dN (f2 geD) [.k (pOp ixD (pVar 2) (pC (.int 1))), .k (pOp ixD (pVar 1) (pC (.int 0)))])) (dtV (dN (f2 leD) [.k (pOp ixD (pVar 2) (pC (.int 2))), .k (pOp ixD (pVar 1) (pC (.int 1)))]))) (elt := dP (pVar 2)) (δ := [some (piecesD w rs), some (stD a b), none]) (δ1 := [some (piecesD w rs), some (stD a b), none]) (enc := rowD) (xs := rs) (inSt a b) rowD
    (by simp [diD, e1, e2, itA_tup, -lend_own, -lend_bor]) rfl (fun o ho => by
      by_cases h1 : a ≤ o.a <;> simp [h1, inSt]) (by omega)
  simp only [d_stretches_rows_within]
  simp [need_stretch_c h, hc])
theorem seqI_ints {w : Fl} {ns : List Int} : seqI (.n .lst w (ns.map D.int)) = some ns := by
  have : ∀ ns : List Int, intsD (ns.map D.int) = some ns := fun ns => by
    induction ns with
    | nil => rfl
    | cons i ns ih => simp [intsD, ih]
  simp [seqI, seqL, this]
theorem lefts_c {w : Fl} {rs : List Row} {a b : Int} (h : StOk a b) (hl : rs.length ≤ 1000) : callK F_stretches_lefts [piecesD w rs, stD a b] s = .ok (.v (.int (((rs.filter (inSt a b)).map Row.k).sum))) s := callK_F rfl (by
  have e2 : lend (piecesD w rs) = piecesD (lw w) rs := lend_pieces
  have hc := dComp_mt (keep := true) (i := 2) (di := diD (itA true) (dCall F_stretches_rows_within (daLend (pVar 0) (daLend (pVar 1) daNil)))) (elt := dP (pOp ixD (pVar 2) (pC (.int 4)))) (δ := [some (piecesD w rs), some (stD a b), none]) (δ1 := [some (piecesD w rs), some (stD a b), none]) (enc := rowD) (xs := rs.filter (inSt a b)) (fun r => D.int r.k)
    (by simp [diD, e2, rows_within_c h hl, itA_lst, -lend_own, -lend_bor]) rfl (fun o ho => by simp) (by have := List.length_filter_le (inSt a b) rs; omega)
  have e3 : sumD (.n .lst .own ((rs.filter (inSt a b)).map fun r => D.int r.k)) = some (.v (.int (((rs.filter (inSt a b)).map Row.k).sum))) := by
    have := seqI_ints (w := .own) (ns := (rs.filter (inSt a b)).map Row.k)
    rw [List.map_map] at this
    simp only [sumD]
    rw [show (fun r : Row => D.int r.k) = D.int ∘ Row.k from rfl, this]
    rfl
  simp only [d_stretches_lefts]
  generalize (rs.filter (inSt a b)).map (fun r => D.int r.k) = G at hc e3
  simp [hc, e3])
end
end Lw
/-! P6 -/
/-! What a stretch needs. -/
namespace Lw
open PySem PySem.Spec PyProof.Rows L2 Fs
section
variable {s : Sl}
def glI (ns : List Int) : Int := (maxI ns).getD 0
theorem glI_app {ns : List Int} (h : ∀ n ∈ ns, 0 ≤ n) : maxI (ns ++ [0]) = some (glI ns) := by
  cases e : maxI (ns ++ [0]) with
  | none => have := maxI_none e; simp at this
  | some m =>
    obtain ⟨m1, m2⟩ := maxI_ok e
    unfold glI
    cases e2 : maxI ns with
    | none =>
      have := maxI_none e2
      subst this
      simp only [List.nil_append, List.mem_singleton] at m1
      rw [m1]; rfl
    | some k =>
      obtain ⟨k1, k2⟩ := maxI_ok e2
      have h1 := m2 k (List.mem_append_left _ k1)
      rcases List.mem_append.mp m1 with q | q
      · have h2 := k2 m q
        show some m = some k
        congr 1; omega
      · simp only [List.mem_singleton] at q
        have h3 := h k k1
        show some m = some k
        congr 1; omega
theorem glI_pos {ns : List Int} (h : ∀ n ∈ ns, 0 ≤ n) : 0 ≤ glI ns := by
  unfold glI
  cases e : maxI ns with
  | none => simp
  | some k => exact h k (maxI_ok e).1
def ksum (rs : List Row) (a b : Int) : Int := ((rs.filter (inSt a b)).map Row.k).sum
def lmax (rs : List Row) (a b : Int) : Int := glI ((rs.filter (inSt a b)).map Row.l)
theorem ints_comp {ρ : Type} {f : ρ → Int} {xs : List ρ} {w : Fl} : seqI (.n .lst w (xs.map fun r => D.int (f r))) = some (xs.map f) := by
  have := seqI_ints (w := w) (ns := xs.map f)
  rw [List.map_map] at this
  exact this
theorem greatest_c {w : Fl} {rs : List Row} {a b : Int} (h : StOk a b) (hl : rs.length ≤ 1000) : callK F_stretches_greatest_length [piecesD w rs, stD a b] s = .ok (.v (.int (lmax rs a b))) s := callK_F rfl (by
  have e2 : lend (piecesD w rs) = piecesD (lw w) rs := lend_pieces
  have hc := dComp_mt (keep := true) (i := 2) (di := diD (itA true) (dCall F_stretches_rows_within (daLend (pVar 0) (daLend (pVar 1) daNil)))) (elt := dP (pOp ixD (pVar 2) (pC (.int 3)))) (δ := [some (piecesD w rs), some (stD a b), none]) (δ1 := [some (piecesD w rs), some (stD a b), none]) (enc := rowD) (xs := rs.filter (inSt a b)) (fun r => D.int r.l)
    (by simp [diD, e2, rows_within_c h hl, itA_lst, -lend_own, -lend_bor]) rfl (fun o ho => by simp) (by have := List.length_filter_le (inSt a b) rs; omega)
  have e3 : maxDfD (.n .lst .own ((rs.filter (inSt a b)).map fun r => D.int r.l)) (.v (.int 0)) = some (.v (.int (lmax rs a b))) := by
    simp only [maxDfD, ints_comp, Option.bind_some, lmax, glI]
    cases maxI ((rs.filter (inSt a b)).map Row.l) <;> rfl
  simp only [d_stretches_greatest_length]
  generalize (rs.filter (inSt a b)).map (fun r => D.int r.l) = G at hc e3
  simp [hc, e3])
def needI (rs : List Row) (a b f : Int) : Int := ksum rs a b + f * lmax rs a b
theorem need_c {w : Fl} {rs : List Row} {a b f : Int} (h : StOk a b) (hl : rs.length ≤ 1000) (h0 : 0 ≤ f) (h1 : f ≤ 300) : callK F_stretches_need [piecesD w rs, stD a b, .v (.int f)] s = .ok (.v (.int (needI rs a b f))) s := callK_F rfl (by
  have e2 : lend (piecesD w rs) = piecesD (lw w) rs := lend_pieces
  have e3 : ∀ j, cMul f j = true := fun j => cMul_l (by omega)
  simp only [d_stretches_need]
  simp [need_stretch_c h, need_failings_c h0 h1, e2, lefts_c h hl, greatest_c h hl, e3, needI, ksum, -lend_own, -lend_bor])
theorem short_c {w : Fl} {rs : List Row} {a b f : Int} (h : StOk a b) (hl : rs.length ≤ 1000) (h0 : 0 ≤ f) (h1 : f ≤ 300) : callK F_stretches_short [piecesD w rs, stD a b, .v (.int f)] s = .ok (.v (.int (needI rs a b f - (b - a + 1)))) s := callK_F rfl (by
  have e2 : lend (piecesD w rs) = piecesD (lw w) rs := lend_pieces
  simp only [d_stretches_short]
  simp [e2, need_c h hl h0 h1, room_c h, -lend_own, -lend_bor])
/-! the law's own -/
theorem lwithin_c {w : Fl} {rs : List Row} {a b : Int} (hl : rs.length ≤ 1000) : callK F_L_law_within [.n .lst w (rowsD rs), stD a b] s = .ok (.n .lst .own (rowsD (rs.filter (inSt a b)))) s := callK_F rfl (by
  have hc := dComp_ft (keep := true) (i := 2) (di := diP (itA true) (pVar 0)) (tst := dtAnd (dtV (dN (f2 leD) [.k (pOp ixD (pVar 1) (pC (.int 0))), .k (pOp ixD (pVar 2) (pC (.int 1)))])) (dtV (dN (f2 leD) [.k (pOp ixD (pVar 2) (pC (.int 2))), .k (pOp ixD (pVar 1) (pC (.int 1)))]))) (elt := dP (pVar 2)) (δ := [some (.n .lst w (rowsD rs)), some (stD a b), none]) (δ1 := [some (.n .lst w (rowsD rs)), some (stD a b), none]) (enc := rowD) (xs := rs) (inSt a b) rowD
    (by simp [diP, itA_lst]) rfl (fun o ho => by
      by_cases h1 : a ≤ o.a <;> simp [h1, inSt]) (by omega)
  simp only [d_L_law_within]
  simp [hc])
theorem lneed_c {w : Fl} {rs : List Row} {a b f : Int} (hok : ∀ r ∈ rs, r.ok) (hl : rs.length ≤ 1000) (h0 : 0 ≤ f) (h1 : f ≤ 300) : callK F_L_law_need [.n .lst w (rowsD rs), stD a b, .v (.int f)] s = .ok (.v (.int (needI rs a b f))) s := callK_F rfl (by
  have e0 : ∀ s, callK F_L_law_within [lend (.n .lst w (rowsD rs)), stD a b] s = .ok (.n .lst .own (rowsD (rs.filter (inSt a b)))) s := fun s => by
    cases w with
    | own => rw [lend_own, lends_rows]; exact lwithin_c hl
    | shr => rw [lend_shr]; exact lwithin_c hl
    | bor => rw [lend_bor]; exact lwithin_c hl
  have hlf : (rs.filter (inSt a b)).length ≤ 1000 := Nat.le_trans (List.length_filter_le (inSt a b) rs) hl
  generalize hR : (.n .lst w (rowsD rs) : D) = R at e0 ⊢
  have hp : ∀ n ∈ (rs.filter (inSt a b)).map Row.l, 0 ≤ n := fun n hn => by
    obtain ⟨r, hr, rfl⟩ := List.mem_map.mp hn
    have := (hok r (List.mem_filter.mp hr).1).l0
    omega
  unfold needI ksum lmax
  generalize hX : rs.filter (inSt a b) = X at e0 hlf hp ⊢
  have hc4 := dComp_mt (keep := true) (i := 4) (di := diP (itA true) (pVar 3)) (elt := dP (pOp ixD (pVar 4) (pC (.int 4)))) (δ := [some R, some (stD a b), some (.v (.int f)), some (.n .lst .own (rowsD X)), none]) (δ1 := [some R, some (stD a b), some (.v (.int f)), some (.n .lst .own (rowsD X)), none]) (enc := rowD) (xs := X) (fun r => D.int r.k)
    (by simp [diP, itA_lst]) rfl (fun o ho => by simp) (by omega)
  have hc3 := dComp_mt (keep := true) (i := 4) (di := diP (itA true) (pVar 3)) (elt := dP (pOp ixD (pVar 4) (pC (.int 3)))) (δ := [some R, some (stD a b), some (.v (.int f)), some (.n .lst .own (rowsD X)), none]) (δ1 := [some R, some (stD a b), some (.v (.int f)), some (.n .lst .own (rowsD X)), none]) (enc := rowD) (xs := X) (fun r => D.int r.l)
    (by simp [diP, itA_lst]) rfl (fun o ho => by simp) (by omega)
  have e3 : sumD (.n .lst .own (X.map fun r => D.int r.k)) = some (.v (.int ((X.map Row.k).sum))) := by simp only [sumD, ints_comp]; rfl
  have e4 : addA (.n .lst .own (X.map fun r => D.int r.l)) (.n .lst .own [.v (.int 0)]) = some (.n .lst .own ((X.map Row.l ++ [0]).map D.int)) := by
    have h2 : (X.map fun r => D.int r.l).length + [D.v (.int 0)].length ≤ 100000 ∧ (X.map fun r => D.int r.l).all D.kept = true ∧ [D.v (.int 0)].all D.kept = true := ⟨by simp; omega, by simp [D.kept], rfl⟩
    simp only [addA, if_pos h2]
    simp
  have e5 : maxLD (.n .lst .own ((X.map Row.l ++ [0]).map D.int)) = some (.v (.int (glI (X.map Row.l)))) := by
    simp only [maxLD, seqI_ints, Option.bind_some, glI_app hp]
    rfl
  have e6 : mkLst [D.v (.int 0)] = some (.n .lst .own [.v (.int 0)]) := rfl
  have e7 : ∀ j, cMul f j = true := fun j => cMul_l (by omega)
  simp only [d_L_law_need]
  generalize (.n .lst .own ((X.map Row.l ++ [0]).map D.int) : D) = G1 at e4 e5
  generalize X.map (fun r => D.int r.k) = G2 at hc4 e3
  generalize X.map (fun r => D.int r.l) = G3 at hc3 e4
  simp [e0, hc4, hc3, e3, e4, e5, e6, e7])
@[simp] theorem lwhole_c {i j : Int} : callK F_L_law_whole [.v (.int i), .v (.int j)] s = .ok (.v (.bl (decide (i = j)))) s := callK_F rfl (by simp [d_L_law_whole])
end
end Lw
/-! P7 -/
/-! The law's names. -/
namespace Lw
open PySem PySem.Spec PyProof.Rows L2 Fs
/-- a 9 stands at the end alone, behind a z -/
def nineB (cs : List Nat) : Bool := match cs.reverse with
  | 57 :: 122 :: r => !(r.contains 57)
  | r => !(r.contains 57)
theorem nineB_no {cs : List Nat} (h : 57 ∉ cs) : nineB cs = true := by
  have h2 : 57 ∉ cs.reverse := by simpa using h
  unfold nineB
  split
  · rename_i r e; rw [e] at h2; simp at h2
  · simpa using h
theorem nineB_z9 {cs : List Nat} (h : 57 ∉ cs) : nineB (cs ++ [122, 57]) = true := by
  unfold nineB
  simp [h]
structure NamesOk (zs : List Str) (n : Nat) : Prop where
  len : zs.length = n
  nd : zs.Nodup
  ok : ∀ z ∈ zs, nameB z.cps.toList = true
  nine : ∀ z ∈ zs, nineB z.cps.toList = true
def nmC (cs : List Nat) (at_ f k : Nat) : List Nat := cs.take at_ ++ ((97 + (f + 7 * k) % 26) :: ((if k < 26 then [] else [48]) ++ (cs.drop at_ ++ [122, 57].take (k % 3))))
theorem LT_eq : LT = (List.range 26).map (97 + ·) := by decide +kernel
theorem mem_LT {c : Nat} : c ∈ LT ↔ 97 ≤ c ∧ c < 123 := by
  rw [LT_eq]
  simp only [List.mem_map, List.mem_range]
  constructor
  · rintro ⟨i, hi, rfl⟩; omega
  · intro h; exact ⟨c - 97, by omega, by omega⟩
theorem LF_eq : LF = (List.range 26).map (97 + ·) ++ (List.range 10).map (48 + ·) := by decide +kernel
theorem mem_LF {c : Nat} : c ∈ LF ↔ (97 ≤ c ∧ c < 123) ∨ (48 ≤ c ∧ c < 58) := by
  rw [LF_eq]
  simp only [List.mem_append, List.mem_map, List.mem_range]
  constructor
  · rintro (⟨i, hi, rfl⟩ | ⟨i, hi, rfl⟩)
    · left; omega
    · right; omega
  · rintro (h | h)
    · exact .inl ⟨c - 97, by omega, by omega⟩
    · exact .inr ⟨c - 48, by omega, by omega⟩
theorem nmC_ok {cs : List Nat} {at_ f k : Nat} (hc : ∀ c ∈ cs, c ∈ LT) (hl : cs.length ≤ 4) : nameB (nmC cs at_ f k) = true := by
  have hx : 97 + (f + 7 * k) % 26 ∈ LT := mem_LT.mpr (by omega)
  have hall : ∀ c ∈ nmC cs at_ f k, c ∈ LF := by
    intro c h
    simp only [nmC, List.mem_append, List.mem_cons] at h
    have hL : ∀ c, c ∈ LT → c ∈ LF := fun c h => mem_LF.mpr (.inl (mem_LT.mp h))
    rcases h with h | h | h | h | h
    · exact hL c (hc c (List.mem_of_mem_take h))
    · rw [h]; exact hL _ hx
    · split at h
      · cases h
      · simp only [List.mem_singleton] at h; rw [h]; exact mem_LF.mpr (.inr (by omega))
    · exact hL c (hc c (List.mem_of_mem_drop h))
    · have := List.mem_of_mem_take h
      simp only [List.mem_cons, List.not_mem_nil, or_false] at this
      rcases this with rfl | rfl
      · exact mem_LF.mpr (.inl (by omega))
      · exact mem_LF.mpr (.inr (by omega))
  have hlen : (nmC cs at_ f k).length ≤ 8 := by
    simp only [nmC, List.length_append, List.length_cons, List.length_take, List.length_drop]
    have : (if k < 26 then ([] : List Nat) else [48]).length ≤ 1 := by split <;> simp
    have h3 : k % 3 < 3 := by omega
    simp only [List.length_nil]
    omega
  have hd : ∃ c r, nmC cs at_ f k = c :: r ∧ c ∈ LT := by
    unfold nmC
    cases e : cs.take at_ with
    | nil => exact ⟨_, _, rfl, hx⟩
    | cons c r => exact ⟨c, _, rfl, hc c (List.mem_of_mem_take (by rw [e]; exact List.mem_cons_self))⟩
  obtain ⟨c, r, e, h1⟩ := hd
  rw [e] at hlen hall ⊢
  simp only [nameB, Bool.and_eq_true, decide_eq_true_eq, List.all_eq_true]
  exact ⟨hlen, h1, hall⟩
theorem nmC_nine {cs : List Nat} {at_ f k : Nat} (hc : ∀ c ∈ cs, c ∈ LT) : nineB (nmC cs at_ f k) = true := by
  have hb : 57 ∉ cs.take at_ ++ ((97 + (f + 7 * k) % 26) :: ((if k < 26 then [] else [48]) ++ cs.drop at_)) := by
    have h1 : ∀ c ∈ cs, c ≠ 57 := fun c h e => by have := mem_LT.mp (hc c h); omega
    simp only [List.mem_append, List.mem_cons]
    rintro (h | h | h | h)
    · exact h1 _ (List.mem_of_mem_take h) rfl
    · omega
    · split at h <;> simp at h
    · exact h1 _ (List.mem_of_mem_drop h) rfl
  have e : nmC cs at_ f k = (cs.take at_ ++ ((97 + (f + 7 * k) % 26) :: ((if k < 26 then [] else [48]) ++ cs.drop at_))) ++ [122, 57].take (k % 3) := by simp [nmC]
  rw [e]
  have h3 : k % 3 = 0 ∨ k % 3 = 1 ∨ k % 3 = 2 := by omega
  rcases h3 with h3 | h3 | h3 <;> rw [h3]
  · exact nineB_no (by simpa using hb)
  · exact nineB_no (by simpa using hb)
  · exact nineB_z9 hb
theorem nmC_ne {cs : List Nat} {at_ f j k : Nat} (hc : ∀ c ∈ cs, c ∈ LT) (hjk : j < k) (hk : k < 52) : nmC cs at_ f j ≠ nmC cs at_ f k := by
  intro e
  have e1 := List.append_cancel_left e
  obtain ⟨e2, e3⟩ := List.cons.inj e1
  have h26 : k = j + 26 := by omega
  rw [if_pos (by omega), if_neg (by omega), List.nil_append, List.cons_append, List.nil_append] at e3
  cases hd : cs.drop at_ with
  | nil =>
    rw [hd, List.nil_append, List.nil_append] at e3
    have h3 : j % 3 = 0 ∨ j % 3 = 1 ∨ j % 3 = 2 := by omega
    rcases h3 with h3 | h3 | h3 <;> rw [h3] at e3 <;> simp at e3
  | cons c r =>
    rw [hd] at e3
    have := (List.cons.inj e3).1
    have h4 := mem_LT.mp (hc c (List.mem_of_mem_drop (by rw [hd]; exact List.mem_cons_self)))
    omega
theorem pw_range {P : Nat → Nat → Prop} {n : Nat} (h : ∀ j k, j < k → k < n → P j k) : (List.range n).Pairwise P := by
  induction n with
  | zero => simp
  | succ n ih =>
    rw [List.range_succ, List.pairwise_append]
    refine ⟨ih fun j k h1 h2 => h j k h1 (by omega), by simp, fun j hj k hk => ?_⟩
    simp only [List.mem_singleton] at hk
    subst hk
    exact h j k (List.mem_range.mp hj) (by omega)
def ofC (cs : List Nat) : Str := ⟨cs.toArray⟩
theorem ofC_cps (cs : List Nat) : (ofC cs).cps.toList = cs := rfl
theorem names2 {cs : List Nat} {at_ f n : Nat} (hc : ∀ c ∈ cs, c ∈ LT) (hl : cs.length ≤ 4) (hn : n ≤ 52) : NamesOk ((List.range n).map fun k => ofC (nmC cs at_ f k)) n := by
  refine ⟨by simp, ?_, ?_, ?_⟩
  · refine List.pairwise_map.mpr (pw_range fun j k h1 h2 e => ?_)
    have := congrArg (fun z : Str => z.cps.toList) e
    exact nmC_ne hc h1 (by omega) this
  · intro z hz
    obtain ⟨k, _, rfl⟩ := List.mem_map.mp hz
    exact nmC_ok hc hl
  · intro z hz
    obtain ⟨k, _, rfl⟩ := List.mem_map.mp hz
    exact nmC_nine hc
def wds : List Str := ["a", "ask", "b", "work", "a1", "rest", "ab", "failed", "abc", "done", "ba", "off", "aa", "left"]
def wd (i : Nat) : Str := wds.getD i ""
theorem names1 : ∀ at_ < 14, ∀ n < 15, (decide (((List.range n).map fun k => wd ((at_ + 3 * k) % 14)).Nodup) && ((List.range n).map fun k => wd ((at_ + 3 * k) % 14)).all fun z => nameB z.cps.toList && nineB z.cps.toList) = true := by decide +kernel
theorem names1_ok {at_ n : Nat} (h : at_ < 14) (hn : n < 15) : NamesOk ((List.range n).map fun k => wd ((at_ + 3 * k) % 14)) n := by
  have := Bool.and_eq_true_iff.mp (names1 at_ h n hn)
  have h2 := List.all_eq_true.mp this.2
  exact ⟨by simp, of_decide_eq_true this.1, fun z hz => (Bool.and_eq_true_iff.mp (h2 z hz)).1, fun z hz => (Bool.and_eq_true_iff.mp (h2 z hz)).2⟩
end Lw
/-! P8 -/
/-! The law's names: what the text computes. -/
namespace Lw
open PySem PySem.Spec PyProof.Rows L2 Fs
section
variable {s : Sl} {α : Type}
@[simp] theorem sat_noX {o : Out α} {Q : α → Sl → Prop} : sat (noX o) Q ↔ sat o Q := by
  cases o <;> simp [noX]
theorem sat_comp {vs : List Nat} {tg : D → Sl → Option Sl} {tst : DT} {elt : DE} (I : List D → List D → Sl → Prop) (hs : ∀ d r acc s, I (d :: r) acc s → ∃ s1, tg d s = some s1 ∧ sat (tst s1) fun b s2 => (b = true → sat (elt s2) fun y s3 => acc.length < 100000 ∧ I r (acc ++ [frz y]) (wipeD s3 vs)) ∧ (b = false → I r acc (wipeD s2 vs))) :
    ∀ {its acc : List D} {s : Sl}, I its acc s → sat (comp vs tg tst elt its acc s) fun acc' s' => I [] acc' s'
  | [], acc, s, h => by unfold comp; exact sat_ok.mpr h
  | d :: r, acc, s, h => by
    obtain ⟨s1, e1, b, s2, e2, h1, h2⟩ := hs d r acc s h
    unfold comp
    simp only [e1, e2, noX_ok, bind_ok']
    cases b with
    | true =>
      obtain ⟨y, s3, e3, h3, h4⟩ := h1 rfl
      simp only [e3, noX_ok, bind_ok', if_pos h3]
      exact sat_comp I hs h4
    | false => exact sat_comp I hs (h2 rfl)
theorem sat_dComp {keep : Bool} {ns : List Nat} {di : DA} {tg : D → Sl → Option Sl} {tst : DT} {elt : DE} {Q : D → Sl → Prop} : sat (dComp keep ns di tg tst elt s) Q ↔ sat (di s) fun its s1 => sat (comp ns tg tst elt its [] (wipeD s1 ns)) fun acc s2 => Q (.n .lst .own acc) (if keep then s1 else s2) := by
  unfold dComp
  simp only [sat_bind, sat_ok]
theorem sat_app {i : Nat} {a : DE} {xs : List D} {w : Fl} {Q : D → Sl → Prop} (h : (s[i]?).join = some (.n .lst w xs)) (h2 : sat (a s) fun y s1 => ∃ ys, (s1[i]?).join = some (.n .lst .own ys) ∧ ys.length < 100000 ∧ Q .non (s1.set i (some (.n .lst .own (ys ++ [frz y]))))) : sat (dApp i a s) Q := by
  obtain ⟨y, s1, e, ys, h3, h4, h5⟩ := h2
  unfold dApp
  simp only [h, e, bind_ok', h3, if_pos h4]
  exact sat_ok.mpr h5
theorem it_range {n : Nat} (h : n ≤ 100000) : itR (.v (.int (n : Int))) = some ((List.range n).map fun (k : Nat) => D.int (k : Int)) := by
  simp only [itR]
  rw [if_pos (by omega)]
  rfl
theorem join_sg (cs : List Nat) : (Txt.join ("" : Str) (cs.map fun c => (⟨#[c]⟩ : Str))).cps.toList = cs := by
  have h0 : (("" : Str)).cps = #[] := rfl
  have h : ∀ (cs : List Nat) (a : Array Nat), ((cs.map fun c => (⟨#[c]⟩ : Str)).foldl (fun acc p => acc ++ ("" : Str).cps ++ p.cps) a).toList = a.toList ++ cs := by
    intro cs
    induction cs with
    | nil => intro a; simp
    | cons c cs ih => intro a; rw [List.map_cons, List.foldl_cons, ih]; simp [h0]
  unfold Txt.join Builtin.Str.glued
  cases cs with
  | nil => rfl
  | cons c cs => simp only [List.map_cons, List.drop_succ_cons, List.drop_zero, List.headD_cons]; rw [h]; simp
theorem txts_sg : ∀ cs : List Nat, txts (cs.map sg) = some (cs.map fun c => (⟨#[c]⟩ : Str))
  | [] => rfl
  | c :: cs => by simp [txts, txts_sg cs]
theorem joinD_sg (cs : List Nat) (hl : cs.length ≤ 1000) : joinD "" (.n .lst .own (cs.map sg)) = some (.v (.str (ofC cs))) := by
  have : Txt.join ("" : Str) (cs.map fun c => (⟨#[c]⟩ : Str)) = ofC cs := Str.ext' (join_sg cs)
  unfold joinD
  simp only [txts_sg, Option.bind_some]
  rw [if_pos, this]
  have h1 : ∀ cs : List Nat, ((cs.map fun c => (⟨#[c]⟩ : Str)).map (·.length)).sum = cs.length := by
    intro cs
    induction cs with
    | nil => rfl
    | cons c cs ih => simp only [List.map_cons, List.sum_cons, ih, List.length_cons]; show 1 + cs.length = _; omega
  have h2 : ("" : Str).length = 0 := rfl
  rw [h1, h2]
  omega
theorem ixK_letter {i : Nat} (h : i < 26) : ixK (.v (.str "abcdefghijklmnopqrstuvwxyz")) (.v (.int (i : Int))) = some (sg (97 + i)) := by
  have e : ("abcdefghijklmnopqrstuvwxyz" : Str).cps.toList = LT := rfl
  have hl : ("abcdefghijklmnopqrstuvwxyz" : Str).length ≤ 100000 := by decide +kernel
  simp only [ixK, ixD, hl, if_true, e, atI, ixN, LT_eq]
  have h3 : (i : Int) < ((List.map (97 + ·) (List.range 26)).length : Int) := by simp; omega
  rw [if_pos (by omega), if_pos h3]
  simp [h, D.kept]
theorem ixK_list {w : Fl} {xs : List D} {i : Nat} {x : D} (h : xs[i]? = some x) (hk : x.kept = true) : ixK (.n .lst w xs) (.v (.int (i : Int))) = some x := by
  have hi := (List.getElem?_eq_some_iff.mp h).1
  simp only [ixK, ixD, atI, ixN]
  rw [if_pos (by omega), if_pos (by omega)]
  simp [h, hk]
theorem add_str {a b : List Nat} (h : a.length + b.length ≤ 1000) : addA (.v (.str (ofC a))) (.v (.str (ofC b))) = some (.v (.str (ofC (a ++ b)))) := by
  have h1 : (ofC a).length + (ofC b).length ≤ 100000 := by rw [len_cps, len_cps, ofC_cps, ofC_cps]; omega
  simp only [addA, if_pos h1]
  have : ofC a ++ ofC b = ofC (a ++ b) := Str.ext' (by show ((ofC a).cps ++ (ofC b).cps).toList = _; simp [ofC])
  rw [this]
theorem cut_hi {cs : List Nat} {i : Nat} (h : i ≤ cs.length) (hl : cs.length ≤ 1000) : slD [.v (.str (ofC cs)), .v .non, .v (.int (i : Int))] = some (.v (.str (ofC (cs.take i)))) := by
  have h1 : (ofC cs).length = cs.length := by rw [len_cps, ofC_cps]
  have e : cutS (ofC cs) none (some (i : Int)) = ofC (cs.take i) := Str.ext' (by
    show (((ofC cs).cps.toList.drop _).take _).toArray.toList = _
    simp only [HT.sIx, h1, ofC_cps]
    have : ¬ ((i : Int) < 0) := by omega
    simp [this, Nat.min_eq_left h])
  simp only [slD, partD, Option.bind_some, h1, e]
  rw [if_pos (by omega)]
theorem cut_lo {cs : List Nat} {i : Nat} (h : i ≤ cs.length) (hl : cs.length ≤ 1000) : slD [.v (.str (ofC cs)), .v (.int (i : Int)), .v .non] = some (.v (.str (ofC (cs.drop i)))) := by
  have h1 : (ofC cs).length = cs.length := by rw [len_cps, ofC_cps]
  have e : cutS (ofC cs) (some (i : Int)) none = ofC (cs.drop i) := Str.ext' (by
    show (((ofC cs).cps.toList.drop _).take _).toArray.toList = _
    simp only [HT.sIx, h1, ofC_cps]
    have : ¬ ((i : Int) < 0) := by omega
    simp only [if_neg this, Int.toNat_natCast, Nat.min_eq_left h]
    rw [List.take_of_length_le (by simp)])
  simp only [slD, partD, Option.bind_some, h1, e]
  rw [if_pos (by omega)]
end
end Lw
/-! EV4 -/
/-! More at the head of a goal: enumerations, comprehensions that draw, the first of a list or None. -/
namespace Fs
open PySem PySem.Spec PyProof.Rows L2 Lw
section
variable {ρ τ : Type} {enc : ρ → D} {w w' : Fl} {xs ys : List ρ} {s δ : Sl} {keep : Bool} {di : DA} {tst : DT} {elt : DE} {Q : D → Sl → Prop} {out : τ → D}
def enE (enc : ρ → D) (p : ρ × Nat) : D := .n .tup .shr [.v (.int (p.2 : Int)), enc p.1]
instance : Ke (enE enc) := ⟨fun _ => rfl⟩
theorem pairsE_map : ∀ (xs : List ρ) (n : Nat), pairsE n (xs.map enc) = (xs.zipIdx n).map (enE enc)
  | [], n => rfl
  | x :: xs, n => by simp [pairsE, pairsE_map xs (n + 1), enE]
theorem it_En [Ke enc] {p : Bool} (h : p = true ∨ w ≠ .own) : itEn p (Lst enc w xs) = some (xs.zipIdx.map (enE enc)) := by
  simp only [Lst, itEn]
  rw [if_pos ⟨all_enc xs, h⟩, pairsE_map]
theorem zip_split {pre post : List (ρ × Nat)} {x : ρ × Nat} (e : xs.zipIdx = pre ++ x :: post) : xs = pre.map Prod.fst ++ x.1 :: post.map Prod.fst ∧ x.2 = pre.length ∧ pre = (pre.map Prod.fst).zipIdx := by
  have h1 : xs = pre.map Prod.fst ++ x.1 :: post.map Prod.fst := by
    have := congrArg (List.map Prod.fst) e
    simpa using this
  have h2 := congrArg (fun l : List (ρ × Nat) => l[pre.length]?) e
  simp only [List.getElem?_append_right (Nat.le_refl _), Nat.sub_self, List.getElem?_cons_zero, List.getElem?_zipIdx] at h2
  have h3 : x.2 = pre.length := by
    cases h4 : xs[pre.length]? with
    | none => rw [h4] at h2; simp at h2
    | some y => rw [h4] at h2; simp at h2; rw [← h2]
  refine ⟨h1, h3, ?_⟩
  have h5 := congrArg (List.take pre.length) e
  rw [List.take_left] at h5
  rw [← h5, h1]
  generalize pre.map Prod.fst = a at *
  refine List.ext_getElem? fun i => ?_
  have hl : pre.length = (pre.map Prod.fst).length := by simp
  by_cases hi : i < pre.length
  · simp [List.getElem?_take, hi, List.getElem?_zipIdx]
  · simp [List.getElem?_take, hi, List.getElem?_zipIdx]
/-- a comprehension whose parts draw -/
theorem sat_cmS {i : Nat} [Ke out] (P : τ → Prop) (I : Sl → Prop) {its : List D} {s1 : Sl} (hd : di s = .ok its s1) (hl : its.length ≤ 100000) (h0 : I (s1.set i none)) (hs : ∀ d s, d ∈ its → I s → sat (elt (s.set i (some d))) fun y s2 => ∃ x, y = out x ∧ P x ∧ I (s2.set i none)) (k : ∀ xs s, (∀ x ∈ xs, P x) → xs.length = its.length → I s → Q (Lst out .own xs) s) : sat (dComp false [i] di (tgN i) dtYes elt s) Q := by
  refine Lw.sat_dComp.mpr ?_
  rw [hd]
  simp only [sat_ok, wipeD]
  refine sat_mono (Lw.sat_comp (I := fun r acc s => ∃ xs : List τ, acc = xs.map out ∧ (∀ x ∈ xs, P x) ∧ xs.length + r.length = its.length ∧ (∀ d ∈ r, d ∈ its) ∧ I s) ?_ ⟨[], rfl, by simp, by simp, fun d h => h, h0⟩) ?_
  · rintro d r acc s ⟨xs, rfl, hx, hlen, hsub, hi⟩
    refine ⟨_, rfl, ?_⟩
    refine ⟨true, _, rfl, fun _ => ?_, by simp⟩
    refine sat_mono (hs d s (hsub d List.mem_cons_self) hi) ?_
    rintro _ s2 ⟨x, rfl, hp, hi2⟩
    simp only [List.length_cons] at hlen
    refine ⟨by simp; omega, xs ++ [x], by simp [frz_kept (Ke.kept (enc := out) x)], fun y hy => ?_, by simp; omega, fun e he => hsub e (List.mem_cons_of_mem _ he), hi2⟩
    rcases List.mem_append.mp hy with q | q
    · exact hx y q
    · rw [List.mem_singleton.mp q]; exact hp
  · rintro acc s ⟨xs, rfl, hx, hlen, _, hi⟩
    exact k xs s hx (by simpa using hlen) hi
/-- a comprehension that draws, each thing by the one that it is made of -/
theorem sat_cmR {i : Nat} [Ke out] (enc : ρ → D) (xs : List ρ) (Rl : ρ → τ → Prop) (I : Sl → Prop) {s1 : Sl} (hd : di s = .ok (xs.map enc) s1) (hl : xs.length ≤ 100000) (h0 : I (s1.set i none)) (hs : ∀ x s, x ∈ xs → I s → sat (elt (s.set i (some (enc x)))) fun y s2 => ∃ z, y = out z ∧ Rl x z ∧ I (s2.set i none)) (k : ∀ (zs : List (ρ × τ)) s, zs.map Prod.fst = xs → (∀ z ∈ zs, Rl z.1 z.2) → I s → Q (Lst out .own (zs.map Prod.snd)) s) : sat (dComp false [i] di (tgN i) dtYes elt s) Q := by
  refine Lw.sat_dComp.mpr ?_
  rw [hd]
  simp only [sat_ok, wipeD]
  refine sat_mono (Lw.sat_comp (I := fun r acc s => ∃ (zs : List (ρ × τ)) (rest : List ρ), acc = (zs.map Prod.snd).map out ∧ r = rest.map enc ∧ zs.map Prod.fst ++ rest = xs ∧ (∀ z ∈ zs, Rl z.1 z.2) ∧ I s) ?_ ⟨[], xs, rfl, rfl, rfl, by simp, h0⟩) ?_
  · rintro d r acc s ⟨zs, rest, rfl, er, ex, hz, hi⟩
    cases rest with
    | nil => simp at er
    | cons x rest =>
      rw [List.map_cons] at er
      obtain ⟨rfl, rfl⟩ := List.cons.inj er
      refine ⟨_, rfl, true, _, rfl, fun _ => ?_, by simp⟩
      refine sat_mono (hs x s (by rw [← ex]; simp) hi) ?_
      rintro _ s2 ⟨z, rfl, hp, hi2⟩
      have hlen : zs.length + (rest.length + 1) = xs.length := by rw [← ex]; simp
      refine ⟨by simp; omega, zs ++ [(x, z)], rest, by simp [frz_kept (Ke.kept (enc := out) z)], rfl, by simpa using ex, fun y hy => ?_, hi2⟩
      rcases List.mem_append.mp hy with q | q
      · exact hz y q
      · rw [List.mem_singleton.mp q]; exact hp
  · rintro acc s ⟨zs, rest, rfl, er, ex, hz, hi⟩
    cases rest with
    | cons x rest => simp at er
    | nil =>
      rw [List.append_nil] at ex
      exact k zs s ex hz hi
/-! the first or None -/
def optE (enc : ρ → D) : Option ρ → D | some x => enc x | none => .non
theorem head_or [Ke enc] (h : xs.length ≤ 99999) : ∃ d, addA (Lst enc w xs) (.n .lst .own [.v .non]) = some d ∧ ixK d (.v (.int 0)) = some (optE enc xs.head?) := by
  refine ⟨.n .lst .own (xs.map enc ++ [.v .non]), ?_, ?_⟩
  · simp only [Lst, addA]
    rw [if_pos ⟨by simp; omega, all_enc xs, rfl⟩]
  · cases xs with
    | nil => rfl
    | cons p ps =>
      have : (0 : Int) < (ps.length : Int) + 1 + 1 := by omega
      simp [ixK, ixD, atI, ixN, optE, this, Ke.kept (enc := enc) p]
theorem eq_opt [DecidableEq ρ] {ok : ρ → Prop} [E : EqE enc ok] {o : Option ρ} (h : ∀ x, o = some x → ok x) : eqD (optE enc o) (optE enc o) = some (.v (.bl true)) ∧ neD (optE enc o) (optE enc o) = some (.v (.bl false)) := by
  cases o with
  | none => exact ⟨rfl, rfl⟩
  | some x =>
    have h1 : SeqAt.shaped (E.p x) = true := by
      have h2 := E.dep x
      simp [SeqAt.shaped, E.lay x (h x rfl)]; omega
    have h3 := (E.eqv x x).mpr rfl
    constructor
    · rw [show optE enc (some x) = enc x from rfl, eqD_of (E.pd_eq x) (E.pd_eq x) h1 h1, h3]
    · rw [show optE enc (some x) = enc x from rfl, neD_of (E.pd_eq x) (E.pd_eq x) h1 h1, h3]; rfl
theorem cut_last (x : ρ) : cutD (xs ++ [x]) none (some (-1)) = xs := by
  unfold cutD
  simp only [HT.sIx]
  rw [if_pos (by decide)]
  have : ((-1 : Int) + ((xs ++ [x]).length : Int)).toNat - 0 = xs.length := by simp; omega
  rw [this]
  simp
theorem cut_hi' {i : Nat} (h : i ≤ xs.length) : cutD xs none (some (i : Int)) = xs.take i := by
  unfold cutD
  simp only [HT.sIx]
  rw [if_neg (by omega)]
  simp [Nat.min_eq_left h]
theorem cut_lo' {i : Nat} : cutD xs (some (i : Int)) none = xs.drop i := by
  unfold cutD
  simp only [HT.sIx]
  rw [if_neg (by omega)]
  rcases Nat.le_total i xs.length with h | h
  · simp [Nat.min_eq_left h]
    rw [List.take_of_length_le (by simp)]
  · simp [Nat.min_eq_right h, h]
theorem rev_Lst [Ke enc] : rev3 [Lst enc w xs, .v (.int (-1))] = some (Lst enc .own xs.reverse) := by
  have h : seqL (Lst enc w xs) = some (xs.map enc) := rfl
  simp only [rev3, h, Option.bind_some, all_enc, if_true]
  simp [Lst]
theorem fwd_Lst [Ke enc] : rev3 [Lst enc w xs, .v (.int 1)] = some (Lst enc .own xs) := by
  have h : seqL (Lst enc w xs) = some (xs.map enc) := rfl
  simp only [rev3, h, Option.bind_some, all_enc, if_true]
  simp [Lst]
theorem sat_seq {a b : DS} {P : Flow → Sl → Prop} (R : Sl → Prop) (ha : sat (a s) fun f s' => f = .nx ∧ R s') (hb : ∀ s', R s' → sat (b s') P) : sat (dsSeq a b s) P := by
  obtain ⟨f, s', e, rfl, h⟩ := ha
  have : dsSeq a b s = b s' := by unfold dsSeq; rw [e]; rfl
  rw [this]
  exact hb s' h
theorem ioF_f : ∀ (io : List Bool) (δ : Sl), io.all (!·) = true → ioF io δ = io.map fun _ => none
  | [], _, _ => rfl
  | b :: bs, [], h => by
    simp only [List.all_cons, Bool.and_eq_true, Bool.not_eq_true'] at h
    simp [ioF, ioF_f bs [] h.2]
  | b :: bs, o :: δ, h => by
    simp only [List.all_cons, Bool.and_eq_true, Bool.not_eq_true'] at h
    simp [ioF, h.1, ioF_f bs δ h.2]
/-- a def that changes nothing of its caller's, called among ones that do -/
theorem sat_pure {N : Nat} {io : List Bool} {ds : DS} {args : List D} {d : D} (h : callK (runF N io ds) args [] = .ok d []) (hio : io.all (!·) = true := by rfl) : sat (runF N io ds args) fun y ios => y = d ∧ ios = io.map fun _ => none := by
  unfold callK at h
  cases e : runF N io ds args with
  | bad => rw [e] at h; cases h
  | exc c xs s => rw [e] at h; cases h
  | ok y s =>
    rw [e] at h
    cases h
    refine ⟨_, _, rfl, rfl, ?_⟩
    unfold runF at e
    split at e
    · split at e <;> cases e <;> exact ioF_f _ _ hio
    · cases e
/-! any things that may be kept -/
def kdE (x : {d : D // d.kept = true}) : D := x.1
instance : Ke kdE := ⟨fun x => x.2⟩
theorem repr_of {x : D} {d : PyData} (hx : pd x = some d) (h : (d.showable && (!d.hasDict && (decide (d.depth ≤ 60) && decide (d.shown.length ≤ 100000)))) = true) : reprD x = some (.v (.str d.shown)) := by
  simp only [Bool.and_eq_true, Bool.not_eq_true', decide_eq_true_eq] at h
  unfold reprD
  split
  · simp [pd] at hx
  · rw [hx, Option.bind_some, if_pos h]
/-! try -/
def tryK (n : Nat → Bool) (hs : List Hn) : Out Flow → Out Flow
  | .exc c xs δ1 => if n c = true ∧ xs.all D.kept = true then pick c xs hs δ1 else .bad
  | o => o
@[simp] theorem dsTry_c {n : Nat → Bool} {b : DS} {hs : List Hn} : dsTry n b hs s = tryK n hs (b s) := by unfold dsTry tryK; cases b s <;> rfl
@[simp] theorem tryK_ok {n : Nat → Bool} {hs : List Hn} {f : Flow} : tryK n hs (.ok f s) = .ok f s := rfl
theorem tryK_exc {n : Nat → Bool} {hs : List Hn} {c : Nat} {xs : List D} (h : n c = true) (hk : xs.all D.kept = true) : tryK n hs (.exc c xs s) = pick c xs hs s := if_pos ⟨h, hk⟩
/-- a pure def that raises -/
theorem callK_X {N : Nat} {io : List Bool} {ds : DS} {args : List D} {c : Nat} {xs : List D} {s' : Sl} (hl : args.length = io.length) (h : ds (args.map some ++ List.replicate (N - args.length) none) = .exc c xs s') : callK (runF N io ds) args s = .exc c xs s := by
  unfold callK
  rw [runF_c hl, h]
  rfl
theorem tgT_2 {i j : Nat} {a b : D} (ha : a.kept = true) (hb : b.kept = true) : tgT [tgN i, tgN j] (.n .tup .shr [a, b]) s = some ((s.set i (some a)).set j (some b)) := by
  simp [tgT, ha, hb, tgs, tgN]
end
end Fs
/-! P9 -/
set_option maxHeartbeats 1000000
/-! The law's names: the walk through the data. -/
namespace Lw
open PySem PySem.Spec PyProof.Rows L2 Fs
theorem wdsD : mkLst [D.v (.str "a"), .v (.str "ask"), .v (.str "b"), .v (.str "work"), .v (.str "a1"), .v (.str "rest"), .v (.str "ab"), .v (.str "failed"), .v (.str "abc"), .v (.str "done"), .v (.str "ba"), .v (.str "off"), .v (.str "aa"), .v (.str "left")] = some (.n .lst .own (wds.map D.str)) := rfl
def NamesSp (n : Nat) (y : D) (ios : Sl) : Prop := ∃ zs d', y = .n .lst .own (zs.map D.str) ∧ NamesOk zs n ∧ ios = [some d', none] ∧ IsBox d'
def FlowP (io : List Bool) (Q : D → Sl → Prop) : Fs.Flow → Sl → Prop := fun f s => match f with | .nx => Q .non (ioF io s) | .rt d => Q d (ioF io s) | _ => False
@[simp] theorem FlowP_rt {io : List Bool} {Q : D → Sl → Prop} {d : D} {s : Sl} : FlowP io Q (.rt d) s = Q d (ioF io s) := rfl
@[simp] theorem FlowP_nx {io : List Bool} {Q : D → Sl → Prop} {s : Sl} : FlowP io Q .nx s = Q .non (ioF io s) := rfl
theorem sat_F' {N : Nat} {io : List Bool} {ds : DS} {args : List D} {Q : D → Sl → Prop} (hl : args.length = io.length) (h : sat (ds (args.map some ++ List.replicate (N - args.length) none)) (FlowP io Q)) : sat (runF N io ds args) Q := sat_F hl h
abbrev ltrs : D := .v (.str "abcdefghijklmnopqrstuvwxyz")
def nmBody : DS := (dsSeq (dsAsg (dN (f2 addA) [.v (dN (f2 ixK) [.k (pVar 2), .v (dN (f2 modD) [.v (dN (f2 addA) [.k (pVar 7), .v (dN (f2 mulA) [.k (pC (.int 7)), .k (pVar 5)])]), .k (pC (.int 26))])]), .v (dN (f2 ixK) [.v (dF mkLst (daCons (dP (pC (.str ""))) (daCons (dP (pC (.str "0"))) daNil))), .v (dN (f2 divD) [.k (pVar 5), .k (pC (.int 26))])])]) (tgN 9)) (dsDrop (dApp 8 (dN (f2 addA) [.v (dN (f2 addA) [.v (dN (f2 addA) [.v (dN slD [.k (pVar 6), .k (pC .non), .k (pUn intP (pVar 4))]), .k (pVar 9)]), .v (dN slD [.k (pVar 6), .k (pUn intP (pVar 4)), .k (pC .non)])]), .v (dN slD [.k (pC (.str "z9")), .k (pC .non), .v (d1 intP (dN (f2 modD) [.k (pVar 5), .k (pC (.int 3))]))])]))))
def nmRest (B : DS) : DS := (dsSeq (dsAsg (dNI (f1 (joinD "")) [.v (dComp false [5] (diD itR (dCallIO F_L_law_take [.o 0, .v (dP (pC (.int 5)))])) (tgN 5) dtYes (dNI (f2 ixK) [.l 2, .v (dCallIO F_L_law_take [.o 0, .v (dP (pC (.int 26)))])]))]) (tgN 6)) (dsSeq (dsAsg (dCallIO F_L_law_take [.o 0, .v (dN (f2 addA) [.v (dN (f1 lenD) [.k (pVar 6)]), .k (pC (.int 1))])]) (tgN 4)) (dsSeq (dsAsg (dCallIO F_L_law_take [.o 0, .v (dP (pC (.int 26)))]) (tgN 7)) (dsSeq (dsAsg (dF mkLst daNil) (tgN 8)) (dsSeq (dsFor (diD itR (dP (pVar 1))) (tgN 5) B) (dsRet (dMv 8)))))))
def BodySp (B : DS) : Prop := ∀ {d0 : Option D} {cs : List Nat} {n at_ f k : Nat} {acc : List D} {x3 x9 : Option D} (ha : at_ ≤ cs.length) (hl : cs.length ≤ 4) (hk : k < 52) (hacc : acc.length < 100000), sat (B [d0, some (.int (n : Int)), some ltrs, x3, some (.int (at_ : Int)), some (.int (k : Int)), some (.v (.str (ofC cs))), some (.int (f : Int)), some (.n .lst .own acc), x9]) fun fl s => fl = .nx ∧ ∃ x9', s = [d0, some (.int (n : Int)), some ltrs, x3, some (.int (at_ : Int)), some (.int (k : Int)), some (.v (.str (ofC cs))), some (.int (f : Int)), some (.n .lst .own (acc ++ [.v (.str (ofC (nmC cs at_ f k)))])), x9']
theorem body_sp {d0 : Option D} {cs : List Nat} {n at_ f k : Nat} {acc : List D} {x3 x9 : Option D} (ha : at_ ≤ cs.length) (hl : cs.length ≤ 4) (hk : k < 52) (hacc : acc.length < 100000) :
    sat (nmBody [d0, some (.int (n : Int)), some ltrs, x3, some (.int (at_ : Int)), some (.int (k : Int)), some (.v (.str (ofC cs))), some (.int (f : Int)), some (.n .lst .own acc), x9]) fun fl s => fl = .nx ∧ ∃ x9', s = [d0, some (.int (n : Int)), some ltrs, x3, some (.int (at_ : Int)), some (.int (k : Int)), some (.v (.str (ofC cs))), some (.int (f : Int)), some (.n .lst .own (acc ++ [.v (.str (ofC (nmC cs at_ f k)))])), x9'] := by
  have e1 : cMul 7 (k : Int) = true := cMul_l (by decide)
  have e2 : cMod ((f : Int) + 7 * (k : Int)) 26 = true := cMod_p (by decide)
  have e3 : ((f : Int) + 7 * (k : Int)) % 26 = (((f + 7 * k) % 26 : Nat) : Int) := by omega
  have e4 := ixK_letter (i := (f + 7 * k) % 26) (by omega)
  have e5 : mkLst [D.v (.str ""), .v (.str "0")] = some (.n .lst .own [.v (.str ""), .v (.str "0")]) := rfl
  have e6 : cDiv (k : Int) 26 = true := cDiv_p (by decide) (by decide)
  have e7 : ixK (.n .lst .own [.v (.str ""), .v (.str "0")]) (.v (.int ((k : Int) / 26))) = some (.v (.str (ofC (if k < 26 then [] else [48])))) := by
    by_cases h : k < 26
    · rw [show (k : Int) / 26 = ((0 : Nat) : Int) by omega, if_pos h]; rfl
    · rw [show (k : Int) / 26 = ((1 : Nat) : Int) by omega, if_neg h]; rfl
  have e8 : cMod (k : Int) 3 = true := cMod_p (by decide)
  have e9 : ((k : Int) % 3) = ((k % 3 : Nat) : Int) := by omega
  have e10 : slD [.v (.str "z9"), .v .non, .v (.int ((k % 3 : Nat) : Int))] = some (.v (.str (ofC ([122, 57].take (k % 3))))) := cut_hi (cs := [122, 57]) (by simp; omega) (by simp)
  have e11 : addA (sg (97 + (f + 7 * k) % 26)) (.v (.str (ofC (if k < 26 then [] else [48])))) = some (.v (.str (ofC ([97 + (f + 7 * k) % 26] ++ (if k < 26 then [] else [48]))))) := add_str (a := [97 + (f + 7 * k) % 26]) (by split <;> simp)
  generalize hS : [97 + (f + 7 * k) % 26] ++ (if k < 26 then [] else [48]) = sgn at e11
  have hsl : sgn.length ≤ 2 := by rw [← hS]; split <;> simp
  have e12 := cut_hi ha (by omega)
  have e13 := cut_lo ha (by omega)
  have e14 : addA (.v (.str (ofC (cs.take at_)))) (.v (.str (ofC sgn))) = _ := add_str (by simp; omega)
  have e15 : addA (.v (.str (ofC (cs.take at_ ++ sgn)))) (.v (.str (ofC (cs.drop at_)))) = _ := add_str (by simp; omega)
  have e16 : addA (.v (.str (ofC ((cs.take at_ ++ sgn) ++ cs.drop at_)))) (.v (.str (ofC ([122, 57].take (k % 3))))) = _ := add_str (by simp; omega)
  have e17 : ((cs.take at_ ++ sgn) ++ cs.drop at_) ++ [122, 57].take (k % 3) = nmC cs at_ f k := by
    unfold nmC
    rw [← hS]
    simp
  rw [e17] at e16
  generalize hM : (f + 7 * k) % 26 = m at e3 e4 e11 hS
  generalize hT3 : k % 3 = t at e9 e10 e16
  generalize hT : ofC ([122, 57].take t) = tl at e10 e16
  generalize hU : (ofC (if k < 26 then [] else [48])) = sfx at e7 e11
  simp only [nmBody]
  simp [e1, e2, e3, e4, e5, e6, e7, e11]
  refine sat_app (w := .own) (xs := acc) rfl ?_
  simp [e8, e9, e10, e12, e13, e14, e15, e16, hacc, -List.append_assoc]
theorem rest_sp {B : DS} (hB : BodySp B) {d : D} {n : Nat} {x3 x4 : Option D} (h : IsBox d) (hn : n ≤ 52) : sat (nmRest B [some d, some (.int (n : Int)), some ltrs, x3, x4, none, none, none, none, none]) (FlowP [true, false] (NamesSp n)) := by
  have hf := h.free
  simp only [nmRest]
  simp [sat_dComp, diD, hf]
  refine sat_mono (take_sp h (by decide) (by decide)) ?_
  rintro _ _ ⟨r, d1, rfl, rfl, hr0, hr1, hb1⟩
  have hf1 := hb1.free
  obtain ⟨r', rfl⟩ : ∃ r' : Nat, r = (r' : Int) := ⟨r.toNat, by omega⟩
  simp [hf1, it_range (n := r') (by omega)]
  refine sat_mono (sat_comp (I := fun its acc s => ∃ cs dd, acc = cs.map sg ∧ (∀ c ∈ cs, c ∈ LT) ∧ cs.length + its.length ≤ 4 ∧ IsBox dd ∧ s = [some dd, some (.int (n : Int)), some ltrs, x3, x4, none, none, none, none, none]) ?_ ⟨[], d1, rfl, by simp, by simp; omega, hb1, by simp [wipeD]⟩) ?_
  · rintro it r acc s ⟨cs, dd, rfl, hc, hl, hbd, rfl⟩
    have hfd := hbd.free
    refine ⟨_, rfl, ?_⟩
    simp [hfd, wipeD]
    refine sat_mono (take_sp hbd (by decide) (by decide)) ?_
    rintro _ _ ⟨i, d2, rfl, rfl, hi0, hi1, hb2⟩
    obtain ⟨i', rfl⟩ : ∃ i' : Nat, i = (i' : Int) := ⟨i.toNat, by omega⟩
    have e4 := ixK_letter (i := i') (by omega)
    simp [hb2.free, e4]
    refine ⟨by simp at hl; omega, cs ++ [97 + i'], by simp, fun c hc2 => ?_, by simp at hl ⊢; omega, hb2⟩
    rcases List.mem_append.mp hc2 with q | q
    · exact hc c q
    · rw [List.mem_singleton.mp q]; exact mem_LT.mpr (by omega)
  · rintro acc s ⟨cs, dd, rfl, hc, hl, hbd, rfl⟩
    have hfd := hbd.free
    simp only [List.length_nil, Nat.add_zero] at hl
    have e1 := joinD_sg cs (by omega)
    have e2 : lenD (.v (.str (ofC cs))) = some (.v (.int (cs.length : Int))) := by rw [len_str (by rw [len_cps, ofC_cps]; omega), len_cps, ofC_cps]
    generalize cs.map sg = G at e1
    simp [e1, e2, hfd]
    refine sat_mono (take_sp hbd (by omega) (by omega)) ?_
    rintro _ _ ⟨a, d2, rfl, rfl, ha0, ha1, hb2⟩
    obtain ⟨a', rfl⟩ : ∃ a' : Nat, a = (a' : Int) := ⟨a.toNat, by omega⟩
    simp [hb2.free]
    refine sat_mono (take_sp hb2 (by omega) (by omega)) ?_
    rintro _ _ ⟨f, d3, rfl, rfl, hf0, hf1', hb3⟩
    obtain ⟨f', rfl⟩ : ∃ f' : Nat, f = (f' : Int) := ⟨f.toNat, by omega⟩
    have em : mkLst [] = some (.n .lst .own []) := rfl
    simp [hb3.free, em, diD, it_range (n := n) (by omega)]
    refine sat_mono (sat_loop (I := fun its s => ∃ k x5 x9, k ≤ n ∧ its = (List.range' k (n - k)).map (fun (j : Nat) => D.int (j : Int)) ∧ s = [some d3, some (.int (n : Int)), some ltrs, x3, some (.int (a' : Int)), x5, some (.v (.str (ofC cs))), some (.int (f' : Int)), some (.n .lst .own ((List.range k).map fun j => D.v (.str (ofC (nmC cs a' f' j))))), x9]) ?_ ⟨0, none, none, by omega, by simp [List.range_eq_range'], rfl⟩) ?_
    · rintro it r s ⟨k, x5, x9, hk, ei, rfl⟩
      have hkn : k < n := by
        rcases Nat.lt_or_ge k n with q | q
        · exact q
        · rw [show n - k = 0 by omega] at ei; simp at ei
      rw [show n - k = (n - k - 1) + 1 by omega, List.range'_succ, List.map_cons] at ei
      obtain ⟨rfl, rfl⟩ := List.cons.inj ei
      refine ⟨_, rfl, ?_⟩
      refine sat_mono (hB (cs := cs) (at_ := a') (f := f') (k := k) (n := n) (by omega) hl (by omega) (by simp; omega)) ?_
      rintro fl s ⟨rfl, x9', rfl⟩
      refine ⟨.inl rfl, k + 1, some (.int (k : Int)), x9', by omega, by rw [show n - k - 1 = n - (k + 1) by omega], by simp [List.range_succ]⟩
    · rintro fl s ⟨rfl, k, x5, x9, hk, ei, rfl⟩
      have hkn : k = n := by
        rcases Nat.lt_or_ge k n with q | q
        · rw [show n - k = (n - k - 1) + 1 by omega, List.range'_succ] at ei; simp at ei
        · omega
      subst hkn
      simp [dMv, D.free, ioF]
      exact ⟨(List.range k).map fun j => ofC (nmC cs a' f' j), d3, by simp, names2 hc hl hn, rfl, hb3⟩
def nmComp : DE := (dComp true [5] (diD itR (dP (pVar 1))) (tgN 5) dtYes (dN (f2 ixK) [.k (pVar 3), .v (dN (f2 modD) [.v (dN (f2 addA) [.k (pVar 4), .v (dN (f2 mulA) [.k (pC (.int 3)), .k (pVar 5)])]), .k (pC (.int 14))])]))
def namesAll (B : DS) : DS := (dsSeq (dsAsg (dP (pC (.str "abcdefghijklmnopqrstuvwxyz"))) (tgN 2)) (dsSeq (dsAsg (dF mkLst (daCons (dP (pC (.str "a"))) (daCons (dP (pC (.str "ask"))) (daCons (dP (pC (.str "b"))) (daCons (dP (pC (.str "work"))) (daCons (dP (pC (.str "a1"))) (daCons (dP (pC (.str "rest"))) (daCons (dP (pC (.str "ab"))) (daCons (dP (pC (.str "failed"))) (daCons (dP (pC (.str "abc"))) (daCons (dP (pC (.str "done"))) (daCons (dP (pC (.str "ba"))) (daCons (dP (pC (.str "off"))) (daCons (dP (pC (.str "aa"))) (daCons (dP (pC (.str "left"))) daNil))))))))))))))) (tgN 3)) (dsSeq (dsIf (dtAnd (dtV (dN (f2 ltD) [.k (pVar 1), .k (pC (.int 15))])) (dtV (dNI (f2 eqD) [.v (dCallIO F_L_law_take [.o 0, .v (dP (pC (.int 4)))]), .v (dP (pC (.int 0)))]))) (dsSeq (dsAsg (dCallIO F_L_law_take [.o 0, .v (dP (pC (.int 14)))]) (tgN 4)) (dsRet nmComp)) dsNext) (nmRest B))))
theorem names_eq : d_L_law_names = namesAll nmBody := rfl
theorem comp1_sp {d : D} {n a : Nat} (hn : n < 15) (ha : a < 14) : nmComp [some d, some (.int (n : Int)), some ltrs, some (.n .lst .own (wds.map D.str)), some (.int (a : Int)), none, none, none, none, none] = .ok (.n .lst .own ((List.range n).map fun k => D.v (.str (wd ((a + 3 * k) % 14))))) [some d, some (.int (n : Int)), some ltrs, some (.n .lst .own (wds.map D.str)), some (.int (a : Int)), none, none, none, none, none] := by
  unfold nmComp
  refine dComp_mt (enc := fun (k : Nat) => D.int (k : Int)) (xs := List.range n) (fun k => D.v (.str (wd ((a + 3 * k) % 14)))) (by simp [diD, it_range (n := n) (by omega)]) rfl (fun k hk => ?_) (by simp; omega)
  have e1 : cMul 3 (k : Int) = true := cMul_l (by decide)
  have e2 : cMod ((a : Int) + 3 * (k : Int)) 14 = true := cMod_p (by decide)
  have e3 : ((a : Int) + 3 * (k : Int)) % 14 = (((a + 3 * k) % 14 : Nat) : Int) := by omega
  have hm : (a + 3 * k) % 14 < 14 := by omega
  generalize (a + 3 * k) % 14 = m at e3 hm ⊢
  have e4 : ixK (.n .lst .own (wds.map D.str)) (.v (.int (m : Int))) = some (.v (.str (wd m))) := by
    have hm2 : m < wds.length := hm
    refine ixK_list ?_ rfl
    rw [List.getElem?_map, List.getElem?_eq_getElem hm2]
    simp [wd, List.getD_eq_getElem?_getD, List.getElem?_eq_getElem hm2]
  constructor
  · generalize wds.map D.str = G at e4
    simp [e1, e2, e3, e4]
  · simp
theorem names_gen {B : DS} (hB : BodySp B) {d : D} {n : Nat} (h : IsBox d) (hn : n ≤ 52) : sat (runF 10 [true, false] (namesAll B) [d, .int (n : Int)]) (NamesSp n) := by
  refine sat_F' rfl ?_
  have hf := h.free
  have hr := fun {d : D} {x4 : Option D} (h : IsBox d) => rest_sp hB (d := d) (n := n) (x3 := some (.n .lst .own (wds.map D.str))) (x4 := x4) h hn
  have hc := fun {d : D} {a : Nat} => comp1_sp (d := d) (n := n) (a := a)
  have hw := wdsD
  unfold namesAll
  generalize wds.map D.str = G at hr hc hw
  by_cases h15 : (n : Int) < 15
  · simp [hw, h15, hf]
    refine sat_mono (take_sp h (by decide) (by decide)) ?_
    rintro _ _ ⟨r, d1, rfl, rfl, hr0, hr1, hb1⟩
    by_cases h0 : r = 0
    · simp [h0, hb1.free]
      refine sat_mono (take_sp hb1 (by decide) (by decide)) ?_
      rintro _ _ ⟨a, d2, rfl, rfl, ha0, ha1, hb2⟩
      obtain ⟨a', rfl⟩ : ∃ a' : Nat, a = (a' : Int) := ⟨a.toNat, by omega⟩
      simp [hb2.free, hc (d := d2) (a := a') (by omega) (by omega), ioF]
      exact ⟨(List.range n).map fun k => wd ((a' + 3 * k) % 14), d2, by simp, names1_ok (by omega) (by omega), rfl, hb2⟩
    · simp [h0, hb1.free]
      exact hr hb1
  · simp [hw, h15, hf]
    exact hr h
theorem names_sp {d : D} {n : Nat} (h : IsBox d) (hn : n ≤ 52) : sat (F_L_law_names [d, .int (n : Int)]) (NamesSp n) := names_gen (B := nmBody) body_sp h hn
end Lw
/-! P10 -/
set_option maxHeartbeats 1000000
/-! The law's rows. -/
namespace Lw
open PySem PySem.Spec PyProof.Rows L2 Fs
theorem ix_ints {P : Int → Prop} {xs : List Int} {w : Fl} {r : Int} (h : ∀ i ∈ xs, P i) (h0 : 0 ≤ r) (h1 : r < xs.length) : ∃ i, P i ∧ ixK (.n .lst w (xs.map D.int)) (.v (.int r)) = some (.v (.int i)) := by
  obtain ⟨r', rfl⟩ : ∃ r' : Nat, r = (r' : Int) := ⟨r.toNat, by omega⟩
  have h2 : r' < xs.length := by omega
  refine ⟨xs[r'], h _ (List.getElem_mem h2), ixK_list ?_ rfl⟩
  rw [List.getElem?_map, List.getElem?_eq_getElem h2]
  rfl
theorem mk1 {a : D} : mkLst [a] = some (.n .lst .own [frz a]) := rfl
theorem mk2 {a b : D} : mkLst [a, b] = some (.n .lst .own [frz a, frz b]) := rfl
theorem mk3 {a b c : D} : mkLst [a, b, c] = some (.n .lst .own [frz a, frz b, frz c]) := rfl
theorem mk4 {a b c d : D} : mkLst [a, b, c, d] = some (.n .lst .own [frz a, frz b, frz c, frz d]) := rfl
theorem mk6 {a b c d e f : D} : mkLst [a, b, c, d, e, f] = some (.n .lst .own [frz a, frz b, frz c, frz d, frz e, frz f]) := rfl
theorem mkt2 {a b : D} : mkTup [a, b] = some (.n .tup .shr [frz a, frz b]) := rfl
theorem mkt5 {a b c d e : D} : mkTup [a, b, c, d, e] = some (.n .tup .shr [frz a, frz b, frz c, frz d, frz e]) := rfl
structure Row.num (r : Row) : Prop where
  a0 : 0 ≤ r.a
  a1 : r.a ≤ 200
  b0 : 0 ≤ r.b
  b1 : r.a - 1 ≤ r.b
  b2 : r.b ≤ 199
  l0 : 1 ≤ r.l
  l1 : r.l ≤ 12
  k0 : 0 ≤ r.k
  k1 : r.k ≤ r.l
def rwTail : DS := (dsSeq (dsAsg (dNI (f2 addA) [.v (dP (pC (.int 1))), .v (dCallIO F_L_law_take [.o 0, .l 3])]) (tgN 8)) (dsSeq (dsAsg (dNI (f2 ixK) [.v (dF mkLst (daCons (dP (pVar 8)) (daCons (dP (pVar 8)) (daCons (dCallIO F_L_law_take [.o 0, .v (dN (f2 addA) [.k (pVar 8), .k (pC (.int 1))])]) (daCons (dP (pC (.int 0))) daNil))))), .v (dCallIO F_L_law_take [.o 0, .v (dP (pC (.int 4)))])]) (tgN 9)) (dsDrop (dApp 4 (dF mkTup (daCons (dP (pVar 5)) (daCons (dP (pVar 6)) (daCons (dP (pVar 7)) (daCons (dP (pVar 8)) (daCons (dP (pVar 9)) daNil))))))))))
def rwBody : DS := (dsSeq (dsAsg (dCallIO F_L_law_take [.o 0, .l 2]) (tgN 6)) (dsSeq (dsAsg (dNI (f2 minD) [.v (dP (pC (.int 199))), .v (dNI (f2 addA) [.l 6, .v (dNI (f2 ixK) [.v (dF mkLst (daCons (dCallIO F_L_law_take [.o 0, .v (dP (pC (.int 12)))]) (daCons (dCallIO F_L_law_take [.o 0, .l 2]) (daCons (dP (pC (.int 199))) daNil)))), .v (dCallIO F_L_law_take [.o 0, .v (dP (pC (.int 3)))])])])]) (tgN 7)) (dsSeq (dsIf (dtV (dNI (f2 eqD) [.v (dCallIO F_L_law_take [.o 0, .v (dP (pC (.int 10)))]), .v (dP (pC (.int 0)))])) (dsAsg (dN (f2 addA) [.k (pVar 7), .k (pC (.int 1))]) (tgN 6)) dsNext) rwTail)))
def rwAll (F : List D → Out D) : DS := (dsSeq (dsAsg (dNI (f2 ixK) [.v (dF mkLst (daCons (dP (pC (.int 8))) (daCons (dP (pC (.int 20))) (daCons (dP (pC (.int 40))) (daCons (dP (pC (.int 200))) daNil))))), .v (dCallIO F_L_law_take [.o 0, .v (dP (pC (.int 4)))])]) (tgN 2)) (dsSeq (dsAsg (dNI (f2 ixK) [.v (dF mkLst (daCons (dP (pC (.int 2))) (daCons (dP (pC (.int 4))) (daCons (dP (pC (.int 12))) daNil)))), .v (dCallIO F_L_law_take [.o 0, .v (dP (pC (.int 3)))])]) (tgN 3)) (dsSeq (dsAsg (dF mkLst daNil) (tgN 4)) (dsSeq (dsFor (diD (itA true) (dCallIO F [.o 0, .v (dNI (f2 maxD) [.v (dCallIO F_L_law_take [.o 0, .v (dN (f2 addA) [.k (pVar 1), .k (pC (.int 1))])]), .v (dCallIO F_L_law_take [.o 0, .v (dN (f2 addA) [.k (pVar 1), .k (pC (.int 1))])])])])) (tgN 5) rwBody) (dsRet (dMv 4))))))
theorem rows_eq : d_L_law_rows = rwAll F_L_law_names := rfl
def RwPost (x1 : Option D) (t lg : Int) (acc : List D) (z : Str) (fl : Fs.Flow) (s : Sl) : Prop := fl = .nx ∧ ∃ d' r y6 y7 y8 y9, IsBox d' ∧ r.num ∧ r.nm = z ∧ s = [some d', x1, some (.v (.int t)), some (.v (.int lg)), some (.n .lst .own (acc ++ [rowD r])), some (.v (.str z)), y6, y7, y8, y9]
theorem rwTail_sp {d : D} {x1 x8 x9 : Option D} {t lg a b : Int} {z : Str} {acc : List D} (h : IsBox d) (hg : 0 < lg) (hg2 : lg ≤ 12) (ha : acc.length < 100000) (a0 : 0 ≤ a) (a1 : a ≤ 200) (b0 : 0 ≤ b) (hb1 : a - 1 ≤ b) (b2 : b ≤ 199) :
    sat (rwTail [some d, x1, some (.v (.int t)), some (.v (.int lg)), some (.n .lst .own acc), some (.v (.str z)), some (.v (.int a)), some (.v (.int b)), x8, x9]) (RwPost x1 t lg acc z) := by
  have hf := h.free
  unfold rwTail
  simp [hf]
  refine sat_mono (take_sp h hg (by omega)) ?_
  rintro _ _ ⟨l, d1, rfl, rfl, l0, l1, c1⟩
  simp [c1.free]
  refine sat_mono (take_sp c1 (m := 1 + l + 1) (by omega) (by omega)) ?_
  rintro _ _ ⟨u, d2, rfl, rfl, u0, u1, c2⟩
  simp [c2.free, mk4]
  refine sat_mono (take_sp c2 (by decide) (by decide)) ?_
  rintro _ _ ⟨w, d3, rfl, rfl, w0, w1, c3⟩
  obtain ⟨i, hi, ei⟩ := ix_ints (P := fun i => 0 ≤ i ∧ i ≤ 1 + l) (xs := [1 + l, 1 + l, u, 0]) (w := .own) (r := w) (by simp; omega) w0 (by simpa using w1)
  simp only [List.map_cons, List.map_nil] at ei
  simp [c3.free, ei]
  refine sat_app (w := .own) (xs := acc) rfl ?_
  simp [mkt5, ha]
  exact ⟨rfl, d3, ⟨z, a, b, 1 + l, i⟩, _, _, _, _, c3, ⟨a0, a1, b0, hb1, b2, by show 1 ≤ 1 + l; omega, by show 1 + l ≤ 12; omega, hi.1, hi.2⟩, rfl, rfl⟩
theorem rwBody_sp {d : D} {x1 x6 x7 x8 x9 : Option D} {t lg : Int} {z : Str} {acc : List D} (h : IsBox d) (ht : 0 < t) (ht2 : t ≤ 200) (hg : 0 < lg) (hg2 : lg ≤ 12) (ha : acc.length < 100000) :
    sat (rwBody [some d, x1, some (.v (.int t)), some (.v (.int lg)), some (.n .lst .own acc), some (.v (.str z)), x6, x7, x8, x9]) (RwPost x1 t lg acc z) := by
  have hf := h.free
  unfold rwBody
  simp [hf]
  refine sat_mono (take_sp h ht (by omega)) ?_
  rintro _ _ ⟨f, d1, rfl, rfl, f0, f1, b1⟩
  simp [b1.free]
  refine sat_mono (take_sp b1 (by decide) (by decide)) ?_
  rintro _ _ ⟨u, d2, rfl, rfl, u0, u1, b2⟩
  simp [b2.free]
  refine sat_mono (take_sp b2 ht (by omega)) ?_
  rintro _ _ ⟨v, d3, rfl, rfl, v0, v1, b3⟩
  simp [b3.free, mk3]
  refine sat_mono (take_sp b3 (by decide) (by decide)) ?_
  rintro _ _ ⟨w, d4, rfl, rfl, w0, w1, b4⟩
  obtain ⟨i, hi, ei⟩ := ix_ints (P := fun i => 0 ≤ i ∧ i ≤ 199) (xs := [u, v, 199]) (w := .own) (r := w) (by simp; omega) w0 (by simpa using w1)
  simp only [List.map_cons, List.map_nil] at ei
  simp [b4.free, ei]
  refine sat_mono (take_sp b4 (by decide) (by decide)) ?_
  rintro _ _ ⟨q, d5, rfl, rfl, q0, q1, b5⟩
  by_cases hq : q = 0
  · simp [b5.free, hq]
    exact rwTail_sp b5 hg hg2 ha (by omega) (by omega) (by omega) (by omega) (by omega)
  · simp [b5.free, hq]
    exact rwTail_sp b5 hg hg2 ha (by omega) (by omega) (by omega) (by omega) (by omega)
def RowsSp (m : Nat) (y : D) (ios : Sl) : Prop := ∃ rs d', y = .n .lst .own (rowsD rs) ∧ RowsOk rs ∧ rs.length ≤ m ∧ ios = [some d', none] ∧ IsBox d'
def RowsSp2 (m : Nat) (y : D) (ios : Sl) : Prop := ∃ rs d', y = .n .lst .own (rowsD rs) ∧ RowsOk rs ∧ rs.length ≤ m ∧ ios = [some d', none] ∧ IsBox d' ∧ ∀ r ∈ rs, nineB r.nm.cps.toList = true
theorem itA_strs {zs : List Str} {w : Fl} : itA true (.n .lst w (zs.map D.str)) = some (zs.map D.str) := by
  have h0 : (zs.map D.str).all D.kept = true ∧ (true = true ∨ w ≠ .own) := ⟨by simp [D.kept], .inl rfl⟩
  show (if (zs.map D.str).all D.kept = true ∧ (true = true ∨ w ≠ .own) then some (zs.map D.str) else none) = _
  rw [if_pos h0]
theorem max_cast {a b : Int} (ha : 0 ≤ a) (hb : 0 ≤ b) : max a b = (((max a b).toNat : Nat) : Int) := by omega
theorem rows_gen {F : List D → Out D} (hF : ∀ {d : D} {n : Nat}, IsBox d → n ≤ 52 → sat (F [d, .int (n : Int)]) (NamesSp n)) {d : D} {m : Nat} (h : IsBox d) (hm : m ≤ 30) : sat (runF 10 [true, false] (rwAll F) [d, .int (m : Int)]) (RowsSp2 m) := by
  refine sat_F' rfl ?_
  have hf := h.free
  unfold rwAll
  simp [mk4, hf]
  refine sat_mono (take_sp h (by decide) (by decide)) ?_
  rintro _ _ ⟨u, d1, rfl, rfl, u0, u1, b1⟩
  obtain ⟨t, ht, et⟩ := ix_ints (P := fun i => 0 < i ∧ i ≤ 200) (xs := [8, 20, 40, 200]) (w := .own) (r := u) (by simp) u0 (by simpa using u1)
  simp only [List.map_cons, List.map_nil] at et
  simp [b1.free, et, mk3]
  refine sat_mono (take_sp b1 (by decide) (by decide)) ?_
  rintro _ _ ⟨v, d2, rfl, rfl, v0, v1, b2⟩
  obtain ⟨lg, hg, eg⟩ := ix_ints (P := fun i => 0 < i ∧ i ≤ 12) (xs := [2, 4, 12]) (w := .own) (r := v) (by simp) v0 (by simpa using v1)
  simp only [List.map_cons, List.map_nil] at eg
  have em : mkLst [] = some (.n .lst .own []) := rfl
  simp [b2.free, eg, em, diD]
  refine sat_mono (take_sp b2 (by omega) (by omega)) ?_
  rintro _ _ ⟨p, d3, rfl, rfl, p0, p1, b3⟩
  simp [b3.free]
  refine sat_mono (take_sp b3 (by omega) (by omega)) ?_
  rintro _ _ ⟨q, d4, rfl, rfl, q0, q1, b4⟩
  have hmax : max p q = (((max p q).toNat : Nat) : Int) := max_cast p0 q0
  have hml : (max p q).toNat ≤ m := by omega
  generalize (max p q).toNat = n at hmax hml
  simp [b4.free, hmax]
  refine sat_mono (hF b4 (n := n) (by omega)) ?_
  rintro _ _ ⟨zs, d5, rfl, hz, rfl, b5⟩
  simp [b5.free, itA_strs]
  refine sat_mono (sat_loop (I := fun its s => ∃ rs zs' d' y5 y6 y7 y8 y9, zs = rs.map Row.nm ++ zs' ∧ its = zs'.map D.str ∧ (∀ r ∈ rs, r.num) ∧ IsBox d' ∧ s = [some d', some (.int (m : Int)), some (.v (.int t)), some (.v (.int lg)), some (.n .lst .own (rowsD rs)), y5, y6, y7, y8, y9]) ?_ ⟨[], zs, d5, _, _, _, _, _, rfl, rfl, by simp, b5, rfl⟩) ?_
  · rintro it r s ⟨rs, zs', d', y5, y6, y7, y8, y9, e, ei, hr, hb, rfl⟩
    cases zs' with
    | nil => simp at ei
    | cons z zs' =>
      rw [List.map_cons] at ei
      obtain ⟨rfl, rfl⟩ := List.cons.inj ei
      have hl : rs.length < 100000 := by
        have := hz.len
        rw [e] at this
        simp at this
        omega
      refine ⟨_, rfl, ?_⟩
      refine sat_mono (rwBody_sp hb ht.1 ht.2 hg.1 hg.2 (by simpa [rowsD] using hl)) ?_
      rintro fl s ⟨rfl, d'', r, z6, z7, z8, z9, hb2, hn, rfl, rfl⟩
      refine ⟨.inl rfl, rs ++ [r], zs', d'', some (.v (.str r.nm)), z6, z7, z8, z9, by simpa using e, rfl, fun x hx => ?_, hb2, by simp [rowsD]⟩
      rcases List.mem_append.mp hx with q | q
      · exact hr x q
      · rw [List.mem_singleton.mp q]; exact hn
  · rintro fl s ⟨rfl, rs, zs', d', y5, y6, y7, y8, y9, e, ei, hr, hb, rfl⟩
    cases zs' with
    | cons z zs' => simp at ei
    | nil =>
      rw [List.append_nil] at e
      simp [dMv, D.free, ioF]
      have hl : rs.length = n := by rw [← hz.len, e]; simp
      refine ⟨rs, d', rfl, ⟨by omega, by rw [← e]; exact hz.nd, fun r hr2 => ?_⟩, by omega, rfl, hb, fun r hr2 => hz.nine r.nm (by rw [e]; exact List.mem_map.mpr ⟨r, hr2, rfl⟩)⟩
      have h1 := hr r hr2
      exact ⟨hz.ok r.nm (by rw [e]; exact List.mem_map.mpr ⟨r, hr2, rfl⟩), h1.a0, h1.a1, h1.b0, h1.b1, h1.b2, h1.l0, h1.l1, h1.k0, h1.k1⟩
theorem rows_sp2 {d : D} {m : Nat} (h : IsBox d) (hm : m ≤ 30) : sat (F_L_law_rows [d, .int (m : Int)]) (RowsSp2 m) := rows_gen (F := F_L_law_names) names_sp h hm
theorem rows_sp {d : D} {m : Nat} (h : IsBox d) (hm : m ≤ 30) : sat (F_L_law_rows [d, .int (m : Int)]) (RowsSp m) :=
  sat_mono (rows_sp2 h hm) fun _ _ ⟨rs, d', h1, h2, h3, h4, h5, _⟩ => ⟨rs, d', h1, h2, h3, h4, h5⟩
end Lw
/-! P11 -/
set_option maxHeartbeats 1000000
/-! The law's stretches. -/
namespace Lw
open PySem PySem.Spec PyProof.Rows L2 Fs
def rowP (r : Row) : PyData := .tuple [.str r.nm, .int r.a, .int r.b, .int r.l, .int r.k]
theorem pds_rows : ∀ rs : List Row, pds (rowsD rs) = some (rs.map rowP)
  | [] => rfl
  | r :: rs => by
    have := pds_rows rs
    simp only [rowsD, List.map_cons] at this ⊢
    simp [pds, pd, this, rowP]
theorem lay_rows : ∀ rs : List Row, (∀ r ∈ rs, r.ok) → PyData.canLayAll0 (rs.map rowP) = true ∧ PyData.depthAll (rs.map rowP) ≤ 1
  | [], _ => ⟨rfl, by simp [PyData.depthAll]⟩
  | r :: rs, h => by
    obtain ⟨h1, h2⟩ := lay_rows rs fun x hx => h x (List.mem_cons_of_mem _ hx)
    have h3 := (Bool.and_eq_true_iff.mp (shaped_str (nameB_small (h r List.mem_cons_self).nm))).1
    have h4 : PyData.strOk r.nm = true := by simpa [PyData.canLay0] using h3
    constructor
    · simp [PyData.canLayAll0, PyData.canLay0, rowP, h1, h4]
    · simp only [List.map_cons, PyData.depthAll, rowP, PyData.depth]
      simp; omega
theorem shaped_rows {rs : List Row} (h : ∀ r ∈ rs, r.ok) : SeqAt.shaped (.list (rs.map rowP)) = true := by
  obtain ⟨h1, h2⟩ := lay_rows rs h
  simp [SeqAt.shaped, PyData.canLay0, PyData.depth, h1]
  omega
theorem ne_nil {rs : List Row} {w : Fl} (h : ∀ r ∈ rs, r.ok) : neD (.n .lst w (rowsD rs)) (.n .lst .own []) = some (.v (.bl (!rs.isEmpty))) := by
  have e1 : pd (.n .lst w (rowsD rs)) = some (.list (rs.map rowP)) := by simp [pd, pds_rows]
  have e2 : pd (.n .lst .own []) = some (.list []) := by simp [pd, pds]
  unfold neD
  rw [e1, e2]
  simp only [Option.bind_some]
  rw [if_pos ⟨shaped_rows h, by decide⟩]
  cases rs <;> simp [PyData.eqv, PyData.eqvAll]
theorem ix_rows {P : Row → Prop} {rs : List Row} {w : Fl} {r : Int} (h : ∀ i ∈ rs, P i) (h0 : 0 ≤ r) (h1 : r < rs.length) : ∃ i, P i ∧ i ∈ rs ∧ ixK (.n .lst w (rowsD rs)) (.v (.int r)) = some (rowD i) := by
  obtain ⟨r', rfl⟩ : ∃ r' : Nat, r = (r' : Int) := ⟨r.toNat, by omega⟩
  have h2 : r' < rs.length := by omega
  refine ⟨rs[r'], h _ (List.getElem_mem h2), List.getElem_mem h2, ixK_list ?_ rfl⟩
  rw [rowsD, List.getElem?_map, List.getElem?_eq_getElem h2]
  rfl
theorem len_rows {rs : List Row} {w : Fl} : lenD (.n .lst w (rowsD rs)) = some (.v (.int (rs.length : Int))) := by simp [lenD]
theorem ixKR1 {r : Row} : ixK (rowD r) (.v (.int 1)) = some (.v (.int r.a)) := rfl
theorem ixKR2 {r : Row} : ixK (rowD r) (.v (.int 2)) = some (.v (.int r.b)) := rfl
def StSp (y : D) (ios : Sl) : Prop := ∃ a b d', y = stD a b ∧ StOk a b ∧ ios = [some d', none] ∧ IsBox d'
theorem stretch_sp {d : D} {rs : List Row} {w : Fl} (h : IsBox d) (hr : RowsOk rs) : sat (F_L_law_stretch [d, .n .lst w (rowsD rs)]) StSp := by
  refine sat_F' rfl ?_
  have hf := h.free
  have e0 := ne_nil (w := w) hr.ok
  have e1 := len_rows (w := w) (rs := rs)
  have em : mkLst [] = some (.n .lst .own []) := rfl
  have eR := fun {r : Int} => ix_rows (P := Row.ok) (w := w) (r := r) hr.ok
  generalize (.n .lst w (rowsD rs) : D) = R at e0 e1 eR
  simp only [d_L_law_stretch]
  simp [hf]
  refine sat_mono (take_sp h (by decide) (by decide)) ?_
  rintro _ _ ⟨u, d1, rfl, rfl, u0, u1, b1⟩
  simp [b1.free]
  refine sat_mono (take_sp b1 (by omega) (by omega)) ?_
  rintro _ _ ⟨v, d2, rfl, rfl, v0, v1, b2⟩
  cases hE : rs.isEmpty with
  | true =>
    simp [b2.free, em, e0, hE, mkt2, ioF]
    exact ⟨u, u - 1 + v, d2, rfl, ⟨u0, by omega, by omega, by omega⟩, rfl, b2⟩
  | false =>
    have hl : 0 < rs.length := by cases rs with | nil => simp at hE | cons _ _ => simp
    have hl2 := hr.len
    simp [b2.free, em, e0, hE]
    refine sat_mono (take_sp b2 (by decide) (by decide)) ?_
    rintro _ _ ⟨q, d3, rfl, rfl, q0, q1, b3⟩
    by_cases hq : 0 < q
    · simp [b3.free, hq, e1]
      refine sat_mono (take_sp b3 (by omega) (by omega)) ?_
      rintro _ _ ⟨i, d4, rfl, rfl, i0, i1, b4⟩
      obtain ⟨r1, k1, _, x1⟩ := eR i0 i1
      simp [b4.free, x1, ixKR1, mk4]
      refine sat_mono (take_sp b4 (by decide) (by decide)) ?_
      rintro _ _ ⟨j, d5, rfl, rfl, j0, j1, b5⟩
      obtain ⟨o, ho, eo⟩ := ix_ints (P := fun i => -1 ≤ i ∧ i ≤ 1) (xs := [0, 0, 1, 0 - 1]) (w := .own) (r := j) (by simp) j0 (by simpa using j1)
      simp only [List.map_cons, List.map_nil] at eo
      simp at eo
      simp [b5.free, eo, e1]
      refine sat_mono (take_sp b5 (by omega) (by omega)) ?_
      rintro _ _ ⟨i2, d6, rfl, rfl, i20, i21, b6⟩
      obtain ⟨r2, k2, _, x2⟩ := eR i20 i21
      simp [b6.free, x2, ixKR2, mk4]
      refine sat_mono (take_sp b6 (by decide) (by decide)) ?_
      rintro _ _ ⟨j2, d7, rfl, rfl, j20, j21, b7⟩
      obtain ⟨o2, ho2, eo2⟩ := ix_ints (P := fun i => -1 ≤ i ∧ i ≤ 1) (xs := [0, 0, 1, 0 - 1]) (w := .own) (r := j2) (by simp) j20 (by simpa using j21)
      simp only [List.map_cons, List.map_nil] at eo2
      simp at eo2
      simp [b7.free, eo2, mkt2, ioF]
      have := k1.a0; have := k1.a1; have := k2.b0; have := k2.b2
      exact ⟨_, _, d7, rfl, ⟨by omega, by omega, by omega, by omega⟩, rfl, b7⟩
    · simp [b3.free, hq, mkt2, ioF]
      exact ⟨u, u - 1 + v, d3, rfl, ⟨u0, by omega, by omega, by omega⟩, rfl, b3⟩
end Lw
/-! P12 -/
set_option maxHeartbeats 1000000
/-! The stretches of pieces. -/
namespace Lw
open PySem PySem.Spec PyProof.Rows L2 Fs
section
variable {s : Sl} {τ : Type}
theorem dsForE_c {i : Nat} {d : D} {it : D → Option (List D)} {its : List D} {tg : D → Sl → Option Sl} {body : DS} {s' : Sl} {f : Fs.Flow} (h1 : (s[i]?).join = some d) (h2 : d.free = true) (h3 : it d = some its) (h4 : loop tg body its (s.set i none) = .ok f s') (h5 : s'[i]? = some none) : dsForE i it tg body s = .ok f (s'.set i (some d)) := by
  unfold dsForE
  simp only [h1, h2, if_true, h3, h4, backE, gapE, h5]
theorem loop_app {κ : Type} {enc : τ → D} {f : τ → List D} {S : List D → κ → Sl} {i : Nat} {body : DS} : ∀ (xs : List τ) (acc : List D) (y : κ), (∀ x ∈ xs, ∀ acc y, acc.length + (f x).length ≤ 100000 → ∃ s1 y', tgN i (enc x) (S acc y) = some s1 ∧ body s1 = .ok .nx (S (acc ++ f x) y')) → acc.length + (xs.flatMap f).length ≤ 100000 → ∃ y', loop (tgN i) body (xs.map enc) (S acc y) = .ok .nx (S (acc ++ xs.flatMap f) y')
  | [], acc, y, _, _ => ⟨y, by simp [loop_nil]⟩
  | x :: xs, acc, y, h, hl => by
    simp only [List.flatMap_cons, List.length_append] at hl
    obtain ⟨s1, y1, e1, e2⟩ := h x List.mem_cons_self acc y (by omega)
    obtain ⟨y', e3⟩ := loop_app xs (acc ++ f x) y1 (fun z hz => h z (List.mem_cons_of_mem _ hz)) (by rw [List.length_append]; omega)
    refine ⟨y', ?_⟩
    rw [List.map_cons, loop_cons e1, e2, bind_ok', loopK_nx, e3]
    simp
theorem insU_len (x : Int) : ∀ ys : List Int, (insU x ys).length ≤ ys.length + 1
  | [] => by simp [insU]
  | y :: ys => by
    have := insU_len x ys
    simp only [insU]
    split
    · simp
    · split
      · simp
      · simp; omega
theorem sset_len : ∀ ns : List Int, (sset ns).length ≤ ns.length
  | [] => by simp [sset]
  | n :: ns => by
    have h1 := sset_len ns
    have h2 := insU_len n (sset ns)
    simp only [sset, List.foldr_cons, List.length_cons] at h1 h2 ⊢
    omega
def starts (rs : List Row) : List Int := sset (rs.map Row.a)
def ends (rs : List Row) : List Int := sset (rs.map Row.b)
def okSt (rs : List Row) (a b : Int) : Bool := decide (a - 1 ≤ b) && !(rs.filter (inSt a b)).isEmpty
def found (rs : List Row) : List (Int × Int) := (starts rs).flatMap fun a => ((ends rs).filter (okSt rs a)).map fun b => (a, b)
abbrev stsD (ps : List (Int × Int)) : List D := ps.map fun p => stD p.1 p.2
theorem sortSet_c {w : Fl} {ns : List Int} (h : ns.length < 64) : sortSetD (.n .lst w (ns.map D.int)) = some (.n .lst .own ((sset ns).map D.int)) := by
  simp only [sortSetD, seqI_ints, Option.bind_some, if_pos h]
theorem itA_ints {w : Fl} {ns : List Int} : itA true (.n .lst w (ns.map D.int)) = some (ns.map D.int) := by
  have h0 : (ns.map D.int).all D.kept = true ∧ (true = true ∨ w ≠ .own) := ⟨by simp [D.kept], .inl rfl⟩
  show (if (ns.map D.int).all D.kept = true ∧ (true = true ∨ w ≠ .own) then some (ns.map D.int) else none) = _
  rw [if_pos h0]
theorem app_c {i : Nat} {a : DE} {xs : List D} {y : D} (h : (s[i]?).join = some (.n .lst .own xs)) (ha : a s = .ok y s) (hl : xs.length < 100000) : dApp i a s = .ok .non (s.set i (some (.n .lst .own (xs ++ [frz y])))) := by
  unfold dApp
  simp only [h, ha, bind_ok', if_pos hl]
theorem mem_starts {rs : List Row} {a : Int} : a ∈ starts rs ↔ ∃ r ∈ rs, r.a = a := by simp [starts, mem_sset]
theorem mem_ends {rs : List Row} {b : Int} : b ∈ ends rs ↔ ∃ r ∈ rs, r.b = b := by simp [ends, mem_sset]
theorem found_len {rs : List Row} (h : rs.length ≤ 30) : (found rs).length ≤ 900 := by
  have h1 : (starts rs).length ≤ 30 := Nat.le_trans (sset_len _) (by simpa using h)
  have h2 : (ends rs).length ≤ 30 := Nat.le_trans (sset_len _) (by simpa using h)
  have : ∀ as : List Int, (as.flatMap fun a => ((ends rs).filter (okSt rs a)).map fun b => (a, b)).length ≤ as.length * 30 := by
    intro as
    induction as with
    | nil => simp
    | cons a as ih =>
      rw [List.flatMap_cons, List.length_append, List.length_map, List.length_cons]
      have := List.length_filter_le (okSt rs a) (ends rs)
      omega
  have := this (starts rs)
  unfold found
  omega
def strB : DS := (dsIf (dtAnd (dtV (dN (f2 geD) [.k (pVar 6), .v (dN (f2 subD) [.k (pVar 5), .k (pC (.int 1))])])) (dtV (dN (f2 neD) [.v (dCall F_stretches_rows_within (daLend (pVar 0) (daCons (dF mkTup (daCons (dP (pVar 5)) (daCons (dP (pVar 6)) daNil))) daNil))), .v (dF mkLst daNil)]))) (dsDrop (dApp 4 (dF mkTup (daCons (dP (pVar 5)) (daCons (dP (pVar 6)) daNil))))) dsNext)
def strO : DS := (dsForE 3 (itA true) (tgN 6) strB)
theorem str_eq : d_stretches_stretches = (dsSeq (dsAsg (dN (f1 sortSetD) [.v (dComp true [2] (diD (itA true) (dCall F_pieces_Pieces_told (daLend (pRc 20 "told" (pVar 0)) daNil))) (tgN 2) dtYes (dP (pOp ixD (pVar 2) (pC (.int 1)))))]) (tgN 1)) (dsSeq (dsAsg (dN (f1 sortSetD) [.v (dComp true [2] (diD (itA true) (dCall F_pieces_Pieces_told (daLend (pRc 20 "told" (pVar 0)) daNil))) (tgN 2) dtYes (dP (pOp ixD (pVar 2) (pC (.int 2)))))]) (tgN 3)) (dsSeq (dsAsg (dF mkLst daNil) (tgN 4)) (dsSeq (dsForE 1 (itA true) (tgN 5) strO) (dsRet (dMv 4)))))) := rfl
def inF (rs : List Row) (a b : Int) : List D := if okSt rs a b then [stD a b] else []
theorem strB_c {rs : List Row} {w : Fl} {a b : Int} {acc : List D} (h : RowsOk rs) (ha : 0 ≤ a) (ha1 : a ≤ 200) (hb1 : b ≤ 199) (hl : acc.length + (inF rs a b).length ≤ 100000) :
    strB [some (piecesD w rs), none, none, none, some (.n .lst .own acc), some (.int a), some (.int b)] = .ok .nx [some (piecesD w rs), none, none, none, some (.n .lst .own (acc ++ inF rs a b)), some (.int a), some (.int b)] := by
  have e2 : lend (piecesD w rs) = piecesD (lw w) rs := lend_pieces
  have hl2 : rs.length ≤ 1000 := by have := h.len; omega
  unfold strB
  by_cases h1 : a - 1 ≤ b
  · have st : StOk a b := ⟨ha, ha1, h1, hb1⟩
    have e3 := ne_nil (rs := rs.filter (inSt a b)) (w := .own) fun r hr => h.ok r (List.mem_filter.mp hr).1
    have e4 := fun s => rows_within_c (s := s) (w := lw w) st hl2
    have em : mkLst [] = some (.n .lst .own []) := rfl
    cases hE : (rs.filter (inSt a b)).isEmpty with
    | true =>
      have hf : inF rs a b = [] := by simp [inF, okSt, hE]
      rw [hE] at e3
      generalize (.n .lst .own (rowsD (rs.filter (inSt a b))) : D) = G at e3 e4
      generalize piecesD (lw w) rs = P' at e2 e4
      generalize piecesD w rs = P0 at e2
      rw [hf]
      simp [h1, mkt2, e2, e4, em, e3, -lend_own, -lend_bor]
    | false =>
      have hf : inF rs a b = [stD a b] := by simp [inF, okSt, hE, h1]
      rw [hE] at e3
      rw [hf] at hl ⊢
      generalize (.n .lst .own (rowsD (rs.filter (inSt a b))) : D) = G at e3 e4
      generalize piecesD (lw w) rs = P' at e2 e4
      generalize piecesD w rs = P0 at e2
      have e5 := app_c (s := [some P0, none, none, none, some (.n .lst .own acc), some (.int a), some (.int b)]) (i := 4) (a := dF mkTup (daCons (dP (pVar 5)) (daCons (dP (pVar 6)) daNil))) (y := stD a b) (xs := acc) rfl (by simp [mkt2]) (by simp at hl; omega)
      simp [h1, mkt2, e2, e4, em, e3, e5, -lend_own, -lend_bor]
  · have hf : inF rs a b = [] := by simp [inF, okSt, h1]
    rw [hf]
    generalize piecesD w rs = P0
    simp [h1]
theorem found_D (rs : List Row) : stsD (found rs) = (starts rs).flatMap fun a => (ends rs).flatMap (inF rs a) := by
  unfold found stsD
  rw [List.map_flatMap]
  congr 1
  funext a
  induction ends rs with
  | nil => rfl
  | cons b bs ih =>
    rw [List.flatMap_cons, ← ih, List.filter_cons]
    unfold inF
    cases okSt rs a b <;> simp
theorem strO_c {rs : List Row} {w : Fl} {a : Int} {acc : List D} {y : Option D} (h : RowsOk rs) (ha : 0 ≤ a) (ha1 : a ≤ 200) (hl : acc.length + ((ends rs).flatMap (inF rs a)).length ≤ 100000) :
    ∃ y', strO [some (piecesD w rs), none, none, some (.n .lst .own ((ends rs).map D.int)), some (.n .lst .own acc), some (.int a), y] = .ok .nx [some (piecesD w rs), none, none, some (.n .lst .own ((ends rs).map D.int)), some (.n .lst .own (acc ++ (ends rs).flatMap (inF rs a))), some (.int a), y'] := by
  obtain ⟨y', e⟩ := loop_app (enc := D.int) (f := inF rs a) (S := fun acc y => [some (piecesD w rs), none, none, none, some (.n .lst .own acc), some (.int a), y]) (i := 6) (body := strB) (ends rs) acc y (fun b hb acc y hl => ⟨_, some (.int b), rfl, by
    obtain ⟨r, hr, rfl⟩ := mem_ends.mp hb
    exact strB_c h ha ha1 (h.ok r hr).b2 hl⟩) hl
  exact ⟨y', dsForE_c (s := [some (piecesD w rs), none, none, some (.n .lst .own ((ends rs).map D.int)), some (.n .lst .own acc), some (.int a), y]) (i := 3) rfl rfl itA_ints e rfl⟩
theorem stretches_c {rs : List Row} {w : Fl} (h : RowsOk rs) : callK F_stretches_stretches [piecesD w rs] s = .ok (.n .lst .own (stsD (found rs))) s := callK_F rfl (by
  have e1 : rcD 20 "told" (piecesD w rs) = some (piecesD w rs) := rc_pieces (by decide)
  have e2 : lend (piecesD w rs) = piecesD (lw w) rs := lend_pieces
  have hl := h.len
  have hc1 := dComp_mt (keep := true) (i := 2) (di := diD (itA true) (dCall F_pieces_Pieces_told (daLend (pRc 20 "told" (pVar 0)) daNil))) (elt := dP (pOp ixD (pVar 2) (pC (.int 1)))) (δ := [some (piecesD w rs), none, none, none, none, none, none]) (δ1 := [some (piecesD w rs), none, none, none, none, none, none]) (enc := rowD) (xs := rs) (fun r => D.int r.a)
    (by simp [diD, e1, e2, itA_tup, -lend_own, -lend_bor]) rfl (fun o ho => by simp) (by omega)
  have hc2 := fun x => dComp_mt (keep := true) (i := 2) (di := diD (itA true) (dCall F_pieces_Pieces_told (daLend (pRc 20 "told" (pVar 0)) daNil))) (elt := dP (pOp ixD (pVar 2) (pC (.int 2)))) (δ := [some (piecesD w rs), some x, none, none, none, none, none]) (δ1 := [some (piecesD w rs), some x, none, none, none, none, none]) (enc := rowD) (xs := rs) (fun r => D.int r.b)
    (by simp [diD, e1, e2, itA_tup, -lend_own, -lend_bor]) rfl (fun o ho => by simp) (by omega)
  have s1 : sortSetD (.n .lst .own (rs.map fun r => D.int r.a)) = some (.n .lst .own ((starts rs).map D.int)) := by
    have := sortSet_c (w := .own) (ns := rs.map Row.a) (by simp; omega)
    rw [List.map_map] at this
    exact this
  have s2 : sortSetD (.n .lst .own (rs.map fun r => D.int r.b)) = some (.n .lst .own ((ends rs).map D.int)) := by
    have := sortSet_c (w := .own) (ns := rs.map Row.b) (by simp; omega)
    rw [List.map_map] at this
    exact this
  have hlen : ((starts rs).flatMap fun a => (ends rs).flatMap (inF rs a)).length ≤ 900 := by rw [← found_D]; simpa using found_len h.len
  obtain ⟨y', e⟩ := loop_app (κ := Option D × Option D) (enc := D.int) (f := fun a => (ends rs).flatMap (inF rs a)) (S := fun acc y => [some (piecesD w rs), none, none, some (.n .lst .own ((ends rs).map D.int)), some (.n .lst .own acc), y.1, y.2]) (i := 5) (body := strO) (starts rs) [] (none, none) (fun a ha acc y hl => by
    obtain ⟨r, hr, rfl⟩ := mem_starts.mp ha
    obtain ⟨y', e⟩ := strO_c (y := y.2) (w := w) h (h.ok r hr).a0 (h.ok r hr).a1 hl
    exact ⟨_, (_, y'), rfl, e⟩) (by rw [List.length_nil]; omega)
  have e' := dsForE_c (s := [some (piecesD w rs), some (.n .lst .own ((starts rs).map D.int)), none, some (.n .lst .own ((ends rs).map D.int)), some (.n .lst .own []), none, none]) (i := 1) rfl rfl itA_ints e rfl
  rw [List.nil_append, ← found_D] at e'
  rw [str_eq]
  have em : mkLst [] = some (.n .lst .own []) := rfl
  generalize rs.map (fun r => D.int r.a) = G1 at hc1 s1
  generalize rs.map (fun r => D.int r.b) = G2 at hc2 s2
  generalize (.n .lst .own ((starts rs).map D.int) : D) = S1 at s1 e'
  generalize (.n .lst .own ((ends rs).map D.int) : D) = S2 at s2 e'
  generalize stsD (found rs) = G3 at e' ⊢
  generalize piecesD w rs = P0 at hc1 hc2 e'
  simp [hc1, s1, hc2, s2, em]
  rw [e']
  simp [dMv, D.free])
end
end Lw
/-! P13 -/
set_option maxHeartbeats 1000000
/-! The law's own stretches. -/
namespace Lw
open PySem PySem.Spec PyProof.Rows L2 Fs
section
variable {s : Sl}
def dueB : DS := (dsIf (dtAnd (dtV (dN (f2 geD) [.k (pVar 4), .v (dN (f2 subD) [.k (pVar 2), .k (pC (.int 1))])])) (dtV (dN (f2 neD) [.v (dCall F_L_law_within (daLend (pVar 0) (daCons (dF mkTup (daCons (dP (pVar 2)) (daCons (dP (pVar 4)) daNil))) daNil))), .v (dF mkLst daNil)]))) (dsDrop (dApp 1 (dF mkTup (daCons (dP (pVar 2)) (daCons (dP (pVar 4)) daNil))))) dsNext)
def dueO : DS := (dsFor (diD (itA true) (dN (f1 sortSetD) [.v (dComp true [3] (diP (itA true) (pVar 0)) (tgN 3) dtYes (dP (pOp ixD (pVar 3) (pC (.int 2)))))])) (tgN 4) dueB)
theorem due_eq : d_L_law_due = (dsSeq (dsAsg (dF mkLst daNil) (tgN 1)) (dsSeq (dsFor (diD (itA true) (dN (f1 sortSetD) [.v (dComp true [3] (diP (itA true) (pVar 0)) (tgN 3) dtYes (dP (pOp ixD (pVar 3) (pC (.int 1)))))])) (tgN 2) dueO) (dsRet (dMv 1)))) := rfl
theorem lend_rows {w : Fl} {rs : List Row} : lend (.n .lst w (rowsD rs)) = .n .lst (lw w) (rowsD rs) := by
  cases w <;> simp [lends_rows, lw]
theorem dueB_c {rs : List Row} {w : Fl} {a b : Int} {acc : List D} (h : RowsOk rs) (hl : acc.length + (inF rs a b).length ≤ 100000) :
    dueB [some (.n .lst w (rowsD rs)), some (.n .lst .own acc), some (.int a), none, some (.int b)] = .ok .nx [some (.n .lst w (rowsD rs)), some (.n .lst .own (acc ++ inF rs a b)), some (.int a), none, some (.int b)] := by
  have e2 := lend_rows (w := w) (rs := rs)
  have hl2 : rs.length ≤ 1000 := by have := h.len; omega
  unfold dueB
  by_cases h1 : a - 1 ≤ b
  · have e3 := ne_nil (rs := rs.filter (inSt a b)) (w := .own) fun r hr => h.ok r (List.mem_filter.mp hr).1
    have e4 := fun s => lwithin_c (s := s) (w := lw w) (a := a) (b := b) hl2
    have em : mkLst [] = some (.n .lst .own []) := rfl
    cases hE : (rs.filter (inSt a b)).isEmpty with
    | true =>
      have hf : inF rs a b = [] := by simp [inF, okSt, hE]
      rw [hE] at e3
      generalize (.n .lst .own (rowsD (rs.filter (inSt a b))) : D) = G at e3 e4
      generalize (.n .lst (lw w) (rowsD rs) : D) = P' at e2 e4
      generalize (.n .lst w (rowsD rs) : D) = P0 at e2
      rw [hf]
      simp [h1, mkt2, e2, e4, em, e3, -lend_own, -lend_bor]
    | false =>
      have hf : inF rs a b = [stD a b] := by simp [inF, okSt, hE, h1]
      rw [hE] at e3
      rw [hf] at hl ⊢
      generalize (.n .lst .own (rowsD (rs.filter (inSt a b))) : D) = G at e3 e4
      generalize (.n .lst (lw w) (rowsD rs) : D) = P' at e2 e4
      generalize (.n .lst w (rowsD rs) : D) = P0 at e2
      have e5 := app_c (s := [some P0, some (.n .lst .own acc), some (.int a), none, some (.int b)]) (i := 1) (a := dF mkTup (daCons (dP (pVar 2)) (daCons (dP (pVar 4)) daNil))) (y := stD a b) (xs := acc) rfl (by simp [mkt2]) (by simp at hl; omega)
      simp [h1, mkt2, e2, e4, em, e3, e5, -lend_own, -lend_bor]
  · have hf : inF rs a b = [] := by simp [inF, okSt, h1]
    rw [hf]
    generalize (.n .lst w (rowsD rs) : D) = P0
    simp [h1]
theorem set_c {rs : List Row} {w : Fl} {x1 x2 x4 : Option D} {j : Int} {f : Row → Int} (h : RowsOk rs) (hj : ∀ r, ixD (rowD r) (.v (.int j)) = some (.v (.int (f r)))) :
    dN (f1 sortSetD) [.v (dComp true [3] (diP (itA true) (pVar 0)) (tgN 3) dtYes (dP (pOp ixD (pVar 3) (pC (.int j)))))] [some (.n .lst w (rowsD rs)), x1, x2, none, x4] = .ok (.n .lst .own ((sset (rs.map f)).map D.int)) [some (.n .lst w (rowsD rs)), x1, x2, none, x4] := by
  have hl := h.len
  have hc := dComp_mt (keep := true) (i := 3) (di := diP (itA true) (pVar 0)) (elt := dP (pOp ixD (pVar 3) (pC (.int j)))) (δ := [some (.n .lst w (rowsD rs)), x1, x2, none, x4]) (δ1 := [some (.n .lst w (rowsD rs)), x1, x2, none, x4]) (enc := rowD) (xs := rs) (fun r => D.int (f r))
    (by simp [diP, itA_lst]) rfl (fun o ho => by simp [hj]) (by omega)
  have s1 : sortSetD (.n .lst .own (rs.map fun r => D.int (f r))) = some (.n .lst .own ((sset (rs.map f)).map D.int)) := by
    have := sortSet_c (w := .own) (ns := rs.map f) (by simp; omega)
    rw [List.map_map] at this
    exact this
  generalize rs.map (fun r => D.int (f r)) = G1 at hc s1
  generalize (.n .lst .own ((sset (rs.map f)).map D.int) : D) = G2 at s1 ⊢
  generalize (.n .lst w (rowsD rs) : D) = P0 at hc
  simp [hc, s1]
theorem dueO_c {rs : List Row} {w : Fl} {a : Int} {acc : List D} {y : Option D} (h : RowsOk rs) (hl : acc.length + ((ends rs).flatMap (inF rs a)).length ≤ 100000) :
    ∃ y', dueO [some (.n .lst w (rowsD rs)), some (.n .lst .own acc), some (.int a), none, y] = .ok .nx [some (.n .lst w (rowsD rs)), some (.n .lst .own (acc ++ (ends rs).flatMap (inF rs a))), some (.int a), none, y'] := by
  obtain ⟨y', e⟩ := loop_app (enc := D.int) (f := inF rs a) (S := fun acc y => [some (.n .lst w (rowsD rs)), some (.n .lst .own acc), some (.int a), none, y]) (i := 4) (body := dueB) (ends rs) acc y (fun b hb acc y hl => ⟨_, some (.int b), rfl, dueB_c h hl⟩) hl
  have hs := set_c (w := w) (x1 := some (.n .lst .own acc)) (x2 := some (.int a)) (x4 := y) (j := 2) (f := Row.b) h fun r => rfl
  refine ⟨y', ?_⟩
  unfold dueO
  show (diD (itA true) _ _).bind _ = _
  unfold diD
  rw [hs, bind_ok', itA_ints]
  exact e
theorem due_c {rs : List Row} {w : Fl} (h : RowsOk rs) : callK F_L_law_due [.n .lst w (rowsD rs)] s = .ok (.n .lst .own (stsD (found rs))) s := callK_F rfl (by
  have hlen : ((starts rs).flatMap fun a => (ends rs).flatMap (inF rs a)).length ≤ 900 := by rw [← found_D]; simpa using found_len h.len
  obtain ⟨y', e⟩ := loop_app (κ := Option D × Option D) (enc := D.int) (f := fun a => (ends rs).flatMap (inF rs a)) (S := fun acc y => [some (.n .lst w (rowsD rs)), some (.n .lst .own acc), y.1, none, y.2]) (i := 2) (body := dueO) (starts rs) [] (none, none) (fun a ha acc y hl => by
    obtain ⟨y', e⟩ := dueO_c (y := y.2) (w := w) h hl
    exact ⟨_, (_, y'), rfl, e⟩) (by rw [List.length_nil]; omega)
  rw [List.nil_append, ← found_D] at e
  have hs := set_c (w := w) (x1 := some (.n .lst .own [])) (x2 := none) (x4 := none) (j := 1) (f := Row.a) h fun r => rfl
  have e2 : dsFor (diD (itA true) (dN (f1 sortSetD) [.v (dComp true [3] (diP (itA true) (pVar 0)) (tgN 3) dtYes (dP (pOp ixD (pVar 3) (pC (.int 1)))))])) (tgN 2) dueO [some (.n .lst w (rowsD rs)), some (.n .lst .own []), none, none, none] = .ok .nx [some (.n .lst w (rowsD rs)), some (.n .lst .own (stsD (found rs))), y'.1, none, y'.2] := by
    show (diD (itA true) _ _).bind _ = _
    unfold diD
    rw [hs, bind_ok', itA_ints]
    exact e
  rw [due_eq]
  have em : mkLst [] = some (.n .lst .own []) := rfl
  generalize stsD (found rs) = G3 at e2 ⊢
  generalize (.n .lst w (rowsD rs) : D) = P0 at e2
  simp [em, -dsFor_c]
  rw [e2]
  simp [dMv, D.free])
end
end Lw
/-! P14 -/
set_option maxHeartbeats 1000000
/-! Lists compared; the pieces within by name. -/
namespace Lw
open PySem PySem.Spec PyProof.Rows L2 Fs
section
variable {s : Sl}
theorem eqD_pd {x y : D} {a b : PyData} (hx : pd x = some a) (hy : pd y = some b) (ha : SeqAt.shaped a = true) (hb : SeqAt.shaped b = true) : eqD x y = some (.v (.bl (PyData.eqv a b))) := by
  unfold eqD
  rw [hx, hy]
  simp only [Option.bind_some]
  rw [if_pos ⟨ha, hb⟩]
theorem neD_pd {x y : D} {a b : PyData} (hx : pd x = some a) (hy : pd y = some b) (ha : SeqAt.shaped a = true) (hb : SeqAt.shaped b = true) : neD x y = some (.v (.bl (!PyData.eqv a b))) := by
  unfold neD
  rw [hx, hy]
  simp only [Option.bind_some]
  rw [if_pos ⟨ha, hb⟩]
def okZ (z : Str) : Prop := ∀ c ∈ z.cps.toList, c < 1114112
theorem pds_strs : ∀ zs : List Str, pds (zs.map D.str) = some (zs.map PyData.str)
  | [] => rfl
  | z :: zs => by
    have := pds_strs zs
    simp only [List.map_cons] at this ⊢
    simp [pds, pd, this]
theorem lay_strs : ∀ zs : List Str, (∀ z ∈ zs, okZ z) → PyData.canLayAll0 (zs.map PyData.str) = true ∧ PyData.depthAll (zs.map PyData.str) = 0
  | [], _ => ⟨rfl, rfl⟩
  | z :: zs, h => by
    obtain ⟨h1, h2⟩ := lay_strs zs fun x hx => h x (List.mem_cons_of_mem _ hx)
    have h3 := (Bool.and_eq_true_iff.mp (shaped_str (h z List.mem_cons_self))).1
    have h4 : PyData.strOk z = true := by simpa [PyData.canLay0] using h3
    constructor
    · simp [PyData.canLayAll0, PyData.canLay0, h1, h4]
    · simp [PyData.depthAll, PyData.depth, h2]
theorem shaped_strs {zs : List Str} (h : ∀ z ∈ zs, okZ z) : SeqAt.shaped (.list (zs.map PyData.str)) = true := by
  obtain ⟨h1, h2⟩ := lay_strs zs h
  simp [SeqAt.shaped, PyData.canLay0, PyData.depth, h1, h2]
theorem eqv_strs : ∀ zs ys : List Str, PyData.eqvAll (zs.map PyData.str) (ys.map PyData.str) = decide (zs = ys)
  | [], [] => by simp [PyData.eqvAll]
  | [], y :: ys => by simp [PyData.eqvAll]
  | z :: zs, [] => by simp [PyData.eqvAll]
  | z :: zs, y :: ys => by
    simp only [List.map_cons, PyData.eqvAll, PyData.eqv, eqv_strs zs ys]
    by_cases h : z = y <;> by_cases h2 : zs = ys <;> simp [h, h2]
theorem eqD_strs {w w' : Fl} {zs ys : List Str} (hz : ∀ z ∈ zs, okZ z) (hy : ∀ z ∈ ys, okZ z) : eqD (.n .lst w (zs.map D.str)) (.n .lst w' (ys.map D.str)) = some (.v (.bl (decide (zs = ys)))) := by
  rw [eqD_pd (a := .list (zs.map PyData.str)) (b := .list (ys.map PyData.str)) (by simp [pd, pds_strs]) (by simp [pd, pds_strs]) (shaped_strs hz) (shaped_strs hy)]
  simp only [PyData.eqv, eqv_strs]
def stP (p : Int × Int) : PyData := .tuple [.int p.1, .int p.2]
theorem pds_sts : ∀ ps : List (Int × Int), pds (stsD ps) = some (ps.map stP)
  | [] => rfl
  | p :: ps => by
    have := pds_sts ps
    simp only [stsD, List.map_cons] at this ⊢
    simp [pds, pd, this, stP]
theorem lay_sts : ∀ ps : List (Int × Int), PyData.canLayAll0 (ps.map stP) = true ∧ PyData.depthAll (ps.map stP) ≤ 1
  | [] => ⟨rfl, by simp [PyData.depthAll]⟩
  | p :: ps => by
    obtain ⟨h1, h2⟩ := lay_sts ps
    constructor
    · simp [PyData.canLayAll0, PyData.canLay0, stP, h1]
    · simp only [List.map_cons, PyData.depthAll, stP, PyData.depth]
      simp; omega
theorem shaped_sts (ps : List (Int × Int)) : SeqAt.shaped (.list (ps.map stP)) = true := by
  obtain ⟨h1, h2⟩ := lay_sts ps
  simp [SeqAt.shaped, PyData.canLay0, PyData.depth, h1]
  omega
theorem eqv_sts : ∀ ps qs : List (Int × Int), PyData.eqvAll (ps.map stP) (qs.map stP) = decide (ps = qs)
  | [], [] => by simp [PyData.eqvAll]
  | [], y :: ys => by simp [PyData.eqvAll]
  | z :: zs, [] => by simp [PyData.eqvAll]
  | z :: zs, y :: ys => by
    simp only [List.map_cons, PyData.eqvAll, eqv_sts zs ys, stP, PyData.eqv]
    obtain ⟨z1, z2⟩ := z
    obtain ⟨y1, y2⟩ := y
    by_cases h : z1 = y1 <;> by_cases h3 : z2 = y2 <;> by_cases h2 : zs = ys <;> simp [h, h2, h3]
theorem neD_sts {w w' : Fl} {ps qs : List (Int × Int)} : neD (.n .lst w (stsD ps)) (.n .lst w' (stsD qs)) = some (.v (.bl (!decide (ps = qs)))) := by
  rw [neD_pd (a := .list (ps.map stP)) (b := .list (qs.map stP)) (by simp [pd, pds_sts]) (by simp [pd, pds_sts]) (shaped_sts ps) (shaped_sts qs)]
  simp only [PyData.eqv, eqv_sts]
theorem eqD_sts {w w' : Fl} {ps qs : List (Int × Int)} : eqD (.n .lst w (stsD ps)) (.n .lst w' (stsD qs)) = some (.v (.bl (decide (ps = qs)))) := by
  rw [eqD_pd (a := .list (ps.map stP)) (b := .list (qs.map stP)) (by simp [pd, pds_sts]) (by simp [pd, pds_sts]) (shaped_sts ps) (shaped_sts qs)]
  simp only [PyData.eqv, eqv_sts]
def nmsI (rs : List Row) (a b : Int) : List Str := (rs.filter (inSt a b)).map Row.nm
theorem within_c {w : Fl} {rs : List Row} {a b : Int} (h : StOk a b) (hl : rs.length ≤ 1000) : callK F_stretches_within [piecesD w rs, stD a b] s = .ok (.n .lst .own ((nmsI rs a b).map D.str)) s := callK_F rfl (by
  have e2 : lend (piecesD w rs) = piecesD (lw w) rs := lend_pieces
  have hc := dComp_mt (keep := true) (i := 2) (di := diD (itA true) (dCall F_stretches_rows_within (daLend (pVar 0) (daLend (pVar 1) daNil)))) (elt := dP (pOp ixD (pVar 2) (pC (.int 0)))) (δ := [some (piecesD w rs), some (stD a b), none]) (δ1 := [some (piecesD w rs), some (stD a b), none]) (enc := rowD) (xs := rs.filter (inSt a b)) (fun r => D.str r.nm)
    (by simp [diD, e2, rows_within_c h hl, itA_lst, -lend_own, -lend_bor]) rfl (fun o ho => by simp) (by have := List.length_filter_le (inSt a b) rs; omega)
  have e3 : (rs.filter (inSt a b)).map (fun r => D.str r.nm) = (nmsI rs a b).map D.str := by simp [nmsI]
  rw [e3] at hc
  simp only [d_stretches_within]
  generalize (nmsI rs a b).map D.str = G at hc ⊢
  simp [hc])
end
end Lw
/-! P15 -/
set_option maxHeartbeats 1000000
/-! No stretch is shorter than one of the told. -/
namespace Lw
open PySem PySem.Spec PyProof.Rows L2 Fs
theorem mem_found {rs : List Row} {p : Int × Int} : p ∈ found rs ↔ p.1 ∈ starts rs ∧ p.2 ∈ ends rs ∧ okSt rs p.1 p.2 = true := by
  unfold found
  simp only [List.mem_flatMap, List.mem_map, List.mem_filter]
  constructor
  · rintro ⟨a, ha, b, ⟨hb, hk⟩, rfl⟩; exact ⟨ha, hb, hk⟩
  · rintro ⟨h1, h2, h3⟩; exact ⟨p.1, h1, p.2, ⟨h2, h3⟩, rfl⟩
theorem found_ok {rs : List Row} (h : RowsOk rs) {p : Int × Int} (hp : p ∈ found rs) : StOk p.1 p.2 ∧ (rs.filter (inSt p.1 p.2)).isEmpty = false := by
  obtain ⟨h1, h2, h3⟩ := mem_found.mp hp
  obtain ⟨r, hr, e1⟩ := mem_starts.mp h1
  obtain ⟨q, hq, e2⟩ := mem_ends.mp h2
  simp only [okSt, Bool.and_eq_true, decide_eq_true_eq, Bool.not_eq_true'] at h3
  exact ⟨⟨by rw [← e1]; exact (h.ok r hr).a0, by rw [← e1]; exact (h.ok r hr).a1, h3.1, by rw [← e2]; exact (h.ok q hq).b2⟩, h3.2⟩
theorem tight {rs : List Row} (h : ∀ r ∈ rs, r.a - 1 ≤ r.b) {a b : Int} (hn : rs.filter (inSt a b) ≠ []) : ∃ p ∈ found rs, a ≤ p.1 ∧ p.2 ≤ b ∧ rs.filter (inSt p.1 p.2) = rs.filter (inSt a b) := by
  have hmem : ∀ r, r ∈ rs.filter (inSt a b) ↔ r ∈ rs ∧ a ≤ r.a ∧ r.b ≤ b := fun r => by simp [inSt]
  cases e1 : minI ((rs.filter (inSt a b)).map Row.a) with
  | none => have := minI_none e1; simp only [List.map_eq_nil_iff] at this; exact absurd this hn
  | some a' =>
    cases e2 : maxI ((rs.filter (inSt a b)).map Row.b) with
    | none => have := maxI_none e2; simp only [List.map_eq_nil_iff] at this; exact absurd this hn
    | some b' =>
      obtain ⟨m1, m2⟩ := minI_ok e1
      obtain ⟨n1, n2⟩ := maxI_ok e2
      obtain ⟨r, hr, rfl⟩ := List.mem_map.mp m1
      obtain ⟨q, hq, rfl⟩ := List.mem_map.mp n1
      have hr' := (hmem r).mp hr
      have hq' := (hmem q).mp hq
      have hf : rs.filter (inSt r.a q.b) = rs.filter (inSt a b) := by
        refine List.filter_congr fun x hx => ?_
        have : (r.a ≤ x.a ∧ x.b ≤ q.b) ↔ (a ≤ x.a ∧ x.b ≤ b) := by
          constructor
          · rintro ⟨z1, z2⟩; exact ⟨by omega, by omega⟩
          · rintro ⟨z1, z2⟩
            have hx' := (hmem x).mpr ⟨hx, z1, z2⟩
            exact ⟨m2 _ (List.mem_map.mpr ⟨x, hx', rfl⟩), n2 _ (List.mem_map.mpr ⟨x, hx', rfl⟩)⟩
        simp only [inSt]
        rw [Bool.eq_iff_iff]
        simpa using this
      have hle : r.a - 1 ≤ q.b := by
        have z1 := n2 _ (List.mem_map.mpr ⟨r, hr, rfl⟩)
        have z2 := h r hr'.1
        omega
      refine ⟨(r.a, q.b), mem_found.mpr ⟨mem_starts.mpr ⟨r, hr'.1, rfl⟩, mem_ends.mpr ⟨q, hq'.1, rfl⟩, ?_⟩, hr'.2.1, hq'.2.2, hf⟩
      simp only [okSt, hf, Bool.and_eq_true, decide_eq_true_eq, Bool.not_eq_true', hle, true_and]
      cases hX : rs.filter (inSt a b) with
      | nil => exact absurd hX hn
      | cons _ _ => rfl
def shortI (rs : List Row) (p : Int × Int) (f : Int) : Int := needI rs p.1 p.2 f - (p.2 - p.1 + 1)
theorem short_le {rs : List Row} (h : RowsOk rs) {a b f : Int} (hn : rs.filter (inSt a b) ≠ []) : ∃ m, maxI ((found rs).map fun p => shortI rs p f) = some m ∧ shortI rs (a, b) f ≤ m := by
  obtain ⟨p, hp, h1, h2, h3⟩ := tight (fun r hr => (h.ok r hr).b1) hn
  cases e : maxI ((found rs).map fun p => shortI rs p f) with
  | none =>
    have := maxI_none e
    simp only [List.map_eq_nil_iff] at this
    rw [this] at hp
    cases hp
  | some m =>
    refine ⟨m, rfl, ?_⟩
    have h4 := (maxI_ok e).2 _ (List.mem_map.mpr ⟨p, hp, rfl⟩)
    have h5 : needI rs p.1 p.2 f = needI rs a b f := by unfold needI ksum lmax; rw [h3]
    simp only [shortI] at h4 ⊢
    omega
end Lw
/-! Q1 -/
set_option maxHeartbeats 1000000
/-! Pieces, stretches and tables, in the newer form: things whose inside simp does not see. -/
namespace Lw
open PySem PySem.Spec PyProof.Rows L2 Fs
instance : DecidableEq Row := fun x y =>
  if h : x.nm = y.nm ∧ x.a = y.a ∧ x.b = y.b ∧ x.l = y.l ∧ x.k = y.k then isTrue (by
    obtain ⟨a, b, c, d, e⟩ := x
    obtain ⟨a', b', c', d', e'⟩ := y
    simp only at h
    obtain ⟨rfl, rfl, rfl, rfl, rfl⟩ := h
    rfl) else isFalse fun e => h (by rw [e]; exact ⟨rfl, rfl, rfl, rfl, rfl⟩)
instance : Ke rowD := ⟨fun _ => rfl⟩
def Pcs (w : Fl) (rs : List Row) : D := piecesD w rs
abbrev Rws (w : Fl) (rs : List Row) : D := Lst rowD w rs
def stE (p : Int × Int) : D := stD p.1 p.2
instance : Ke stE := ⟨fun _ => rfl⟩
def tbE (p : Int × Int × Int × Int) : D := .n .tup .shr [.v (.int p.1), .v (.int p.2.1), .v (.int p.2.2.1), .v (.int p.2.2.2)]
instance : Ke tbE := ⟨fun _ => rfl⟩
@[simp] theorem filt_stE {p : Int × Int} : Option.filter D.kept (some (stE p)) = some (stE p) := rfl
@[simp] theorem frz_stE {p : Int × Int} : frz (stE p) = stE p := frz_kept rfl
@[simp] theorem lend_stE {p : Int × Int} : lend (stE p) = stE p := lend_kept rfl
@[simp] theorem kept_stE {p : Int × Int} : (stE p).kept = true := rfl
@[simp] theorem free_stE {p : Int × Int} : (stE p).free = true := rfl
@[simp] theorem filt_tbE {p : Int × Int × Int × Int} : Option.filter D.kept (some (tbE p)) = some (tbE p) := rfl
@[simp] theorem frz_tbE {p : Int × Int × Int × Int} : frz (tbE p) = tbE p := frz_kept rfl
@[simp] theorem lend_tbE {p : Int × Int × Int × Int} : lend (tbE p) = tbE p := lend_kept rfl
@[simp] theorem kept_tbE {p : Int × Int × Int × Int} : (tbE p).kept = true := rfl
@[simp] theorem free_tbE {p : Int × Int × Int × Int} : (tbE p).free = true := rfl
@[simp] theorem ixE0 {p : Int × Int} : ixD (stE p) (.v (.int 0)) = some (.v (.int p.1)) := rfl
@[simp] theorem ixE1 {p : Int × Int} : ixD (stE p) (.v (.int 1)) = some (.v (.int p.2)) := rfl
theorem okS_row {r : Row} (h : r.ok) : okS r.nm := nameB_small h.nm
instance : EqE rowD (fun r => okS r.nm) := ⟨rowP, fun r => by simp [pd, pds, rowP], fun r h => by simp [PyData.canLay0, PyData.canLayAll0, rowP, strOk_of h], fun r => by simp [rowP, PyData.depth, PyData.depthAll], fun r q => by
  obtain ⟨a, b, c, d, e⟩ := r
  obtain ⟨a', b', c', d', e'⟩ := q
  simp [rowP, PyData.eqv, PyData.eqvAll]⟩
instance : EqE stE (fun _ => True) := ⟨stP, fun r => by simp [stE, pd, pds, stP], fun r h => by simp [PyData.canLay0, PyData.canLayAll0, stP], fun r => by simp [stP, PyData.depth, PyData.depthAll], fun r q => by
  obtain ⟨a, b⟩ := r
  obtain ⟨a', b'⟩ := q
  simp [stP, PyData.eqv, PyData.eqvAll]⟩
def tbP (p : Int × Int × Int × Int) : PyData := .tuple [.int p.1, .int p.2.1, .int p.2.2.1, .int p.2.2.2]
instance : EqE tbE (fun _ => True) := ⟨tbP, fun r => by simp [tbE, pd, pds, tbP], fun r h => by simp [PyData.canLay0, PyData.canLayAll0, tbP], fun r => by simp [tbP, PyData.depth, PyData.depthAll], fun r q => by
  obtain ⟨a, b, c, d⟩ := r
  obtain ⟨a', b', c', d'⟩ := q
  simp [tbP, PyData.eqv, PyData.eqvAll]⟩
section
variable {s : Sl} {w w' : Fl} {rs : List Row} {a b f : Int}
theorem RowsOk.l3 (h : RowsOk rs) : rs.length ≤ 1000 := by have := h.len; omega
@[simp] theorem lend_Pcs : lend (Pcs w rs) = Pcs (lnd w) rs := by unfold Pcs; cases w <;> simp [lends_rows]
@[simp] theorem rc_Pcs {m : Str} (h : (m == ("fives" : Str)) = false) : rcD 20 m (Pcs w rs) = some (Pcs w rs) := rc_pieces h
@[simp] theorem rc_told : rcD 20 "told" (Pcs w rs) = some (Pcs w rs) := rc_Pcs (by decide)
@[simp] theorem rc_names : rcD 20 "names" (Pcs w rs) = some (Pcs w rs) := rc_Pcs (by decide)
@[simp] theorem rc_row : rcD 20 "row" (Pcs w rs) = some (Pcs w rs) := rc_Pcs (by decide)
@[simp] theorem rc_has : rcD 20 "has" (Pcs w rs) = some (Pcs w rs) := rc_Pcs (by decide)
@[simp] theorem rc_put : rcD 20 "put_at" (Pcs w rs) = some (Pcs w rs) := rc_Pcs (by decide)
@[simp] theorem rc_wlast : rcD 20 "with_last" (Pcs w rs) = some (Pcs w rs) := rc_Pcs (by decide)
@[simp] theorem rc_wleft : rcD 20 "with_left" (Pcs w rs) = some (Pcs w rs) := rc_Pcs (by decide)
@[simp] theorem rc_wrow : rcD 20 "with_row" (Pcs w rs) = some (Pcs w rs) := rc_Pcs (by decide)
@[simp] theorem rc_wout : rcD 20 "without" (Pcs w rs) = some (Pcs w rs) := rc_Pcs (by decide)
@[simp] theorem rc_since : rcD 20 "since" (Pcs w rs) = some (Pcs w rs) := rc_Pcs (by decide)
@[simp] theorem free_Pcs : (Pcs .own rs).free = true := rfl
theorem mk_P (h : RowsOk rs) : callK (mkF 20 F_pieces_Pieces___init__) [Lst rowD w rs] s = .ok (Pcs .own rs) s := mk_pieces h
@[simp] theorem told_P : callK F_pieces_Pieces_told [Pcs w rs] s = .ok (Tpl rowD rs) s := told_c
theorem rwithin_P (h : StOk a b) (hr : RowsOk rs) : callK F_stretches_rows_within [Pcs w rs, stD a b] s = .ok (Lst rowD .own (rs.filter (inSt a b))) s := rows_within_c h hr.l3
theorem within_P (h : StOk a b) (hr : RowsOk rs) : callK F_stretches_within [Pcs w rs, stD a b] s = .ok (Lst D.str .own (nmsI rs a b)) s := within_c h hr.l3
theorem lefts_P (h : StOk a b) (hr : RowsOk rs) : callK F_stretches_lefts [Pcs w rs, stD a b] s = .ok (.v (.int (ksum rs a b))) s := lefts_c h hr.l3
theorem greatest_P (h : StOk a b) (hr : RowsOk rs) : callK F_stretches_greatest_length [Pcs w rs, stD a b] s = .ok (.v (.int (lmax rs a b))) s := greatest_c h hr.l3
theorem need_P (h : StOk a b) (hr : RowsOk rs) (h0 : 0 ≤ f) (h1 : f ≤ 300) : callK F_stretches_need [Pcs w rs, stD a b, .v (.int f)] s = .ok (.v (.int (needI rs a b f))) s := need_c h hr.l3 h0 h1
theorem short_P (h : StOk a b) (hr : RowsOk rs) (h0 : 0 ≤ f) (h1 : f ≤ 300) : callK F_stretches_short [Pcs w rs, stD a b, .v (.int f)] s = .ok (.v (.int (needI rs a b f - (b - a + 1)))) s := short_c h hr.l3 h0 h1
theorem stretches_P (hr : RowsOk rs) : callK F_stretches_stretches [Pcs w rs] s = .ok (Lst stE .own (found rs)) s := stretches_c hr
/-! tables -/
def tbl (rs : List Row) (f : Int) : List (Int × Int × Int × Int) := (found rs).map fun p => (p.1, p.2, needI rs p.1 p.2 f, p.2 - p.1 + 1)
def badP (q : Int × Int × Int × Int) : Bool := decide (q.2.2.2 < q.2.2.1)
def bad (rs : List Row) (f : Int) : List (Int × Int) := ((tbl rs f).filter badP).map fun q => (q.1, q.2.1)
def optD (o : Option (Int × Int)) : D := match o with | some p => stE p | none => .non
theorem tbl_len (hr : RowsOk rs) : (tbl rs f).length ≤ 900 := by simpa [tbl] using found_len hr.len
theorem mkt4 {a b c d : D} : mkTup [a, b, c, d] = some (.n .tup .shr [frz a, frz b, frz c, frz d]) := rfl
theorem table_P (hr : RowsOk rs) (h0 : 0 ≤ f) (h1 : f ≤ 300) : callK F_weighing_table [Pcs w rs, .v (.int f)] s = .ok (Lst tbE .own (tbl rs f)) s := callK_F rfl (by
  have hl := found_len hr.len
  simp [d_weighing_table, need_failings_c h0 h1, diD, stretches_P hr, show mkLst [] = some (Lst tbE .own []) from rfl]
  refine sat_for (I := fun pre s => ∃ y z, s = [some (Pcs w rs), some (.v (.int f)), some (Lst tbE .own (pre.map fun p => (p.1, p.2, needI rs p.1 p.2 f, p.2 - p.1 + 1))), y, z]) (fun pre p post s e h => ?_) ⟨_, _, rfl⟩ (fun s h => ?_)
  · obtain ⟨y, z, rfl⟩ := h
    have hp := (found_ok hr (p := p) (by rw [e]; simp)).1
    refine ⟨_, rfl, ?_⟩
    simp
    refine sat_app' (enc := tbE) (p.1, p.2, needI rs p.1 p.2 f, p.2 - p.1 + 1) rfl ?_ (by rw [e] at hl; simp at hl ⊢; omega) ?_
    · simp [mkt2, need_P hp hr h0 h1, room_c hp, mkt4, tbE]
    · simp
  · obtain ⟨y, z, rfl⟩ := h
    simp [dMv, tbl])
end
end Lw
/-! Q2 -/
set_option maxHeartbeats 1000000
/-! The first too short; the law's own table. -/
namespace Lw
open PySem PySem.Spec PyProof.Rows L2 Fs
section
variable {s : Sl} {w w' : Fl} {rs : List Row} {a b f : Int}
theorem bad_head : (bad rs f).head? = ((tbl rs f).find? badP).map fun q => (q.1, q.2.1) := by
  unfold bad
  rw [List.head?_map, List.head?_filter]
theorem too_short_P (hr : RowsOk rs) (h0 : 0 ≤ f) (h1 : f ≤ 300) : callK F_weighing_too_short [Pcs w rs, .v (.int f)] s = .ok (optD (bad rs f).head?) s := callK_F rfl (by
  simp [d_weighing_too_short, diD, table_P hr h0 h1]
  refine sat_for (I := fun pre s => (∀ q ∈ pre, badP q = false) ∧ ∃ y z u v, s = [some (Pcs w rs), some (.v (.int f)), y, z, u, v]) (fun pre p post s e h => ?_) ⟨by simp, _, _, _, _, rfl⟩ (fun s h => ?_)
  · obtain ⟨h, y, z, u, v, rfl⟩ := h
    refine ⟨_, rfl, ?_⟩
    by_cases hb : p.2.2.2 < p.2.2.1
    · simp [hb, mkt2, bad_head]
      have : List.find? badP (tbl rs f) = some p := by
        rw [e, List.find?_append, List.find?_eq_none.mpr (by simpa using h)]
        simp [List.find?_cons, badP, hb]
      rw [this]; rfl
    · simp [hb, -Prod.forall]
      intro q hq
      rcases hq with hq | rfl
      · exact h q hq
      · simp [badP, hb]
  · obtain ⟨h, y, z, u, v, rfl⟩ := h
    simp [bad_head]
    rw [List.find?_eq_none.mpr (by simpa using h)]; rfl)
theorem isN_opt {o : Option (Int × Int)} : isND (optD o) = some (.v (.bl o.isNone)) := by cases o <;> rfl
theorem is_kept_P (hr : RowsOk rs) (h0 : 0 ≤ f) (h1 : f ≤ 300) : callK F_weighing_is_kept [Pcs w rs, .v (.int f)] s = .ok (.v (.bl (bad rs f).isEmpty)) s := callK_F rfl (by
  simp [d_weighing_is_kept, too_short_P hr h0 h1, isN_opt]
  cases bad rs f <;> rfl)
/-! the law's own -/
theorem lwithin_P (hr : RowsOk rs) : callK F_L_law_within_2 [Lst rowD w rs, .v (.int a), .v (.int b)] s = .ok (Lst rowD .own (rs.filter (inSt a b))) s := callK_F rfl (by
  simp [d_L_law_within_2]
  refine sat_cmp (out := rowD) rowD rs (inSt a b) id (by simp [diP]) rfl (fun r _ => ?_) (by have := hr.len; omega) ?_
  · by_cases h : a ≤ r.a <;> simp [h, inSt]
  · simp)
theorem max0 {ns : List Int} (h : ∀ n ∈ ns, 0 ≤ n) : maxI (0 :: ns) = some (glI ns) := by
  have e := glI_app h
  cases e1 : maxI (0 :: ns) with
  | none => have := maxI_none e1; simp at this
  | some m =>
    obtain ⟨m1, m2⟩ := maxI_ok e1
    obtain ⟨k1, k2⟩ := maxI_ok e
    congr 1
    have h1 := m2 (glI ns) (by rcases List.mem_append.mp k1 with q | q <;> simp_all)
    have h2 := k2 m (by rcases List.mem_cons.mp m1 with q | q <;> simp_all)
    omega
theorem lpos {P : Row → Bool} (hr : RowsOk rs) : ∀ n ∈ (rs.filter P).map Row.l, 0 ≤ n := fun n hn => by
  obtain ⟨r, hr', rfl⟩ := List.mem_map.mp hn
  have := (hr.ok r (List.mem_filter.mp hr').1).l0
  omega
theorem lneed_P (hr : RowsOk rs) (h0 : 0 ≤ f) (h1 : f ≤ 301) : callK F_L_law_need_2 [Lst rowD w rs, .v (.int a), .v (.int b), .v (.int f)] s = .ok (.v (.int (needI rs a b f))) s := callK_F rfl (by
  have hl : (rs.filter (inSt a b)).length ≤ 30 := Nat.le_trans (List.length_filter_le _ _) hr.len
  simp [d_L_law_need_2, lwithin_P hr]
  refine sat_cm (out := D.int) rowD (rs.filter (inSt a b)) Row.k (by simp [diP]) rfl (fun r _ => by simp) (by omega) ?_
  simp [mkI1]
  refine sat_cm (out := D.int) rowD (rs.filter (inSt a b)) Row.l (by simp [diP]) rfl (fun r _ => by simp) (by omega) ?_
  simp [add_Lst (enc := D.int) (xs := [0]) (show ([0] : List Int).length + ((rs.filter (inSt a b)).map Row.l).length ≤ 100000 by simp; omega), maxL_I, max0 (lpos hr), cMul_l (show f.natAbs < 2 ^ 64 by omega), needI, ksum, lmax])
theorem lstretches_P (hr : RowsOk rs) : callK F_L_law_stretches [Lst rowD w rs] s = .ok (Lst stE .own (found rs)) s := callK_F rfl (by
  have hl := hr.len
  have hfl := found_len hl
  simp [d_L_law_stretches]
  refine sat_cm (out := D.int) rowD rs Row.a (by simp [diP]) rfl (fun r _ => by simp) (by omega) ?_
  simp [sortSet_I (ns := rs.map Row.a) (by simp; omega)]
  refine sat_cm (out := D.int) rowD rs Row.b (by simp [diP]) rfl (fun r _ => by simp) (by omega) ?_
  simp [sortSet_I (ns := rs.map Row.b) (by simp; omega), show mkLst [] = some (Lst stE .own []) from rfl]
  refine sat_forE (d := Lst D.int .own (sset (rs.map Row.a))) rfl rfl it_Lst ?_
  refine sat_for (I := fun pre s => ∃ y, s = [some (Lst rowD w rs), none, none, some (Lst D.int .own (sset (rs.map Row.b))), some (Lst stE .own (pre.flatMap fun a => ((ends rs).filter (okSt rs a)).map fun b => (a, b))), y, none]) (fun pre x post s e h => ?_) ⟨_, rfl⟩ (fun s h => ?_)
  · obtain ⟨y, rfl⟩ := h
    refine ⟨_, rfl, ?_⟩
    have he : found rs = ((pre ++ x :: post).flatMap fun a => ((ends rs).filter (okSt rs a)).map fun b => (a, b)) := by rw [← e]; rfl
    rw [he] at hfl
    simp at hfl
    simp
    refine sat_ext (enc := stE) (ys := ((ends rs).filter (okSt rs x)).map fun b => (x, b)) (w := .own) rfl ?_ (by simp; omega) ?_
    · refine sat_cmp (out := stE) D.int (ends rs) (okSt rs x) (fun b => (x, b)) (by simp [diP, ends]) rfl (fun b hb => ?_) (by have := sset_len (rs.map Row.b); simp [ends] at this ⊢; omega) ?_
      · have e1 := ne_nil' (enc := rowD) (w := .own) (w' := .own) (xs := rs.filter (inSt x b)) (fun r hr' => okS_row (hr.ok r (List.mem_filter.mp hr').1))
        refine ⟨?_, fun _ => by simp [mkt2, stE]⟩
        simp [lwithin_P hr, show mkLst [] = some (.n .lst .own []) from rfl, e1]
        unfold okSt
        cases hE : rs.filter (inSt x b) with
        | nil => simp
        | cons r l =>
          have hm : r ∈ rs.filter (inSt x b) := by rw [hE]; simp
          have h1 := List.mem_filter.mp hm
          have h2 := (hr.ok r h1.1).b1
          have h3 := h1.2
          simp [inSt] at h3
          simp; omega
      · simp
    · simp
  · obtain ⟨y, rfl⟩ := h
    simp [dMv]
    rfl)
end
end Lw
/-! Q3 -/
set_option maxHeartbeats 1000000
/-! The law's own table; what is too short. -/
namespace Lw
open PySem PySem.Spec PyProof.Rows L2 Fs
section
variable {s : Sl} {w w' : Fl} {rs : List Row} {a b f g : Int}
theorem ltable_P (hr : RowsOk rs) (h0 : 0 ≤ f) (h1 : f ≤ 301) : callK F_L_law_table [Lst rowD w rs, .v (.int f)] s = .ok (Lst tbE .own (tbl rs f)) s := callK_F rfl (by
  have hl := found_len hr.len
  simp [d_L_law_table, diD, lstretches_P hr, show mkLst [] = some (Lst tbE .own []) from rfl]
  refine sat_for (I := fun pre s => ∃ y z, s = [some (Lst rowD w rs), some (.v (.int f)), some (Lst tbE .own (pre.map fun p => (p.1, p.2, needI rs p.1 p.2 f, p.2 - p.1 + 1))), y, z]) (fun pre p post s e h => ?_) ⟨_, _, rfl⟩ (fun s h => ?_)
  · obtain ⟨y, z, rfl⟩ := h
    refine ⟨_, rfl, ?_⟩
    simp
    refine sat_app' (enc := tbE) (p.1, p.2, needI rs p.1 p.2 f, p.2 - p.1 + 1) rfl ?_ (by rw [e] at hl; simp at hl ⊢; omega) ?_
    · simp [lneed_P hr h0 h1, mkt4, tbE]
    · simp
  · obtain ⟨y, z, rfl⟩ := h
    simp [dMv, tbl])
@[simp] theorem ixT2 {q : Int × Int × Int × Int} : ixD (tbE q) (.v (.int 2)) = some (.v (.int q.2.2.1)) := rfl
@[simp] theorem ixT3 {q : Int × Int × Int × Int} : ixD (tbE q) (.v (.int 3)) = some (.v (.int q.2.2.2)) := rfl
theorem cutT2 {q : Int × Int × Int × Int} : slD [tbE q, .v .non, .v (.int 2)] = some (stE (q.1, q.2.1)) := rfl
theorem pOp2_gt {i j : Int} : gtD (.v (.int i)) (.v (.int j)) = some (.v (.bl (decide (j < i)))) := rfl
theorem lshort_P (hr : RowsOk rs) (h0 : 0 ≤ f) (h1 : f ≤ 301) : callK F_L_law_short [Lst rowD w rs, .v (.int f)] s = .ok (Lst stE .own (bad rs f)) s := callK_F rfl (by
  simp [d_L_law_short]
  refine sat_cmp (out := stE) tbE (tbl rs f) badP (fun q => (q.1, q.2.1)) (by simp [diD, ltable_P hr h0 h1]) rfl (fun q _ => ?_) (by have := tbl_len (f := f) hr; omega) ?_
  · simp [badP, cutT2]
  · simp [bad])
theorem lsize_sp {d : D} (h : IsBox d) : sat (F_L_law_size [d]) fun y ios => ∃ m d', y = .int m ∧ 0 ≤ m ∧ m ≤ 30 ∧ ios = [some d'] ∧ IsBox d' := by
  refine sat_F' rfl ?_
  simp [d_L_law_size, h.free, mkI8]
  refine sat_mono (take_sp h (by decide) (by decide)) ?_
  rintro _ _ ⟨u, d1, rfl, rfl, u0, u1, b1⟩
  obtain ⟨x, hx, _, e1, _⟩ := ixI_Lst (enc := D.int) (w := .own) (xs := [6, 6, 6, 6, 6, 6, 8, 30]) (i := u) u0 (by simpa using u1)
  simp [b1.free, e1, ioF, FlowP]
  exact ⟨by simp at hx; omega, by simp at hx; omega, b1⟩
@[simp] theorem intD_bl {c : Bool} : intD (.v (.bl c)) = some (.v (.int (if c then 1 else 0))) := by cases c <;> rfl
@[simp] theorem pick2 {x y : Int} {c : Bool} : ixK (Lst D.int w [x, y]) (.v (.int (if c then 1 else 0))) = some (.v (.int (if c then y else x))) := by cases c <;> rfl
@[simp] theorem pick2' {x y : Int} {c : Prop} [Decidable c] : ixK (Lst D.int w [x, y]) (.v (.int (if c then 1 else 0))) = some (.v (.int (if c then y else x))) := by split <;> rfl
theorem rows_spI {d : D} {m : Int} (h : IsBox d) (m0 : 0 ≤ m) (hm : m ≤ 30) : sat (F_L_law_rows [d, .v (.int m)]) fun y ios => ∃ rs d', y = Lst rowD .own rs ∧ RowsOk rs ∧ (rs.length : Int) ≤ m ∧ ios = [some d', none] ∧ IsBox d' := by
  obtain ⟨n, rfl⟩ : ∃ n : Nat, m = (n : Int) := ⟨m.toNat, by omega⟩
  refine sat_mono (rows_sp (m := n) h (by omega)) ?_
  rintro _ _ ⟨rs, d', rfl, hr, hl, rfl, hb⟩
  exact ⟨rs, d', rfl, hr, by omega, rfl, hb⟩
theorem rows_spN {d : D} {m : Int} (h : IsBox d) (m0 : 0 ≤ m) (hm : m ≤ 30) : sat (F_L_law_rows [d, .v (.int m)]) fun y ios => ∃ rs d', y = Lst rowD .own rs ∧ RowsOk rs ∧ (rs.length : Int) ≤ m ∧ ios = [some d', none] ∧ IsBox d' ∧ ∀ r ∈ rs, nineB r.nm.cps.toList = true := by
  obtain ⟨n, rfl⟩ : ∃ n : Nat, m = (n : Int) := ⟨m.toNat, by omega⟩
  refine sat_mono (rows_sp2 (m := n) h (by omega)) ?_
  rintro _ _ ⟨rs, d', rfl, hr, hl, rfl, hb, hn⟩
  exact ⟨rs, d', rfl, hr, by omega, rfl, hb, hn⟩
/-! kept for more, kept for fewer -/
theorem lmax_nn (hr : RowsOk rs) : 0 ≤ lmax rs a b := glI_pos (lpos hr)
theorem need_mono (hr : RowsOk rs) (h : f ≤ g) : needI rs a b f ≤ needI rs a b g := by
  have := Int.mul_le_mul_of_nonneg_right h (lmax_nn (a := a) (b := b) hr)
  unfold needI; omega
theorem mem_bad {p : Int × Int} : p ∈ bad rs f ↔ p ∈ found rs ∧ p.2 - p.1 + 1 < needI rs p.1 p.2 f := by
  unfold bad tbl
  simp only [List.filter_map, List.map_map, List.mem_map, List.mem_filter, Function.comp, badP, decide_eq_true_eq]
  constructor
  · rintro ⟨q, ⟨h1, h2⟩, rfl⟩; exact ⟨h1, h2⟩
  · rintro ⟨h1, h2⟩; exact ⟨p, ⟨h1, h2⟩, rfl⟩
theorem bad_mono (hr : RowsOk rs) (h : f ≤ g) (hb : bad rs g = []) : bad rs f = [] := by
  rw [List.eq_nil_iff_forall_not_mem] at hb ⊢
  intro p hp
  obtain ⟨h1, h2⟩ := mem_bad.mp hp
  exact hb p (mem_bad.mpr ⟨h1, by have := need_mono (a := p.1) (b := p.2) hr h; omega⟩)
theorem bad_within (hr : RowsOk rs) (h0 : 0 ≤ b - a + 1) (hn : b - a + 1 < needI rs a b f) : ∃ p ∈ bad rs f, a ≤ p.1 ∧ p.2 ≤ b := by
  have hne : rs.filter (inSt a b) ≠ [] := fun e => by
    have : needI rs a b f = 0 := by simp [needI, ksum, lmax, e, glI, maxI]
    omega
  obtain ⟨p, hp, h1, h2, h3⟩ := tight (fun r hr' => (hr.ok r hr').b1) hne
  refine ⟨p, mem_bad.mpr ⟨hp, ?_⟩, h1, h2⟩
  have : needI rs p.1 p.2 f = needI rs a b f := by unfold needI ksum lmax; rw [h3]
  omega
end
end Lw
/-! Q4 -/
set_option maxHeartbeats 1000000
/-! How many failings are borne. -/
namespace Lw
open PySem PySem.Spec PyProof.Rows L2 Fs
section
variable {s : Sl} {w w' : Fl} {rs : List Row} {a b f g : Int}
theorem keys_strs (rs : List Row) : (keysR rs).map keyDv = (rs.map Row.nm).map D.str := by simp [keysR, keyR, keyDv]
@[simp] theorem names_P : callK F_pieces_Pieces_names [Pcs w rs] s = .ok (Lst D.str .own (rs.map Row.nm)) s := callK_F rfl (by
  have e : fldD 20 "fives" (Pcs w rs) = some (fivesD w rs) := rfl
  have e2 : listD (fivesD w rs) = some (Lst D.str .own (rs.map Row.nm)) := by simp only [listD, keys_strs, Lst]
  simp [d_pieces_Pieces_names, e, e2])
theorem row_P {z : Str} {r : Row} (h : (rs.find? fun r => decide (r.nm = z)) = some r) : callK F_pieces_Pieces_row [Pcs w rs, .v (.str z)] s = .ok (rowD r) s := row_c h
theorem find_nm (hr : RowsOk rs) {r : Row} (h : r ∈ rs) : (rs.find? fun o => decide (o.nm = r.nm)) = some r := by
  have hnd := hr.nd
  clear hr
  induction rs with
  | nil => cases h
  | cons x rs ih =>
    rw [List.map_cons, List.nodup_cons] at hnd
    rw [List.find?_cons]
    rcases List.mem_cons.mp h with rfl | h
    · simp
    · have : x.nm ≠ r.nm := fun e => hnd.1 (by rw [e]; exact List.mem_map.mpr ⟨r, h, rfl⟩)
      simp only [decide_eq_false this]
      exact ih h hnd.2
theorem length_of_P (hr : RowsOk rs) {r : Row} (h : r ∈ rs) : callK F_bearing_length_of [Pcs w rs, .v (.str r.nm)] s = .ok (.v (.int r.l)) s := callK_F rfl (by
  have e : ixK (rowD r) (.v (.int 3)) = some (.v (.int r.l)) := rfl
  simp [d_bearing_length_of, row_P (find_nm hr h), e])
@[simp] theorem negD_i {i : Int} : negD (.v (.int i)) = some (.v (.int (-i))) := rfl
theorem quotient_P (h : StOk a b) (hr : RowsOk rs) {l : Int} (h0 : 0 < l) (h1 : l ≤ 12) : callK F_bearing_quotient [Pcs w rs, stD a b, .v (.int l)] s = .ok (.v (.int (max (-1) ((b - a + 1 - ksum rs a b) / l)))) s := callK_F rfl (by
  simp [d_bearing_quotient, room_c h, lefts_P h hr, cDiv_p h0 (by omega)])
/-- the first of the longest within -/
def lngR (rs : List Row) (a b : Int) : Option Row := (rs.filter (inSt a b)).find? fun r => decide (r.l = lmax rs a b)
theorem longest_P (h : StOk a b) (hr : RowsOk rs) : callK F_stretches_longest [Pcs w rs, stD a b] s = .ok (match lngR rs a b with | some r => .v (.str r.nm) | none => .non) s := callK_F rfl (by
  simp [d_stretches_longest, diD, greatest_P h hr, rwithin_P h hr]
  refine sat_for (I := fun pre s => (∀ r ∈ pre, r.l ≠ lmax rs a b) ∧ ∃ y, s = [some (Pcs w rs), some (stD a b), some (.v (.int (lmax rs a b))), y]) (fun pre r post s e h => ?_) ⟨by simp, _, rfl⟩ (fun s h => ?_)
  · obtain ⟨h, y, rfl⟩ := h
    refine ⟨_, rfl, ?_⟩
    by_cases hb : r.l = lmax rs a b
    · simp [hb]
      have : lngR rs a b = some r := by
        unfold lngR
        rw [e, List.find?_append, List.find?_eq_none.mpr (by simpa using h)]
        simp [List.find?_cons, hb]
      rw [this]
    · simp [hb]
      intro q hq
      rcases hq with hq | rfl
      · exact h q hq
      · exact hb
  · obtain ⟨h, y, rfl⟩ := h
    have : lngR rs a b = none := List.find?_eq_none.mpr (by simpa using h)
    simp [this])
theorem glI_mem {ns : List Int} (h : ns ≠ []) : maxI ns = some (glI ns) ∧ glI ns ∈ ns ∧ ∀ n ∈ ns, n ≤ glI ns := by
  unfold glI
  cases e : maxI ns with
  | none => exact absurd (maxI_none e) h
  | some m => exact ⟨rfl, (maxI_ok e).1, (maxI_ok e).2⟩
theorem lng_some (hne : rs.filter (inSt a b) ≠ []) : ∃ r, lngR rs a b = some r ∧ r ∈ rs ∧ r.l = lmax rs a b := by
  have h1 := (glI_mem (ns := (rs.filter (inSt a b)).map Row.l) (by simpa using hne)).2.1
  obtain ⟨r, hr, e⟩ := List.mem_map.mp h1
  cases hf : lngR rs a b with
  | none =>
    have := List.find?_eq_none.mp hf r hr
    simp only [decide_eq_true_eq] at this
    exact absurd e this
  | some q =>
    have := List.find?_some hf
    exact ⟨q, rfl, (List.mem_filter.mp (List.mem_of_find?_eq_some hf)).1, by simpa using this⟩
def quo (rs : List Row) (p : Int × Int) : Int := max (-1) ((p.2 - p.1 + 1 - ksum rs p.1 p.2) / lmax rs p.1 p.2)
theorem found_ne (hr : RowsOk rs) (h : rs ≠ []) : found rs ≠ [] := by
  obtain ⟨r, hm⟩ := List.exists_mem_of_ne_nil rs h
  have hk := hr.ok r hm
  have hne : rs.filter (inSt 0 199) ≠ [] := by
    have : r ∈ rs.filter (inSt 0 199) := by simp [hm, inSt, hk.a0, hk.b2]
    exact List.ne_nil_of_mem this
  obtain ⟨p, hp, _⟩ := tight (fun r hr' => (hr.ok r hr').b1) hne
  exact List.ne_nil_of_mem hp
def bornI (rs : List Row) : Int := (minI ((found rs).map (quo rs))).getD 0
theorem born_min (hr : RowsOk rs) (h : rs ≠ []) : minI ((found rs).map (quo rs)) = some (bornI rs) := by
  unfold bornI
  cases e : minI ((found rs).map (quo rs)) with
  | none => have := minI_none e; simp only [List.map_eq_nil_iff] at this; exact absurd this (found_ne hr h)
  | some m => rfl
def bornD (rs : List Row) : D := if rs = [] then .non else .v (.int (bornI rs))
theorem okS_nms (hr : RowsOk rs) : ∀ z ∈ rs.map Row.nm, okS z := fun z hz => by
  obtain ⟨r, h, rfl⟩ := List.mem_map.mp hz; exact okS_row (hr.ok r h)
theorem lm_pos (hr : RowsOk rs) (hne : rs.filter (inSt a b) ≠ []) : 0 < lmax rs a b ∧ lmax rs a b ≤ 12 := by
  obtain ⟨r, _, hm, e⟩ := lng_some hne
  have h1 := (hr.ok r hm).l0
  have h2 := (hr.ok r hm).l1
  omega
theorem borne_P (hr : RowsOk rs) : callK F_bearing_borne [Pcs w rs] s = .ok (bornD rs) s := callK_F rfl (by
  have e1 := eq_nil (enc := D.str) (w := .own) (w' := .own) (xs := rs.map Row.nm) (okS_nms hr)
  by_cases h : rs = []
  · have hE : (rs.map Row.nm).isEmpty = true := by simp [h]
    rw [hE] at e1
    have hB : bornD rs = .non := by simp [bornD, h]
    rw [hB]
    simp [d_bearing_borne, show mkLst [] = some (.n .lst .own []) from rfl, e1]
  · have hE : (rs.map Row.nm).isEmpty = false := by simp [h]
    rw [hE] at e1
    simp [d_bearing_borne, show mkLst [] = some (.n .lst .own []) from rfl, e1]
    refine sat_cm (out := D.int) stE (found rs) (quo rs) (by simp [diD, stretches_P hr]) rfl (fun p hp => ?_) (by have := found_len hr.len; omega) ?_
    · obtain ⟨h1, h2⟩ := found_ok hr hp
      have hne : rs.filter (inSt p.1 p.2) ≠ [] := by intro z; rw [z] at h2; cases h2
      obtain ⟨r, hl, hm, hq⟩ := lng_some hne
      have hp' := lm_pos hr hne
      have hlp := fun s => longest_P (s := s) (w := lnd w) h1 hr
      rw [hl] at hlp
      simp only at hlp
      simp only [show stE p = stD p.1 p.2 from rfl]
      simp [hlp, length_of_P hr hm, hq, quotient_P h1 hr hp'.1 hp'.2, quo]
    · simp [minL_I, born_min hr h, bornD, h])
end
end Lw
/-! Q5 -/
set_option maxHeartbeats 1000000
/-! The law's own number of failings borne. -/
namespace Lw
open PySem PySem.Spec PyProof.Rows L2 Fs
section
variable {s : Sl} {w w' : Fl} {rs : List Row} {a b f g : Int}
theorem found_ok' (hr : RowsOk rs) {p : Int × Int} (hp : p ∈ found rs) : StOk p.1 p.2 ∧ rs.filter (inSt p.1 p.2) ≠ [] := by
  obtain ⟨h1, h2⟩ := found_ok hr hp
  exact ⟨h1, by intro z; rw [z] at h2; cases h2⟩
theorem lborne_P (hr : RowsOk rs) : callK F_L_law_borne [Lst rowD w rs] s = .ok (bornD rs) s := callK_F rfl (by
  have e1 := eq_nil (enc := rowD) (w := w) (w' := .own) (xs := rs) (fun r h => okS_row (hr.ok r h))
  have hfl := found_len hr.len
  by_cases h : rs = []
  · have hE : rs.isEmpty = true := by simp [h]
    rw [hE] at e1
    have hB : bornD rs = .non := by simp [bornD, h]
    rw [hB]
    simp [d_L_law_borne, show mkLst [] = some (.n .lst .own []) from rfl, e1]
  · have hE : rs.isEmpty = false := by simp [h]
    rw [hE] at e1
    simp [d_L_law_borne, show mkLst [] = some (.n .lst .own []) from rfl, e1, diD, lstretches_P hr]
    refine sat_for (I := fun pre s => ∃ x2 x3 x4 x5, s = [some (Lst rowD w rs), some (Lst D.int .own (pre.map (quo rs))), x2, x3, x4, x5, none]) (fun pre p post s e h => ?_) ⟨_, _, _, _, rfl⟩ (fun s h => ?_)
    · obtain ⟨x2, x3, x4, x5, rfl⟩ := h
      have hp := found_ok' hr (p := p) (by rw [e]; simp)
      have hlm := lm_pos hr hp.2
      have hl : (rs.filter (inSt p.1 p.2)).length ≤ 30 := Nat.le_trans (List.length_filter_le _ _) hr.len
      refine ⟨_, rfl, ?_⟩
      simp [lwithin_P hr]
      refine sat_cm (out := D.int) rowD (rs.filter (inSt p.1 p.2)) Row.k (by simp [diP]) rfl (fun r _ => by simp) (by omega) ?_
      simp
      refine sat_app' (enc := D.int) (quo rs p) rfl ?_ (by rw [e] at hfl; simp at hfl ⊢; omega) ?_
      · simp
        refine sat_cm (out := D.int) rowD (rs.filter (inSt p.1 p.2)) Row.l (by simp [diP]) rfl (fun r _ => by simp) (by omega) ?_
        have := (glI_mem (ns := (rs.filter (inSt p.1 p.2)).map Row.l) (by simpa using hp.2)).1
        simp [maxL_I, this, show glI ((rs.filter (inSt p.1 p.2)).map Row.l) = lmax rs p.1 p.2 from rfl, cDiv_p hlm.1 (show lmax rs p.1 p.2 < 1073741824 by omega), quo, ksum]
      · simp
    · obtain ⟨x2, x3, x4, x5, rfl⟩ := h
      simp [minL_I, born_min hr ‹rs ≠ []›, bornD, ‹rs ≠ []›])
theorem lis_kept_P (hr : RowsOk rs) (h0 : 0 ≤ f) (h1 : f ≤ 301) : callK F_L_law_is_kept [Lst rowD w rs, .v (.int f)] s = .ok (.v (.bl (bad rs f).isEmpty)) s := callK_F rfl (by
  simp [d_L_law_is_kept]
  refine sat_cmp (out := tbE) tbE (tbl rs f) badP id (by simp [diD, ltable_P hr h0 h1]) rfl (fun q _ => ?_) (by have := tbl_len (f := f) hr; omega) ?_
  · simp [badP]
  · have e1 := eq_nil (enc := tbE) (w := .own) (w' := .own) (xs := ((tbl rs f).filter badP).map id) (by simp)
    have e2 : (((tbl rs f).filter badP).map id).isEmpty = (bad rs f).isEmpty := by unfold bad; cases (tbl rs f).filter badP <;> rfl
    rw [e2] at e1
    generalize ((tbl rs f).filter badP).map id = G at e1
    simp [show mkLst [] = some (.n .lst .own []) from rfl, e1])
@[simp] theorem lwhole_P {i : Int} : callK F_L_law_whole_2 [.v (.int i)] s = .ok (.v (.bl true)) s := callK_F rfl (by simp [d_L_law_whole_2])
/-! kept just for as many as are borne -/
theorem ksum_nn (hr : RowsOk rs) : 0 ≤ ksum rs a b := by
  unfold ksum
  have : ∀ xs : List Row, (∀ r ∈ xs, 0 ≤ r.k) → 0 ≤ (xs.map Row.k).sum := by
    intro xs
    induction xs with
    | nil => simp
    | cons x xs ih =>
      intro h
      have h1 := h x List.mem_cons_self
      have h2 := ih fun r hr => h r (List.mem_cons_of_mem _ hr)
      simp; omega
  exact this _ fun r h => (hr.ok r (List.mem_filter.mp h).1).k0
theorem quo_iff (hr : RowsOk rs) {p : Int × Int} (hp : p ∈ found rs) (hf : 0 ≤ f) : f ≤ quo rs p ↔ needI rs p.1 p.2 f ≤ p.2 - p.1 + 1 := by
  have hp := found_ok' hr hp
  have hlm := lm_pos hr hp.2
  have h1 := Int.le_ediv_iff_mul_le (a := f) (b := p.2 - p.1 + 1 - ksum rs p.1 p.2) hlm.1
  unfold quo needI
  omega
theorem quo_bounds (hr : RowsOk rs) {p : Int × Int} (hp : p ∈ found rs) : -1 ≤ quo rs p ∧ quo rs p ≤ 200 := by
  have hp := found_ok' hr hp
  have hlm := lm_pos hr hp.2
  have hk := ksum_nn (a := p.1) (b := p.2) hr
  have h1 : (p.2 - p.1 + 1 - ksum rs p.1 p.2) / lmax rs p.1 p.2 ≤ 200 := by
    have h2 : (p.2 - p.1 + 1 - ksum rs p.1 p.2) / lmax rs p.1 p.2 * lmax rs p.1 p.2 ≤ p.2 - p.1 + 1 - ksum rs p.1 p.2 := Int.ediv_mul_le _ (by omega)
    have h3 := hp.1.a0
    have h4 := hp.1.b1
    generalize (p.2 - p.1 + 1 - ksum rs p.1 p.2) / lmax rs p.1 p.2 = q at h2 ⊢
    rcases Int.lt_or_le 200 q with h5 | h5
    · have : q * 1 ≤ q * lmax rs p.1 p.2 := Int.mul_le_mul_of_nonneg_left (by omega) (by omega)
      omega
    · exact h5
  unfold quo
  omega
theorem born_bounds (hr : RowsOk rs) (h : rs ≠ []) : -1 ≤ bornI rs ∧ bornI rs ≤ 200 := by
  obtain ⟨h1, _⟩ := minI_ok (born_min hr h)
  obtain ⟨p, hp, e⟩ := List.mem_map.mp h1
  rw [← e]
  exact quo_bounds hr hp
theorem kept_iff (hr : RowsOk rs) (h : rs ≠ []) (hf : 0 ≤ f) : bad rs f = [] ↔ f ≤ bornI rs := by
  obtain ⟨h1, h2⟩ := minI_ok (born_min hr h)
  constructor
  · intro hb
    obtain ⟨p, hp, e⟩ := List.mem_map.mp h1
    rw [← e, quo_iff hr hp hf]
    rcases Int.lt_or_le (p.2 - p.1 + 1) (needI rs p.1 p.2 f) with h3 | h3
    · have := mem_bad.mpr ⟨hp, h3⟩
      rw [hb] at this; cases this
    · exact h3
  · intro hle
    rw [List.eq_nil_iff_forall_not_mem]
    intro p hp
    obtain ⟨h3, h4⟩ := mem_bad.mp hp
    have h5 := h2 (quo rs p) (List.mem_map.mpr ⟨p, h3, rfl⟩)
    have := (quo_iff hr h3 hf).mp (by omega)
    omega
end
end Lw
/-! S1 -/
set_option maxHeartbeats 1000000
/-! Pieces made of rows of four or five things; pieces made of pieces. -/
namespace Lw
open PySem PySem.Spec PyProof.Rows L2 Fs
/-- a row with five things, or with four -/
def rowG (p : Row × Bool) : D := if p.2 then rowD p.1 else .n .tup .shr [.v (.str p.1.nm), .v (.int p.1.a), .v (.int p.1.b), .v (.int p.1.l)]
instance : Ke rowG := ⟨fun ⟨r, b⟩ => by cases b <;> rfl⟩
structure HandOk (hs : List (Row × Bool)) : Prop where
  rows : RowsOk (hs.map Prod.fst)
  four : ∀ p ∈ hs, p.2 = false → p.1.k = p.1.l
section
variable {s : Sl} {w w' : Fl} {rs : List Row} {hs : List (Row × Bool)} {a b f g : Int}
@[simp] theorem frz_Pcs : frz (Pcs .own rs) = Pcs .shr rs := by simp [Pcs, piecesD, frz, frzs_rows]
@[simp] theorem frz_PcsS : frz (Pcs .shr rs) = Pcs .shr rs := by simp [Pcs]
@[simp] theorem filt_Pcs : Option.filter D.kept (some (Pcs .shr rs)) = some (Pcs .shr rs) := rfl
abbrev row4 (r : Row) : D := .n .tup .shr [.v (.str r.nm), .v (.int r.a), .v (.int r.b), .v (.int r.l)]
theorem window4_c {r : Row} (h : r.ok) : callK F_pieces_window_fault [row4 r] s = .ok .non s := callK_F rfl (by
  have h1 : max 0 (r.a - 1) ≤ r.b := by have := h.b0; have := h.b1; omega
  have h2 := h.b0; have h3 : r.a ≤ r.b + 1 := by have := h.b1; omega
  have e1 : ixD (row4 r) (.v (.int 1)) = some (.v (.int r.a)) := rfl
  have e2 : ixD (row4 r) (.v (.int 2)) = some (.v (.int r.b)) := rfl
  have e3 : ixD (row4 r) (.v (.int 3)) = some (.v (.int r.l)) := rfl
  have e5 : lenD (row4 r) = some (.v (.int 4)) := rfl
  generalize row4 r = R at e1 e2 e3 e5
  simp [d_pieces_window_fault, e1, e2, e3, e5, h.a0, h.a1, h1, h2, h3, h.b2, h.l0, h.l1])
theorem row_fault4_c {r : Row} {ks : List Key} {w : Fl} {xs : List D} (h : r.ok) (hn : lkD ks xs (.inr r.nm) = none) : callK F_pieces_row_fault [.n (.dct ks) w xs, row4 r] s = .ok .non s := callK_F rfl (by
  have hl := nameB_len h.nm
  have hl2 : r.nm.length ≤ 100 := by rw [len_cps]; omega
  have e0 : ixD (row4 r) (.v (.int 0)) = some (.v (.str r.nm)) := rfl
  have e5 : lenD (row4 r) = some (.v (.int 4)) := rfl
  have e6 : isiD "tuple" (row4 r) = some (.v (.bl true)) := rfl
  have e7 : lend (row4 r) = row4 r := by simp
  have e8 := fun s => window4_c (s := s) h
  generalize row4 r = R at e0 e5 e6 e7 e8
  simp [d_pieces_row_fault, e0, e5, e6, e7, is_name_c hl2, h.nm, in_dct, hn, e8])
theorem five_of4_c {r : Row} (h : r.k = r.l) : callK F_pieces_five_of [row4 r] s = .ok (rowD r) s := callK_F rfl (by
  have e3 : ixD (row4 r) (.v (.int 3)) = some (.v (.int r.l)) := rfl
  have e5 : lenD (row4 r) = some (.v (.int 4)) := rfl
  have e6 : mkTup [D.v (.int r.l)] = some (.n .tup .shr [.v (.int r.l)]) := rfl
  have e7 : addA (row4 r) (.n .tup .shr [.v (.int r.l)]) = some (rowD r) := by rw [← h]; rfl
  generalize row4 r = R at e3 e5 e7
  simp [d_pieces_five_of, e3, e5, e6, e7])
theorem row_faultG {p : Row × Bool} {ks : List Key} {w : Fl} {xs : List D} (h : p.1.ok) (hn : lkD ks xs (.inr p.1.nm) = none) : callK F_pieces_row_fault [.n (.dct ks) w xs, rowG p] s = .ok .non s := by
  obtain ⟨r, b⟩ := p
  cases b
  · exact row_fault4_c h hn
  · exact row_fault_c h hn
theorem five_ofG {p : Row × Bool} (h : p.2 = false → p.1.k = p.1.l) : callK F_pieces_five_of [rowG p] s = .ok (rowD p.1) s := by
  obtain ⟨r, b⟩ := p
  cases b
  · exact five_of4_c (h rfl)
  · exact five_of_c
@[simp] theorem lend_G {p : Row × Bool} : lend (rowG p) = rowG p := lend_kept (Ke.kept p)
@[simp] theorem frz_G {p : Row × Bool} : frz (rowG p) = rowG p := frz_kept (Ke.kept p)
theorem ix0_G {p : Row × Bool} : ixD (rowG p) (.v (.int 0)) = some (.v (.str p.1.nm)) := by obtain ⟨r, b⟩ := p; cases b <;> rfl
theorem five_rowsG_go {R : D} (h : HandOk hs) (e1 : isiTD ["list", "tuple"] R = some (.v (.bl true))) (e2 : lenD R = some (.v (.int (hs.length : Int)))) (e4 : itEn false R = some (hs.zipIdx.map (enE rowG))) : callK F_pieces_five_rows [R] s = .ok (fivesD .own (hs.map Prod.fst)) s := callK_F rfl (by
  have e3 : ¬ ((30 : Int) < hs.length) := by have := h.rows.len; simp at this; omega
  simp [d_pieces_five_rows, e1, e2, e3, e4, dDict0, diP]
  refine sat_for (I := fun pre s => ∃ y2 y3 y4, s = [some R, some (fivesD .own ((pre.map Prod.fst).map Prod.fst)), y2, y3, y4]) (fun pre p post s e hI => ?_) ⟨_, _, _, rfl⟩ (fun s hI => ?_)
  · obtain ⟨y2, y3, y4, rfl⟩ := hI
    obtain ⟨h1, h2, h3⟩ := zip_split e
    generalize hd0 : pre.map Prod.fst = dn at h1 h3 ⊢
    have hm : p.1 ∈ hs := by rw [h1]; simp
    have hx : p.1.1.ok := h.rows.ok _ (List.mem_map.mpr ⟨_, hm, rfl⟩)
    have hnd := h.rows.nd
    rw [h1, List.map_append, List.map_append, List.map_cons, List.map_cons] at hnd
    have hxn : p.1.1.nm ∉ (dn.map Prod.fst).map Row.nm := fun q => (List.nodup_append.mp hnd).2.2 _ q _ List.mem_cons_self rfl
    have hdn : ((dn.map Prod.fst).map Row.nm).Nodup := (List.nodup_append.mp hnd).1
    have hl := h.rows.len
    rw [h1] at hl
    simp only [List.length_map, List.length_append, List.length_cons] at hl
    refine ⟨_, tgT_2 rfl (Ke.kept p.1), ?_⟩
    have hD : (dn.map Prod.fst).length < 100000 := by simp; omega
    generalize hrr : dn.map Prod.fst = rr at hnd hxn hdn hD ⊢
    have hkn : keyR p.1.1 ∉ keysR rr := fun q => by
      obtain ⟨r, hr, er⟩ := List.mem_map.mp q
      exact hxn (List.mem_map.mpr ⟨r, hr, Sum.inr.inj er⟩)
    have e5 := fun s => row_faultG (s := s) (p := p.1) (ks := keysR rr) (w := .bor) (xs := rowsD rr) hx (lkR_none hxn)
    have e7 := storeK_dct (s := [some R, some (fivesD .own rr), some (.v (.int (p.2 : Int))), some (rowG p.1), some .non]) (i := 1) (kd := dP (pOp ixD (pVar 3) (pC (.int 0)))) (fz := true) (y := rowD p.1.1) rfl (kk := .v (.str p.1.1.nm)) (by simp [ix0_G]) rfl (keys_nd hdn) (by simpa [rowsD] using hD)
    rw [putKs_new hkn, putVs_new hkn (by simp [keysR, rowsD])] at e7
    simp only [frz_shr, if_true] at e7
    simp [e5, five_ofG (h.four _ hm), e7, lends_rows]
    rw [← hrr, ← hd0]
    simp [keysR, rowsD, Function.comp_def]
  · obtain ⟨y2, y3, y4, rfl⟩ := hI
    simp [dMv])
theorem mkG_go {R : D} (e : ∀ s, callK F_pieces_five_rows [lend R] s = .ok (fivesD .own rs) s) : callK (mkF 20 F_pieces_Pieces___init__) [R] s = .ok (Pcs .own rs) s := by
  have h1 : sat (F_pieces_Pieces___init__ [.n (.obj 20 []) .own [], R]) fun y ios => y = .non ∧ ios = [some (Pcs .own rs), none] := by
    refine sat_F rfl ?_
    have e2 : fldSK (plV 0) 20 "fives" (fivesD .own rs) [some (.n (.obj 20 []) .own []), some R] = .ok .nx [some (Pcs .own rs), some R] := rfl
    simp [d_pieces_Pieces___init__, e, e2, ioF]
  obtain ⟨y, ios, e, rfl, rfl⟩ := h1
  refine callK_ok (s' := [none]) ?_
  unfold mkF
  rw [e]
  rfl
theorem mk_G (h : HandOk hs) : callK (mkF 20 F_pieces_Pieces___init__) [Lst rowG w hs] s = .ok (Pcs .own (hs.map Prod.fst)) s := mkG_go fun s => by
  rw [lend_Lst]
  exact five_rowsG_go h rfl (by simp) (it_En (.inr (by cases w <;> decide)))
theorem ok_app {r : Row} (hr : RowsOk rs) (h : r.ok) (hn : r.nm ∉ rs.map Row.nm) (hl : rs.length < 30) : RowsOk (rs ++ [r]) := by
  refine ⟨by simp; omega, ?_, fun x hx => ?_⟩
  · rw [List.map_append, List.nodup_append]
    refine ⟨hr.nd, by simp, fun x hx y hy e => ?_⟩
    simp only [List.map_cons, List.map_nil, List.mem_singleton] at hy
    exact hn (by rw [← hy, ← e]; exact hx)
  · rcases List.mem_append.mp hx with q | q
    · exact hr.ok x q
    · rw [List.mem_singleton.mp q]; exact h
theorem mapG : (rs.map fun r => (r, true)).map rowG = rs.map rowD := by simp [rowG]
/-- with a row of four things -/
theorem with_row4_c {r : Row} (hr : RowsOk rs) (h : r.ok) (hk : r.k = r.l) (hn : r.nm ∉ rs.map Row.nm) (hl : rs.length < 30) : callK F_pieces_Pieces_with_row [Pcs w rs, row4 r] s = .ok (Pcs .own (rs ++ [r])) s := callK_F rfl (by
  have ho : HandOk (rs.map (fun r => (r, true)) ++ [(r, false)]) := ⟨by simpa [Function.comp_def] using ok_app hr h hn hl, fun p hp hb => by
    rcases List.mem_append.mp hp with q | q
    · obtain ⟨x, _, rfl⟩ := List.mem_map.mp q; cases hb
    · rw [List.mem_singleton.mp q]; exact hk⟩
  have e1 : mkLst [row4 r] = some (Lst rowG .own [(r, false)]) := rfl
  have e2 : Lst rowD .own rs = Lst rowG .own (rs.map fun r => (r, true)) := by simp [Lst, rowG]
  have e3 := fun w' => add_Lst (enc := rowG) (w := .own) (w' := w') (xs := rs.map fun r => (r, true)) (ys := [(r, false)]) (by simp; omega)
  have e4 := fun s => mk_G (s := s) (w := .own) ho
  have e5 : Option.filter D.kept (some (row4 r)) = some (row4 r) := rfl
  rw [List.map_append, List.map_map] at e4
  have e6 : (rs.map (Prod.fst ∘ fun r => (r, true))) ++ [(r, false)].map Prod.fst = rs ++ [r] := by simp [Function.comp_def]
  rw [e6] at e4
  generalize row4 r = R at e1 e5
  simp [d_pieces_Pieces_with_row, e5, e1, e2, e3, e4])
theorem without_c {r : Row} (hr : RowsOk rs) (h : r ∈ rs) : callK F_pieces_Pieces_without [Pcs w rs, .v (.str r.nm)] s = .ok (Pcs .own (rs.filter fun o => !decide (o = r))) s := callK_F rfl (by
  have ho : RowsOk (rs.filter fun o => !decide (o = r)) := ⟨Nat.le_trans (List.length_filter_le _ _) hr.len, (List.Sublist.map Row.nm List.filter_sublist).nodup hr.nd, fun x hx => hr.ok x (List.mem_filter.mp hx).1⟩
  have hk := hr.ok r h
  simp [d_pieces_Pieces_without, row_P (find_nm hr h)]
  refine sat_cmp (out := rowD) rowD rs (fun o => !decide (o = r)) id (by simp [diD]) rfl (fun o ho => ?_) (by have := hr.len; omega) ?_
  · have e1 : neD (rowD o) (rowD r) = some (.v (.bl (!decide (o = r)))) := by
      have E : EqE rowD (fun r => okS r.nm) := inferInstance
      have h1 : SeqAt.shaped (rowP o) = true := by simp [SeqAt.shaped, PyData.canLay0, PyData.canLayAll0, rowP, strOk_of (okS_row (hr.ok o ho)), PyData.depth, PyData.depthAll]
      have h2 : SeqAt.shaped (rowP r) = true := by simp [SeqAt.shaped, PyData.canLay0, PyData.canLayAll0, rowP, strOk_of (okS_row hk), PyData.depth, PyData.depthAll]
      rw [neD_of (a := rowP o) (b := rowP r) (by simp [pd, pds, rowP]) (by simp [pd, pds, rowP]) h1 h2]
      congr 4
      rw [Bool.eq_iff_iff]
      obtain ⟨a, b, c, d, e⟩ := r
      obtain ⟨a', b', c', d', e'⟩ := o
      simp [rowP, PyData.eqv, PyData.eqvAll]
    refine ⟨?_, fun _ => by simp⟩
    generalize hO : rowD o = O at e1
    generalize hR : rowD r = R at e1
    simp [e1]
  · simp [mk_P ho])
/-- the pieces as at a turn -/
def sinR (now : Int) (r : Row) : Row := { r with a := min (max r.a now) (r.b + 1) }
theorem since_ok {now : Int} (hr : RowsOk rs) (h0 : 0 ≤ now) : RowsOk (rs.map (sinR now)) := by
  refine ⟨by simpa using hr.len, ?_, fun x hx => ?_⟩
  · have : (rs.map (sinR now)).map Row.nm = rs.map Row.nm := by simp [sinR, Function.comp_def]
    rw [this]; exact hr.nd
  · obtain ⟨r, h, rfl⟩ := List.mem_map.mp hx
    have k := hr.ok r h
    have := k.a0; have := k.b0; have := k.b2
    exact ⟨k.nm, by simp only [sinR]; omega, by simp only [sinR]; omega, k.b0, by simp only [sinR]; omega, k.b2, k.l0, k.l1, k.k0, k.k1⟩
theorem since_c {now : Int} (hr : RowsOk rs) (h0 : 0 ≤ now) (h1 : now ≤ 200) : callK F_pieces_Pieces_since [Pcs w rs, .v (.int now)] s = .ok (Pcs .own (rs.map (sinR now))) s := callK_F rfl (by
  have hl := hr.len
  simp [d_pieces_Pieces_since, h0, h1, diD, show mkLst [] = some (Lst rowD .own []) from rfl]
  refine sat_for (I := fun pre s => ∃ y3 y4 y5 y6 y7, s = [some (Pcs w rs), some (.v (.int now)), some (Lst rowD .own (pre.map (sinR now))), y3, y4, y5, y6, y7]) (fun pre r post s e hI => ?_) ⟨_, _, _, _, _, rfl⟩ (fun s hI => ?_)
  · obtain ⟨y3, y4, y5, y6, y7, rfl⟩ := hI
    refine ⟨_, rfl, ?_⟩
    simp
    refine sat_app' (enc := rowD) (sinR now r) rfl ?_ (by rw [e] at hl; simp at hl ⊢; omega) ?_
    · simp [mkt5, sinR]
    · simp
  · obtain ⟨y3, y4, y5, y6, y7, rfl⟩ := hI
    simp [mk_P (since_ok hr h0)])
theorem with_left_P {r : Row} {k : Int} (hr : RowsOk rs) (h : r ∈ rs) (hk : 0 ≤ k) (hk2 : k ≤ r.l) : callK F_pieces_Pieces_with_left [Pcs w rs, .v (.str r.nm), .v (.int k)] s = .ok (Pcs .own (putR r.nm { r with k := k } rs)) s := with_left_c hr (find_nm hr h) hk hk2
theorem with_last_P {r : Row} {b : Int} (hr : RowsOk rs) (h : r ∈ rs) (hb : 0 ≤ b) (hb1 : r.a - 1 ≤ b) (hb2 : b ≤ 199) : callK F_pieces_Pieces_with_last [Pcs w rs, .v (.str r.nm), .v (.int b)] s = .ok (Pcs .own (putR r.nm { r with b := b } rs)) s := with_last_c hr (find_nm hr h) hb hb1 hb2
/-- one row exchanged, one left out, by its place -/
theorem put_at_ix (hr : RowsOk rs) {i : Nat} {r r' : Row} (h : rs[i]? = some r) : putR r.nm r' rs = rs.take i ++ r' :: rs.drop (i + 1) := by
  have hnd := hr.nd
  clear hr
  induction rs generalizing i with
  | nil => simp at h
  | cons x rs ih =>
    rw [List.map_cons, List.nodup_cons] at hnd
    cases i with
    | zero =>
      simp only [List.getElem?_cons_zero, Option.some.injEq] at h
      subst h
      have : ∀ o ∈ rs, o.nm ≠ x.nm := fun o ho e => hnd.1 (by rw [← e]; exact List.mem_map.mpr ⟨o, ho, rfl⟩)
      simp only [putR, List.map_cons, if_true, List.take_zero, List.nil_append, List.drop_succ_cons, List.drop_zero]
      congr 1
      rw [List.map_congr_left (g := id) fun o ho => by simp [this o ho]]
      simp
    | succ i =>
      simp only [List.getElem?_cons_succ] at h
      have hm : r ∈ rs := List.mem_of_getElem? h
      have : x.nm ≠ r.nm := fun e => hnd.1 (by rw [e]; exact List.mem_map.mpr ⟨r, hm, rfl⟩)
      have := ih h hnd.2
      simp only [putR, List.map_cons, if_neg ‹x.nm ≠ r.nm›, List.take_succ_cons, List.drop_succ_cons, List.cons_append] at this ⊢
      rw [this]
theorem out_at_ix (hr : RowsOk rs) {i : Nat} {r : Row} (h : rs[i]? = some r) : (rs.filter fun o => !decide (o = r)) = rs.take i ++ rs.drop (i + 1) := by
  have hnd := hr.nd
  clear hr
  induction rs generalizing i with
  | nil => simp at h
  | cons x rs ih =>
    rw [List.map_cons, List.nodup_cons] at hnd
    cases i with
    | zero =>
      simp only [List.getElem?_cons_zero, Option.some.injEq] at h
      subst h
      have : ∀ o ∈ rs, o ≠ x := fun o ho e => hnd.1 (by rw [← e]; exact List.mem_map.mpr ⟨o, ho, rfl⟩)
      simp only [List.filter_cons, decide_true, Bool.not_true, Bool.false_eq_true, if_false, List.take_zero, List.nil_append, List.drop_succ_cons, List.drop_zero]
      exact List.filter_eq_self.mpr fun o ho => by simp [this o ho]
    | succ i =>
      simp only [List.getElem?_cons_succ] at h
      have hm : r ∈ rs := List.mem_of_getElem? h
      have hx : x ≠ r := fun e => hnd.1 (by rw [e]; exact List.mem_map.mpr ⟨r, hm, rfl⟩)
      simp only [List.filter_cons, hx, decide_false, Bool.not_false, if_true, List.take_succ_cons, List.drop_succ_cons, List.cons_append]
      rw [ih h hnd.2]
end
end Lw
/-! P16 -/
set_option maxHeartbeats 1000000
/-! The other text of the law's names. -/
namespace Lw
open PySem PySem.Spec PyProof.Rows L2 Fs
def nmBody2 : DS := (dsSeq (dsAsg (dN (f2 addA) [.v (dN (f2 ixK) [.k (pVar 2), .v (dN (f2 modD) [.v (dN (f2 addA) [.k (pVar 7), .v (dN (f2 mulA) [.k (pC (.int 7)), .k (pVar 5)])]), .k (pC (.int 26))])]), .v (dN slD [.k (pC (.str "z0")), .v (d1 intP (dN (f2 divD) [.k (pVar 5), .k (pC (.int 26))])), .k (pC .non)])]) (tgN 9)) (dsSeq (dsAsg (dN slD [.k (pVar 9), .k (pC .non), .v (d1 intP (dN (f2 addA) [.k (pC (.int 1)), .v (dN (f2 divD) [.k (pVar 5), .k (pC (.int 26))])]))]) (tgN 9)) (dsDrop (dApp 8 (dN (f2 addA) [.v (dN (f2 addA) [.v (dN (f2 addA) [.v (dN slD [.k (pVar 6), .k (pC .non), .k (pUn intP (pVar 4))]), .k (pVar 9)]), .v (dN slD [.k (pVar 6), .k (pUn intP (pVar 4)), .k (pC .non)])]), .v (dN slD [.k (pC (.str "z9")), .k (pC .non), .v (d1 intP (dN (f2 modD) [.k (pVar 5), .k (pC (.int 3))]))])])))))
theorem names2_eq : d_L_law_names_2 = namesAll nmBody2 := rfl
theorem rows2_eq : d_L_law_rows_2 = rwAll F_L_law_names_2 := rfl
theorem body2_sp : BodySp nmBody2 := by
  intro d0 cs n at_ f k acc x3 x9 ha hl hk hacc
  have e1 : cMul 7 (k : Int) = true := cMul_l (by decide)
  have e2 : cMod ((f : Int) + 7 * (k : Int)) 26 = true := cMod_p (by decide)
  have e3 : ((f : Int) + 7 * (k : Int)) % 26 = (((f + 7 * k) % 26 : Nat) : Int) := by omega
  have e4 := ixK_letter (i := (f + 7 * k) % 26) (by omega)
  have e6 : cDiv (k : Int) 26 = true := cDiv_p (by decide) (by decide)
  have e8 : cMod (k : Int) 3 = true := cMod_p (by decide)
  have e9 : ((k : Int) % 3) = ((k % 3 : Nat) : Int) := by omega
  have e10 : slD [.v (.str "z9"), .v .non, .v (.int ((k % 3 : Nat) : Int))] = some (.v (.str (ofC ([122, 57].take (k % 3))))) := cut_hi (cs := [122, 57]) (by simp; omega) (by simp)
  obtain ⟨t, ht, hk26⟩ : ∃ t : Nat, (k : Int) / 26 = (t : Int) ∧ (t = 0 ∧ k < 26 ∨ t = 1 ∧ ¬ k < 26) := ⟨k / 26, by omega, by omega⟩
  have e5 : slD [.v (.str "z0"), .v (.int (t : Int)), .v .non] = some (.v (.str (ofC ([122, 48].drop t)))) := cut_lo (cs := [122, 48]) (by simp; omega) (by simp)
  have e11 : addA (sg (97 + (f + 7 * k) % 26)) (.v (.str (ofC ([122, 48].drop t)))) = some (.v (.str (ofC ([97 + (f + 7 * k) % 26] ++ [122, 48].drop t)))) := add_str (a := [97 + (f + 7 * k) % 26]) (by simp; omega)
  have e7 : slD [.v (.str (ofC ([97 + (f + 7 * k) % 26] ++ [122, 48].drop t))), .v .non, .v (.int (1 + (t : Int)))] = some (.v (.str (ofC ([97 + (f + 7 * k) % 26] ++ (if k < 26 then [] else [48]))))) := by
    rw [show (1 + (t : Int)) = ((1 + t : Nat) : Int) by omega, cut_hi (by simp; omega) (by simp; omega)]
    rcases hk26 with ⟨rfl, h⟩ | ⟨rfl, h⟩ <;> simp [h]
  generalize hS : [97 + (f + 7 * k) % 26] ++ (if k < 26 then [] else [48]) = sgn at e7
  have hsl : sgn.length ≤ 2 := by rw [← hS]; split <;> simp
  have e12 := cut_hi ha (by omega)
  have e13 := cut_lo ha (by omega)
  have e14 : addA (.v (.str (ofC (cs.take at_)))) (.v (.str (ofC sgn))) = _ := add_str (by simp; omega)
  have e15 : addA (.v (.str (ofC (cs.take at_ ++ sgn)))) (.v (.str (ofC (cs.drop at_)))) = _ := add_str (by simp; omega)
  have e16 : addA (.v (.str (ofC ((cs.take at_ ++ sgn) ++ cs.drop at_)))) (.v (.str (ofC ([122, 57].take (k % 3))))) = _ := add_str (by simp; omega)
  have e17 : ((cs.take at_ ++ sgn) ++ cs.drop at_) ++ [122, 57].take (k % 3) = nmC cs at_ f k := by
    unfold nmC
    rw [← hS]
    simp
  rw [e17] at e16
  generalize hM : (f + 7 * k) % 26 = m at e3 e4 e11 e7 hS
  generalize hT3 : k % 3 = t3 at e9 e10 e16
  generalize hT : ofC ([122, 57].take t3) = tl at e10 e16
  generalize hU : ofC ([97 + m] ++ [122, 48].drop t) = sfx at e11 e7
  generalize hV : ofC ([122, 48].drop t) = sfy at e5 e11
  simp only [nmBody2]
  simp [e1, e2, e3, e4, e6, ht, e5, e11, e7]
  refine sat_app (w := .own) (xs := acc) rfl ?_
  simp [e8, e9, e10, e12, e13, e14, e15, e16, hacc, -List.append_assoc]
theorem names_sp_2 {d : D} {n : Nat} (h : IsBox d) (hn : n ≤ 52) : sat (F_L_law_names_2 [d, .int (n : Int)]) (NamesSp n) := names_gen (B := nmBody2) body2_sp h hn
theorem rows2_sp2 {d : D} {m : Nat} (h : IsBox d) (hm : m ≤ 30) : sat (F_L_law_rows_2 [d, .int (m : Int)]) (RowsSp2 m) := rows_gen (F := F_L_law_names_2) names_sp_2 h hm
end Lw
/-! A_k41 -/
set_option maxHeartbeats 1000000
/-! k41: the law. -/
namespace Lw
namespace K41
open PySem PySem.Spec PyProof.Rows L2 Fs
section
variable {s : Sl} {w w' : Fl} {rs : List Row} {a b f g : Int}
theorem rows2_spI {d : D} {m : Int} (h : IsBox d) (m0 : 0 ≤ m) (hm : m ≤ 30) : sat (F_L_law_rows_2 [d, .v (.int m)]) fun y ios => ∃ rs d', y = Lst rowD .own rs ∧ RowsOk rs ∧ ios = [some d', none] ∧ IsBox d' := by
  obtain ⟨n, rfl⟩ : ∃ n : Nat, m = (n : Int) := ⟨m.toNat, by omega⟩
  refine sat_mono (rows2_sp2 (m := n) h (by omega)) ?_
  rintro _ _ ⟨rs, d', rfl, hr, hl, rfl, hb, hn⟩
  exact ⟨rs, d', rfl, hr, rfl, hb⟩
theorem fit_eq {r : Row} (h : r.ok) : ∃ d1 d2, mkTup [D.v (.str r.nm), .v (.int (min r.a (r.b + 1)))] = some d1 ∧ slD [rowD r, .v (.int 2), .v .non] = some d2 ∧ addA d1 d2 = some (rowD r) := by
  have : min r.a (r.b + 1) = r.a := by have := h.b1; omega
  rw [this]
  exact ⟨_, _, rfl, rfl, rfl⟩
theorem fitting_c (hr : RowsOk rs) : callK F_L_law_fitting [Lst rowD w rs] s = .ok (Lst rowD .own rs) s := callK_F rfl (by
  simp [d_L_law_fitting]
  refine sat_cm (out := rowD) rowD rs id (by simp [diP]) rfl (fun r hm => ?_) (by have := hr.len; omega) ?_
  · obtain ⟨d1, d2, e1, e2, e3⟩ := fit_eq (hr.ok r hm)
    simp [e1, e2, e3]
  · simp)
theorem drawn_sp {d : D} {k : Nat} (h : IsBox d) : sat (F_L_law_drawn_2 [d, .v (.int (k : Int)), .v (.int 8)]) fun y ios => ∃ rs d', y = Lst rowD .own rs ∧ RowsOk rs ∧ ios = [some d', none, none] ∧ IsBox d' := by
  refine sat_F' rfl ?_
  simp [d_L_law_drawn_2]
  by_cases hk : k = 0
  · simp [hk, h.free]
    refine sat_mono (take_sp h (by decide) (by decide)) ?_
    rintro _ _ ⟨u, d1, rfl, rfl, u0, u1, b1⟩
    simp [b1.free]
    refine sat_mono (rows2_spI (m := if u = 0 then 30 else 8) b1 (by split <;> omega) (by split <;> omega)) ?_
    rintro _ _ ⟨rs, d2, rfl, hr, rfl, b2⟩
    simp [b2.free, FlowP, ioF]
    exact ⟨rs, rfl, hr, b2⟩
  · simp [hk, h.free, show ixK (Lst D.int .own [8, 30]) (.v (.int 0)) = some (.v (.int 8)) from rfl]
    refine sat_mono (rows2_spI (m := 8) h (by decide) (by decide)) ?_
    rintro _ _ ⟨rs, d2, rfl, hr, rfl, b2⟩
    simp [b2.free, FlowP, ioF]
    exact ⟨rs, rfl, hr, b2⟩
theorem alike_sp {d : D} (h : IsBox d) (hr : RowsOk rs) : sat (F_L_law_alike [d, Lst rowD .own rs]) fun y ios => ∃ rs d', y = Lst rowD .own rs ∧ RowsOk rs ∧ ios = [some d', none] ∧ IsBox d' := by
  refine sat_F' rfl ?_
  simp [d_L_law_alike, h.free, mkI3]
  refine sat_mono (take_sp h (by decide) (by decide)) ?_
  rintro _ _ ⟨u, d1, rfl, rfl, u0, u1, b1⟩
  by_cases hu : 0 < u
  · simp [hu, b1.free, dMv, FlowP, ioF]
    exact ⟨rs, rfl, hr, b1⟩
  · simp [hu, b1.free]
    refine sat_mono (take_sp b1 (by decide) (by decide)) ?_
    rintro _ _ ⟨v, d2, rfl, rfl, v0, v1, b2⟩
    obtain ⟨la, hla, _, e1, _⟩ := ixI_Lst (enc := D.int) (w := .own) (xs := [5, 20, 199]) (i := v) v0 (by simpa using v1)
    have hl0 : 0 ≤ la ∧ la ≤ 199 := by simp at hla; omega
    simp [b2.free, e1]
    refine sat_cmR (out := rowD) rowD rs (fun r z => z.nm = r.nm ∧ z.ok) (fun s => ∃ d, IsBox d ∧ s = [some d, some (Lst rowD .shr rs), some (.v (.int la)), none]) (s1 := [some d2, some (Lst rowD .shr rs), some (.v (.int la)), none]) (by simp [diD, dFz]) (by have := hr.len; omega) ⟨d2, b2, rfl⟩ ?_ ?_
    · rintro r s hm ⟨d, hd, rfl⟩
      have hk := hr.ok r hm
      have := hk.a0; have := hk.a1; have := hk.b0; have := hk.b1; have := hk.b2
      simp [hd.free]
      refine sat_mono (take_sp hd (by decide) (by decide)) ?_
      rintro _ _ ⟨q, d', rfl, rfl, q0, q1, hd'⟩
      obtain ⟨lb, hlb, _, e2, _⟩ := ixI_Lst (enc := D.int) (w := .own) (xs := [la, r.b]) (i := q) q0 (by simpa using q1)
      simp only [List.mem_cons, List.not_mem_nil, or_false] at hlb
      obtain ⟨t1, t2, e3, e4, e5⟩ : ∃ t1 t2, mkTup [D.v (.str r.nm), .v (.int (min r.a (la + 1))), .v (.int lb)] = some t1 ∧ slD [rowD r, .v (.int 3), .v .non] = some t2 ∧ addA t1 t2 = some (rowD ⟨r.nm, min r.a (la + 1), lb, r.l, r.k⟩) := ⟨_, _, rfl, rfl, rfl⟩
      simp [hd'.free, e2, e3, e4, e5]
      exact ⟨⟨r.nm, min r.a (la + 1), lb, r.l, r.k⟩, ⟨rfl, rfl, rfl, rfl, rfl⟩, ⟨rfl, hk.nm, by simp only; omega, by simp only; omega, by simp only; omega, by simp only; omega, by simp only; omega, hk.l0, hk.l1, hk.k0, hk.k1⟩, hd'⟩
    · rintro zs s ez hz ⟨d, hd, rfl⟩
      simp [FlowP, ioF]
      refine ⟨zs.map Prod.snd, rfl, ⟨?_, ?_, ?_⟩, hd⟩
      · have := hr.len; rw [← ez] at this; simpa using this
      · have e : (zs.map Prod.snd).map Row.nm = rs.map Row.nm := by
          rw [← ez, List.map_map, List.map_map]
          exact List.map_congr_left fun z hm => (hz z hm).1
        rw [e]; exact hr.nd
      · intro r hm
        obtain ⟨z, hm', rfl⟩ := List.mem_map.mp hm
        exact (hz z hm').2
/-- those ahead of the one at a place -/
def ahB (rs : List Row) (bi : Int) (i : Nat) (p : Row × Nat) : Bool := decide (p.1.b < bi) || (decide (p.1.b = bi) && decide (p.2 < i))
def ahN (rs : List Row) (bi : Int) (i : Nat) : List Row := ((rs.zipIdx).filter (ahB rs bi i)).map Prod.fst
theorem ahead_of_c {i : Nat} {r : Row} (hr : RowsOk rs) (hi : rs[i]? = some r) : callK F_worst_ahead_of [Pcs w rs, .v (.str r.nm)] s = .ok (Lst D.str .own ((ahN rs r.b i).map Row.nm)) s := callK_F rfl (by
  have hm := List.mem_of_getElem? hi
  have hl := hr.len
  have e0 : ixK (rowD r) (.v (.int 2)) = some (.v (.int r.b)) := rfl
  simp [d_worst_ahead_of, row_P (find_nm hr hm), e0, show mkLst [] = some (Lst D.str .own []) from rfl, diD]
  refine sat_for (I := fun pre s => ∃ y, s = [some (Pcs w rs), some (.v (.str r.nm)), some (.v (.int r.b)), some (Lst D.str .own (((pre.zipIdx).filter (ahB rs r.b i)).map fun p => p.1.nm)), some (.v (.bl (decide (i < pre.length)))), y]) (fun pre x post s e hI => ?_) ⟨_, rfl⟩ (fun s hI => ?_)
  · obtain ⟨y, rfl⟩ := hI
    have hx : rs[pre.length]? = some x := by rw [e]; simp
    have hxm : x ∈ rs := by rw [e]; simp
    have hsame : decide (x.nm = r.nm) = decide (pre.length = i) := by
      rw [Bool.eq_iff_iff]
      simp only [decide_eq_true_eq]
      constructor
      · intro en
        have h1 : (rs.map Row.nm)[pre.length]? = some x.nm := by rw [List.getElem?_map, hx]; rfl
        have h2 : (rs.map Row.nm)[i]? = some x.nm := by rw [List.getElem?_map, hi, en]; rfl
        have hlt : pre.length < (rs.map Row.nm).length := (List.getElem?_eq_some_iff.mp h1).1
        exact (List.getElem?_inj hlt hr.nd).mp (h1.trans h2.symm)
      · intro en
        rw [en, hi] at hx
        rw [Option.some.inj hx]
    have e1 := eqD_str (okS_row (hr.ok x hxm)) (okS_row (hr.ok r hm))
    have hl2 : pre.length ≤ 30 := by rw [e] at hl; simp at hl; omega
    have hp : ∀ c : Bool, (if decide (i < pre.length) then Out.ok (D.bl true) s else .ok (.v (.bl c)) s) = Out.ok (.v (.bl (decide (i < pre.length) || c))) s := fun c => by cases decide (i < pre.length) <;> rfl
    refine ⟨_, rfl, ?_⟩
    have hzip : (pre ++ [x]).zipIdx = pre.zipIdx ++ [(x, pre.length)] := by simp [List.zipIdx_append]
    have hfl : ((pre.zipIdx).filter (ahB rs r.b i)).length ≤ 30 := Nat.le_trans (List.length_filter_le _ _) (by simpa using hl2)
    by_cases hlt : i < pre.length
    · have h4 : i < pre.length + 1 := by omega
      have h5 : ¬ pre.length < i := by omega
      by_cases hb : x.b < r.b
      · simp [hlt, hb, hzip, List.filter_append, ahB, h4]
        refine sat_app' (enc := D.str) x.nm rfl (by simp) (by simp; omega) ?_
        simp [h4]
      · by_cases hq : x.b = r.b
        · simp [hlt, hb, hq, hzip, List.filter_append, ahB, h4, h5]
        · simp [hlt, hb, hq, hzip, List.filter_append, ahB, h4, h5]
    · rw [hsame] at e1
      by_cases hpi : pre.length = i
      · have h4 : i < pre.length + 1 := by omega
        have h5 : ¬ pre.length < i := by omega
        have h6 : decide (pre.length = i) = true := by simp [hpi]
        rw [h6] at e1
        by_cases hb : x.b < r.b
        · simp [hlt, e1, hb, hzip, List.filter_append, ahB, h4]
          refine sat_app' (enc := D.str) x.nm rfl (by simp) (by simp; omega) ?_
          simp [h4]
        · by_cases hq : x.b = r.b
          · simp [hlt, e1, hb, hq, hzip, List.filter_append, ahB, h4, h5]
          · simp [hlt, e1, hb, hq, hzip, List.filter_append, ahB, h4, h5]
      · have h4 : ¬ i < pre.length + 1 := by omega
        have h5 : pre.length < i := by omega
        have h6 : decide (pre.length = i) = false := by simp [hpi]
        rw [h6] at e1
        by_cases hb : x.b < r.b
        · simp [hlt, e1, hb, hzip, List.filter_append, ahB, h4, h5]
          refine sat_app' (enc := D.str) x.nm rfl (by simp) (by simp; omega) ?_
          simp [h4]
        · by_cases hq : x.b = r.b
          · simp [hlt, e1, hb, hq, hzip, List.filter_append, ahB, h4, h5]
            refine sat_app' (enc := D.str) x.nm rfl (by simp) (by simp; omega) ?_
            simp [h4]
          · simp [hlt, e1, hb, hq, hzip, List.filter_append, ahB, h4, h5]
  · obtain ⟨y, rfl⟩ := hI
    simp [dMv, ahN, Function.comp_def])
theorem lahead_c {i : Nat} {r : Row} (hr : RowsOk rs) (hi : rs[i]? = some r) : callK F_L_law_ahead [Lst rowD .shr rs, .v (.int (i : Int))] s = .ok (Lst rowD .own (ahN rs r.b i)) s := callK_F rfl (by
  have hl := hr.len
  have e0 := ix_Lst (enc := rowD) (w := .shr) hi
  simp [d_L_law_ahead, show mkLst [] = some (Lst rowD .own []) from rfl, diP, it_En (enc := rowD) (w := .shr) (xs := rs) (p := false) (.inr (by decide))]
  refine sat_for (I := fun pre s => ∃ y z, s = [some (Lst rowD .shr rs), some (.v (.int (i : Int))), some (Lst rowD .own ((pre.filter (ahB rs r.b i)).map Prod.fst)), y, z]) (fun pre p post s e hI => ?_) ⟨_, _, rfl⟩ (fun s hI => ?_)
  · obtain ⟨y, z, rfl⟩ := hI
    have hpl : pre.length ≤ 30 := by
      have := congrArg List.length e
      simp at this; omega
    have hfl : (pre.filter (ahB rs r.b i)).length ≤ 30 := Nat.le_trans (List.length_filter_le _ _) hpl
    refine ⟨_, tgT_2 rfl rfl, ?_⟩
    by_cases hb : p.1.b < r.b
    · simp [e0, hb, ahB]
      refine sat_app' (enc := rowD) p.1 rfl (by simp) (by simp; omega) ?_
      simp
    · by_cases hq : p.1.b = r.b
      · by_cases hj : p.2 < i
        · simp [e0, hb, hq, hj, ahB]
          refine sat_app' (enc := rowD) p.1 rfl (by simp) (by simp; omega) ?_
          simp
        · simp [e0, hb, hq, hj, ahB]
      · simp [e0, hb, hq, ahB]
  · obtain ⟨y, z, rfl⟩ := hI
    simp [dMv, ahN])
/-! what is refused -/
def noName : D → Prop := fun t => isiD "str" t = some (.v (.bl false)) ∨ ∃ z, t = .v (.str z) ∧ nameB z.cps.toList = false
theorem refused_row {t : D} (hr : RowsOk rs) (hk : t.kept = true) (hn : noName t) : callK F_worst_ahead_of [Pcs w rs, t] s = .exc 3 [t] s := by
  have hhas : ∀ s w, callK F_pieces_Pieces_has [Pcs w rs, t] s = .ok (.v (.bl false)) s := fun s w => by
    rcases hn with h | ⟨z, rfl, hz⟩
    · exact callK_F rfl (by simp [d_pieces_Pieces_has, h])
    · have : (rs.find? fun r => decide (r.nm = z)) = none := by
        rw [List.find?_eq_none]
        intro r hm
        simp only [decide_eq_true_eq]
        rintro rfl
        rw [(hr.ok r hm).nm] at hz
        cases hz
      have h2 := has_c (s := s) (w := w) (rs := rs) (z := z)
      rw [this] at h2
      exact h2
  have hl : lend t = t := lend_kept hk
  have hf : Option.filter D.kept (some t) = some t := by simp [Option.filter, hk]
  have hrow : ∀ s w, callK F_pieces_Pieces_row [Pcs w rs, t] s = .exc 3 [t] s := fun s w => by
    refine callK_X (s' := [some (Pcs w rs), some t]) rfl ?_
    simp [d_pieces_Pieces_row, hl, hhas, hf]
  refine callK_X (s' := [some (Pcs w rs), some t, none, none, none, none]) rfl ?_
  simp [d_worst_ahead_of, hl, hrow]
theorem refused_c {t : D} {z : Str} (hr : RowsOk rs) (hk : t.kept = true) (hn : noName t) (hz : reprD t = some (.v (.str z))) : callK F_L_law_refused [Pcs w rs, t] s = .ok (.v (.bl true)) s := callK_F rfl (by
  have hl : lend t = t := lend_kept hk
  simp [d_L_law_refused, hl, refused_row hr hk hn, tryK_exc, hk, pick, okI, wipeI, Out.behind, hz, eqTx])
def things : List {d : D // d.kept = true} := [⟨.v .non, rfl⟩, ⟨.v (.int 7), rfl⟩, ⟨.n .lst .shr [], rfl⟩, ⟨.v (.str ""), rfl⟩, ⟨.v (.str "q.q"), rfl⟩, ⟨.v (.bl true), rfl⟩, ⟨.n .tup .shr [.v (.str "a")], rfl⟩, ⟨.n (.dct []) .shr [], rfl⟩]
theorem things_mk : mkLst [.v .non, .v (.int 7), .n .lst .own [], .v (.str ""), .v (.str "q.q"), .v (.bl true), .n .tup .shr [.v (.str "a")], .n (.dct []) .own []] = some (Lst kdE .own things) := rfl
theorem things_ok : ∀ x ∈ things, noName x.1 ∧ ∃ z, reprD x.1 = some (.v (.str z)) := by
  intro x hx
  simp only [things, List.mem_cons, List.not_mem_nil, or_false] at hx
  rcases hx with rfl | rfl | rfl | rfl | rfl | rfl | rfl | rfl
  · exact ⟨.inl rfl, _, rfl⟩
  · exact ⟨.inl rfl, _, rfl⟩
  · exact ⟨.inl rfl, _, rfl⟩
  · exact ⟨.inr ⟨_, rfl, by decide +kernel⟩, _, repr_of (d := .str "") rfl (by decide +kernel)⟩
  · exact ⟨.inr ⟨_, rfl, by decide +kernel⟩, _, repr_of (d := .str "q.q") rfl (by decide +kernel)⟩
  · exact ⟨.inl rfl, _, rfl⟩
  · exact ⟨.inl rfl, _, repr_of (d := .tuple [.str "a"]) rfl (by decide +kernel)⟩
  · exact ⟨.inl rfl, _, rfl⟩
theorem main (ns : List Int) (hns : ns.length ≤ 63) : sat (F_law_k41 [.s ns]) fun y _ => y = .bl true := by
  refine sat_F' rfl ?_
  simp [d_law_k41, diD, len_scr, itR_I (i := max 2 (min (ns.length : Int) 10)) (by omega) (by omega)]
  refine sat_for (I := fun _ s => ∃ x1 x2 x3 x4 x5 x6 x7 x9, s = [some (.s ns), x1, x2, x3, x4, x5, x6, x7, none, x9]) (fun pre k post s e h => ?_) ⟨_, _, _, _, _, _, _, _, rfl⟩ (fun s h => ?_)
  · obtain ⟨x1, x2, x3, x4, x5, x6, x7, x9, rfl⟩ := h
    have hk : k ≤ 100 := by
      have : k ∈ List.range (max 2 (min (ns.length : Int) 10)).toNat := by rw [e]; simp
      simp at this; omega
    refine ⟨_, rfl, ?_⟩
    simp [natE]
    refine sat_call (sat_mono (cell_sp ns k hk) ?_)
    rintro _ _ ⟨i, rfl⟩
    simp
    refine sat_call (sat_mono (box_sp i) ?_)
    rintro d _ hb
    simp [hb.free]
    refine sat_mono (drawn_sp (k := k) hb) ?_
    rintro _ _ ⟨rs0, d1, rfl, hr0, rfl, b1⟩
    simp [b1.free]
    refine sat_mono (alike_sp b1 hr0) ?_
    rintro _ _ ⟨rs, d2, rfl, hr, rfl, b2⟩
    simp [b2.free]
    refine sat_mono (sat_pure (fitting_c hr)) ?_
    rintro _ _ ⟨rfl, rfl⟩
    simp [-dsSeq_c]
    refine sat_seq (R := fun s => s = [some (.s ns), some (.v (.int k)), some d2, some (Lst rowD .own rs), some (Pcs .own rs), x5, x6, x7, none, x9]) (by simp [mk_P hr]) ?_
    rintro _ rfl
    refine sat_seq (R := fun s => ∃ x5 x6 x7 x9, s = [some (.s ns), some (.v (.int k)), some d2, some (Lst rowD .shr rs), some (Pcs .own rs), x5, x6, x7, none, x9]) ?_ ?_
    · simp [diD, dFz, it_En (enc := rowD) (xs := rs) (p := true) (.inl rfl)]
      refine sat_for (I := fun pre s => ∃ x5 x6 x7 x9, s = [some (.s ns), some (.v (.int k)), some d2, some (Lst rowD .shr rs), some (Pcs .own rs), x5, x6, x7, none, x9]) (fun pre p post s e hI => ?_) ⟨_, _, _, _, rfl⟩ (fun s hI => ⟨rfl, hI⟩)
      obtain ⟨x5, x6, x7, x9, rfl⟩ := hI
      obtain ⟨h1, h2, h3⟩ := zip_split e
      have hi : rs[p.2]? = some p.1 := by rw [h1, h2]; simp
      have hal : (ahN rs p.1.b p.2).length ≤ 30 := by
        have := List.length_filter_le (ahB rs p.1.b p.2) rs.zipIdx
        have h4 := hr.len
        simp [ahN] at this ⊢; omega
      have hok : ∀ z ∈ (ahN rs p.1.b p.2).map Row.nm, okS z := fun z hz => by
        obtain ⟨r, hm, rfl⟩ := List.mem_map.mp hz
        obtain ⟨q, hq, rfl⟩ := List.mem_map.mp hm
        have := (List.mem_zipIdx' (List.mem_filter.mp hq).1)
        exact okS_row (hr.ok q.1 (by rw [this.2]; exact List.getElem_mem _))
      refine ⟨_, tgT_2 rfl rfl, ?_⟩
      simp
      refine sat_cm (out := D.str) rowD (ahN rs p.1.b p.2) Row.nm (by simp [diD, lahead_c hr hi]) rfl (fun r _ => by simp) (by omega) ?_
      have e1 := ne_Lst (enc := D.str) (w := .own) (w' := .own) hok hok
      simp [ahead_of_c hr hi, e1]
      refine sat_app' (enc := D.str) "q.q" rfl (by simp) (by simp; omega) ?_
      simp [ahead_of_c hr hi, e1]
    · rintro _ ⟨x5, x6, x7, x9, rfl⟩
      simp [show mkLst [] = some (.n .lst .own []) from rfl, show mkTup [D.v (.str "a")] = some (.n .tup .shr [.v (.str "a")]) from rfl, dDict0, things_mk, b2.free]
      refine sat_mono (take_sp b2 (by decide) (by decide)) ?_
      rintro _ _ ⟨u, d3, rfl, rfl, u0, u1, b3⟩
      obtain ⟨x, hx, _, e1, _⟩ := ixI_Lst (enc := kdE) (w := .own) (xs := things) (i := u) u0 (by simpa [things] using u1)
      obtain ⟨h1, z, h2⟩ := things_ok x hx
      simp [b3.free, e1]
      refine sat_mono (sat_pure (refused_c (t := kdE x) hr x.2 h1 h2)) ?_
      rintro _ _ ⟨rfl, rfl⟩
      simp
  · obtain ⟨x1, x2, x3, x4, x5, x6, x7, x9, rfl⟩ := h
    simp [FlowP]
end
end K41
theorem law_true_k41 (ns : List Int) (h : ns.length ≤ 63) : ∃ s, F_law_k41 [.s ns] = .ok (.bl true) s := Fs.law_of (K41.main ns h)
end Lw
/-! E_k41 -/
set_option maxHeartbeats 0
namespace Lw
open PySem PySem.Spec PyProof.Rows L2 Fs
abbrev s_BadPieces___init__ : Stmt := mth 3 0
theorem ini_BadPieces {P : Program} {w : World} {K : PySem.W.Frag} {mg : Str → Option Value} {base : Heap} {f CB : Addr} {fd : FuncData} (B : BaseI K CB) (hm : mg "SlackError" = some (.ref CB)) (Fd : FunD K "__init__" "BadPieces.__init__" (defArgs s_BadPieces___init__) (defBody s_BadPieces___init__) (defScope s_BadPieces___init__) [] [] f fd) : FnOk P w K mg base (L2.CX P w) 1 f fd ["self", "at", "why"] (spIni K ["at", "why"]) :=
  fn_ini2 (N := ["self", "at", "why"]) (m := "refused") (k := 0) Fd ⟨rfl, rfl, rfl, by decide +kernel, rfl, by decide +kernel, by decide +kernel⟩ rfl fun cdv A outer s H E => pss_cons (ps_expr (pe_oinit B rfl hm (pa_cons (pv 0) (pa_cons pe_str pa_nil)))) (pss_cons (ps_ost (pv 0) (pv 1)) (pss_one (ps_ost (pv 0) (pv 2))))
abbrev s_NoPiece___init__ : Stmt := mth 4 0
theorem ini_NoPiece {P : Program} {w : World} {K : PySem.W.Frag} {mg : Str → Option Value} {base : Heap} {f CB : Addr} {fd : FuncData} (B : BaseI K CB) (hm : mg "SlackError" = some (.ref CB)) (Fd : FunD K "__init__" "NoPiece.__init__" (defArgs s_NoPiece___init__) (defBody s_NoPiece___init__) (defScope s_NoPiece___init__) [] [] f fd) : FnOk P w K mg base (L2.CX P w) 1 f fd ["self", "found"] (spIni K ["found"]) :=
  fn_ini1 (N := ["self", "found"]) (m := "refused") (k := 0) Fd ⟨rfl, rfl, rfl, by decide +kernel, rfl, by decide +kernel, by decide +kernel⟩ rfl fun cdv A outer s H E => pss_cons (ps_expr (pe_oinit B rfl hm (pa_cons (pv 0) (pa_cons pe_str pa_nil)))) (pss_one (ps_ost (pv 0) (pv 1)))
def h__law_box : He.DefD := ⟨("_law_box", none), "_law_box", "_law_box", defArgs s__law_box, defBody s__law_box, defScope s__law_box, [], []⟩
def h__law_fitting : He.DefD := ⟨("_law_fitting", none), "_law_fitting", "_law_fitting", defArgs s__law_fitting, defBody s__law_fitting, defScope s__law_fitting, [], []⟩
def h_is_whole : He.DefD := ⟨("is_whole", none), "is_whole", "is_whole", defArgs s_is_whole, defBody s_is_whole, defScope s_is_whole, [], []⟩
def h_is_within : He.DefD := ⟨("is_within", none), "is_within", "is_within", defArgs s_is_within, defBody s_is_within, defScope s_is_within, [], []⟩
def h_window_fault : He.DefD := ⟨("window_fault", none), "window_fault", "window_fault", defArgs s_window_fault, defBody s_window_fault, defScope s_window_fault, [], []⟩
def h_is_name : He.DefD := ⟨("is_name", none), "is_name", "is_name", defArgs s_is_name, defBody s_is_name, defScope s_is_name, [], []⟩
def h_row_fault : He.DefD := ⟨("row_fault", none), "row_fault", "row_fault", defArgs s_row_fault, defBody s_row_fault, defScope s_row_fault, [], []⟩
def h_five_of : He.DefD := ⟨("five_of", none), "five_of", "five_of", defArgs s_five_of, defBody s_five_of, defScope s_five_of, [], []⟩
def h_five_rows : He.DefD := ⟨("five_rows", none), "five_rows", "five_rows", defArgs s_five_rows, defBody s_five_rows, defScope s_five_rows, [], []⟩
def h_Pieces___init__ : He.DefD := ⟨("Pieces", some "__init__"), "__init__", "Pieces.__init__", defArgs s_Pieces___init__, defBody s_Pieces___init__, defScope s_Pieces___init__, [], []⟩
def h__law_cell : He.DefD := ⟨("_law_cell", none), "_law_cell", "_law_cell", defArgs s__law_cell, defBody s__law_cell, defScope s__law_cell, [], []⟩
def h__law_take : He.DefD := ⟨("_law_take", none), "_law_take", "_law_take", defArgs s__law_take, defBody s__law_take, defScope s__law_take, [], []⟩
def h__law_alike : He.DefD := ⟨("_law_alike", none), "_law_alike", "_law_alike", defArgs s__law_alike, defBody s__law_alike, defScope s__law_alike, [], []⟩
def h_Pieces_told : He.DefD := ⟨("Pieces", some "told"), "told", "Pieces.told", defArgs s_Pieces_told, defBody s_Pieces_told, defScope s_Pieces_told, [], []⟩
def h_Pieces_has : He.DefD := ⟨("Pieces", some "has"), "has", "Pieces.has", defArgs s_Pieces_has, defBody s_Pieces_has, defScope s_Pieces_has, [], []⟩
def h_Pieces_row : He.DefD := ⟨("Pieces", some "row"), "row", "Pieces.row", defArgs s_Pieces_row, defBody s_Pieces_row, defScope s_Pieces_row, [], []⟩
def h_ahead_of : He.DefD := ⟨("ahead_of", none), "ahead_of", "ahead_of", defArgs s_ahead_of, defBody s_ahead_of, defScope s_ahead_of, [], []⟩
def h__law_refused : He.DefD := ⟨("_law_refused", none), "_law_refused", "_law_refused", defArgs s__law_refused, defBody s__law_refused, defScope s__law_refused, [], []⟩
def h__law_names : He.DefD := ⟨("_law_names", none), "_law_names", "_law_names", defArgs s__law_names, defBody s__law_names, defScope s__law_names, [], []⟩
def h__law_rows : He.DefD := ⟨("_law_rows", none), "_law_rows", "_law_rows", defArgs s__law_rows, defBody s__law_rows, defScope s__law_rows, [], []⟩
def h__law_drawn : He.DefD := ⟨("_law_drawn", none), "_law_drawn", "_law_drawn", defArgs s__law_drawn, defBody s__law_drawn, defScope s__law_drawn, [], []⟩
def h__law_ahead : He.DefD := ⟨("_law_ahead", none), "_law_ahead", "_law_ahead", defArgs s__law_ahead, defBody s__law_ahead, defScope s__law_ahead, [], []⟩
def h_law : He.DefD := ⟨("law", none), "law", "law", defArgs s_law, defBody s_law, defScope s_law, [], []⟩
def h_BadPieces___init__ : He.DefD := ⟨("BadPieces", some "__init__"), "__init__", "BadPieces.__init__", defArgs s_BadPieces___init__, defBody s_BadPieces___init__, defScope s_BadPieces___init__, [], []⟩
def h_NoPiece___init__ : He.DefD := ⟨("NoPiece", some "__init__"), "__init__", "NoPiece.__init__", defArgs s_NoPiece___init__, defBody s_NoPiece___init__, defScope s_NoPiece___init__, [], []⟩
def fn : List He.DefD := [h__law_box, h__law_fitting, h_is_whole, h_is_within, h_window_fault, h_is_name, h_row_fault, h_five_of, h_five_rows, h_Pieces___init__, h__law_cell, h__law_take, h__law_alike, h_Pieces_told, h_Pieces_has, h_Pieces_row, h_ahead_of, h__law_refused, h__law_names, h__law_rows, h__law_drawn, h__law_ahead, h_law, h_BadPieces___init__, h_NoPiece___init__]
def chk : List Lk := [lkFa (.glo "_law_box"), lkFa (.glo "_law_fitting"), lkFa (.glo "is_whole"), lkFa (.glo "is_within"), lkFa (.glo "window_fault"), lkFa (.glo "is_name"), lkFa (.glo "row_fault"), lkFa (.glo "five_of"), lkFa (.glo "five_rows"), lkFa (.glo "_law_cell"), lkFa (.glo "_law_take"), lkFa (.glo "_law_alike"), lkFa (.glo "ahead_of"), lkFa (.glo "_law_refused"), lkFa (.glo "_law_names"), lkFa (.glo "_law_rows"), lkFa (.glo "_law_drawn"), lkFa (.glo "_law_ahead"), lkFa (.glo "law"), lkFa (.glo "BadPieces"), lkFa (.glo "NoPiece"), lkFa (.glo "Pieces"), lkFa (.glo "SlackError"), lkFa (.free "all"), lkFa (.free "bool"), lkFa (.free "enumerate"), lkFa (.free "int"), lkFa (.free "isinstance"), lkFa (.free "len"), lkFa (.free "list"), lkFa (.free "max"), lkFa (.free "min"), lkFa (.free "range"), lkFa (.free "repr"), lkFa (.free "str"), lkFa (.free "tuple"), lkFa (.str "FIGURES" "0123456789"), lkFa (.str "LETTERS" "abcdefghijklmnopqrstuvwxyz"), lkFa (.int "LONGEST_NAME" 8), lkFa (.int "MOST_LENGTH" 12), lkFa (.int "MOST_PIECES" 30), lkFa (.int "MOST_TURN" 199), lkFa (.cls "Pieces"), lkFa (.noat "Pieces" "fives"), lkFa (.meth "Pieces" "has"), lkFa (.meth "Pieces" "row"), lkFa (.meth "Pieces" "told"), lkFa (.mkr "Pieces"), fun K => oexB K (He.ga K "BadPieces"), fun K => iniB K (He.ga K "BadPieces"), lkFa (.noat "BadPieces" "at"), lkFa (.noat "BadPieces" "why"), fun K => oexB K (He.ga K "NoPiece"), fun K => iniB K (He.ga K "NoPiece"), lkFa (.noat "NoPiece" "found"), fun K => xfB K (He.ga K "NoPiece"), fun K => decide (PySem.W.findIn K (.ref (He.ga K "NoPiece")) "found" = some none), fun K => decide (PySem.W.exmOne K (.ref (He.ga K "NoPiece")) (.ref (He.ga K "NoPiece")) = some true), fun K => baseB K (He.ga K "SlackError")]
abbrev R : PySem.W.OpenRow := PySem.W.OpenLaw.row PySem.Challenge.rw_failslack_k41_who_goes_ahead
abbrev hk : PySem.W.Hook := hookX 6 chk fn
def ob (s : PySem.W.SharedT) : He.AlD := obsXG 6 chk fn (HandSHeadRun.getT s)
theorem ob_eq (s : PySem.W.SharedT) : ob s = hk.obs s.abs := obsXG_eq (HandSHeadRun.getT_eq s)
def loose : List Str := ([("_wall" : Str), ("SlackError" : Str), ("BadPieces" : Str), ("NoPiece" : Str), ("FIGURES" : Str), ("LETTERS" : Str), ("LONGEST_NAME" : Str), ("is_whole" : Str)] : List Str) ++ ([("is_within" : Str), ("is_name" : Str), ("ahead_of" : Str), ("MOST_PIECES" : Str), ("MOST_TURN" : Str), ("MOST_LENGTH" : Str), ("window_fault" : Str), ("row_fault" : Str)] : List Str) ++ ([("five_of" : Str), ("five_rows" : Str), ("Pieces" : Str), ("_law_cell" : Str), ("_law_box" : Str), ("_law_take" : Str), ("_law_names" : Str), ("_law_rows" : Str)] : List Str) ++ ([("_law_drawn" : Str), ("_law_ahead" : Str), ("_law_refused" : Str), ("_law_alike" : Str), ("_law_fitting" : Str)] : List Str)
theorem run (w : World) : HandSHeadRun.RunEq R (PySem.W.view R.prog [34]) hk ob 3000 loose w := by
  intro os
  kernel_rfl
theorem facts {P : Program} {w : World} {K : PySem.W.Frag} {h : Heap} {mg : Str → Option Value} {f : Addr} (X : K.In h) (G : h.Ns mainGlobals mg) (hfa : mg ("law" : Str) = some (.ref f)) (c : SaysX chk fn K) :
    ∃ fd : FuncData, (∀ (s : Shared) (v : Value), BindsTo s fd ⟨[v], []⟩ [("_law_script", v)]) ∧ ∀ base : Heap, K.In base → base.Ns mainGlobals mg → FnG P w K mg base (L2.CX P w) 8 f fd ["_law_script"] (spF (clG K) xfG 1 F_law_k41) := by
  have T : Tx (clG K) mg := ⟨He.free_ok X G (c.fact 23), He.free_ok X G (c.fact 24), He.free_ok X G (c.fact 25), He.free_ok X G (c.fact 26), He.free_ok X G (c.fact 27), He.free_ok X G (c.fact 28), He.free_ok X G (c.fact 29), He.free_ok X G (c.fact 30), He.free_ok X G (c.fact 31), He.free_ok X G (c.fact 32), He.free_ok X G (c.fact 33), He.free_ok X G (c.fact 34), He.free_ok X G (c.fact 35), (let ⟨t, ht⟩ := He.str_ok X G (c.fact 36); ⟨_, ht, t, rfl⟩), (let ⟨t, ht⟩ := He.str_ok X G (c.fact 37); ⟨_, ht, t, rfl⟩), (let ⟨t, ht⟩ := He.int_ok X G (c.fact 38); ⟨_, ht, t, rfl⟩), (let ⟨t, ht⟩ := He.int_ok X G (c.fact 39); ⟨_, ht, t, rfl⟩), (let ⟨t, ht⟩ := He.int_ok X G (c.fact 40); ⟨_, ht, t, rfl⟩), (let ⟨t, ht⟩ := He.int_ok X G (c.fact 41); ⟨_, ht, t, rfl⟩), He.cls_ok (x := "Pieces") (c.fact 42), He.noat_ok (x := "Pieces") (c.fact 43), He.glo_ok X G (c.fact 20), xfB_ok (c.fact 55), of_decide_eq_true (c.fact 56), of_decide_eq_true (c.fact 57)⟩
  obtain ⟨fd__law_box, D__law_box⟩ := c.def_ 0 (d := h__law_box)
  have g__law_box := He.glo_ok X G (c.fact 0)
  obtain ⟨fd__law_fitting, D__law_fitting⟩ := c.def_ 1 (d := h__law_fitting)
  have g__law_fitting := He.glo_ok X G (c.fact 1)
  obtain ⟨fd_is_whole, D_is_whole⟩ := c.def_ 2 (d := h_is_whole)
  have g_is_whole := He.glo_ok X G (c.fact 2)
  obtain ⟨fd_is_within, D_is_within⟩ := c.def_ 3 (d := h_is_within)
  have g_is_within := He.glo_ok X G (c.fact 3)
  obtain ⟨fd_window_fault, D_window_fault⟩ := c.def_ 4 (d := h_window_fault)
  have g_window_fault := He.glo_ok X G (c.fact 4)
  obtain ⟨fd_is_name, D_is_name⟩ := c.def_ 5 (d := h_is_name)
  have g_is_name := He.glo_ok X G (c.fact 5)
  obtain ⟨fd_row_fault, D_row_fault⟩ := c.def_ 6 (d := h_row_fault)
  have g_row_fault := He.glo_ok X G (c.fact 6)
  obtain ⟨fd_five_of, D_five_of⟩ := c.def_ 7 (d := h_five_of)
  have g_five_of := He.glo_ok X G (c.fact 7)
  obtain ⟨fd_five_rows, D_five_rows⟩ := c.def_ 8 (d := h_five_rows)
  have g_five_rows := He.glo_ok X G (c.fact 8)
  obtain ⟨fd_Pieces___init__, D_Pieces___init__⟩ := c.def_ 9 (d := h_Pieces___init__)
  obtain ⟨fd__law_cell, D__law_cell⟩ := c.def_ 10 (d := h__law_cell)
  have g__law_cell := He.glo_ok X G (c.fact 9)
  obtain ⟨fd__law_take, D__law_take⟩ := c.def_ 11 (d := h__law_take)
  have g__law_take := He.glo_ok X G (c.fact 10)
  obtain ⟨fd__law_alike, D__law_alike⟩ := c.def_ 12 (d := h__law_alike)
  have g__law_alike := He.glo_ok X G (c.fact 11)
  obtain ⟨fd_Pieces_told, D_Pieces_told⟩ := c.def_ 13 (d := h_Pieces_told)
  obtain ⟨fd_Pieces_has, D_Pieces_has⟩ := c.def_ 14 (d := h_Pieces_has)
  obtain ⟨fd_Pieces_row, D_Pieces_row⟩ := c.def_ 15 (d := h_Pieces_row)
  obtain ⟨fd_ahead_of, D_ahead_of⟩ := c.def_ 16 (d := h_ahead_of)
  have g_ahead_of := He.glo_ok X G (c.fact 12)
  obtain ⟨fd__law_refused, D__law_refused⟩ := c.def_ 17 (d := h__law_refused)
  have g__law_refused := He.glo_ok X G (c.fact 13)
  obtain ⟨fd__law_names, D__law_names⟩ := c.def_ 18 (d := h__law_names)
  have g__law_names := He.glo_ok X G (c.fact 14)
  obtain ⟨fd__law_rows, D__law_rows⟩ := c.def_ 19 (d := h__law_rows)
  have g__law_rows := He.glo_ok X G (c.fact 15)
  obtain ⟨fd__law_drawn, D__law_drawn⟩ := c.def_ 20 (d := h__law_drawn)
  have g__law_drawn := He.glo_ok X G (c.fact 16)
  obtain ⟨fd__law_ahead, D__law_ahead⟩ := c.def_ 21 (d := h__law_ahead)
  have g__law_ahead := He.glo_ok X G (c.fact 17)
  obtain ⟨fd_law, D_law⟩ := c.def_ 22 (d := h_law)
  have g_law := He.glo_ok X G (c.fact 18)
  obtain ⟨fd_BadPieces___init__, D_BadPieces___init__⟩ := c.def_ 23 (d := h_BadPieces___init__)
  obtain ⟨fd_NoPiece___init__, D_NoPiece___init__⟩ := c.def_ 24 (d := h_NoPiece___init__)
  have e := hfa.symm.trans g_law
  cases e
  have bl := FunD.bindsA (ps := ["_law_script"]) D_law fun _ _ _ _ _ _ us hl => match us, hl with | [_], _ => rfl
  refine ⟨fd_law, fun s v => bl s [v] rfl, fun base _ _ => ?_⟩
  have b_BadPieces___init__ : Binds K fd_BadPieces___init__ ["self", "at", "why"] [] := D_BadPieces___init__.bindsN fun _ _ _ _ _ _ us hl => match us, hl with | [_, _, _], _ => rfl
  have X_BadPieces : Xc (clG K) xfG P w K mg base "BadPieces" 1 1 := ⟨He.glo_ok X G (c.fact 19), oexB_ok (c.fact 48), ⟨_, _, _, of_decide_eq_true (He.ba (c.fact 49)).1, of_decide_eq_true (He.ba (c.fact 49)).2, ini_BadPieces (baseB_ok (c.fact 58)) (He.glo_ok X G (c.fact 22)) D_BadPieces___init__, b_BadPieces___init__⟩, fun f hf => by simp only [xfG, List.mem_cons, List.not_mem_nil, or_false] at hf; rcases hf with rfl | rfl <;> first | exact He.noat_ok (x := "BadPieces") (c.fact 50) | exact He.noat_ok (x := "BadPieces") (c.fact 51), by decide⟩
  have b_NoPiece___init__ : Binds K fd_NoPiece___init__ ["self", "found"] [] := D_NoPiece___init__.bindsN fun _ _ _ _ _ _ us hl => match us, hl with | [_, _], _ => rfl
  have X_NoPiece : Xc (clG K) xfG P w K mg base "NoPiece" 3 1 := ⟨He.glo_ok X G (c.fact 20), oexB_ok (c.fact 52), ⟨_, _, _, of_decide_eq_true (He.ba (c.fact 53)).1, of_decide_eq_true (He.ba (c.fact 53)).2, ini_NoPiece (baseB_ok (c.fact 58)) (He.glo_ok X G (c.fact 22)) D_NoPiece___init__, b_NoPiece___init__⟩, fun f hf => by simp only [xfG, List.mem_cons, List.not_mem_nil, or_false] at hf; rcases hf with rfl <;> first | exact He.noat_ok (x := "NoPiece") (c.fact 54), by decide⟩
  have b__law_box : Binds K fd__law_box ["_law_cell_here"] [] := D__law_box.bindsN fun _ _ _ _ _ _ us hl => match us, hl with | [_], _ => rfl
  have H__law_box : Fn (clG K) xfG P w K mg base "_law_box" 1 1 F_L_law_box := ⟨_, _, _, ok__law_box rfl rfl T D__law_box , g__law_box, D__law_box.kp, b__law_box⟩
  have b__law_fitting : Binds K fd__law_fitting ["_law_rows_here"] [] := D__law_fitting.bindsN fun _ _ _ _ _ _ us hl => match us, hl with | [_], _ => rfl
  have H__law_fitting : Fn (clG K) xfG P w K mg base "_law_fitting" 1 1 F_L_law_fitting := ⟨_, _, _, ok__law_fitting rfl rfl T D__law_fitting , g__law_fitting, D__law_fitting.kp, b__law_fitting⟩
  have b_is_whole : Binds K fd_is_whole ["thing"] [] := D_is_whole.bindsN fun _ _ _ _ _ _ us hl => match us, hl with | [_], _ => rfl
  have H_is_whole : Fn (clG K) xfG P w K mg base "is_whole" 1 1 F_words_is_whole := ⟨_, _, _, ok_is_whole rfl rfl T D_is_whole , g_is_whole, D_is_whole.kp, b_is_whole⟩
  have b_is_within : Binds K fd_is_within ["thing", "low", "high"] [] := D_is_within.bindsN fun _ _ _ _ _ _ us hl => match us, hl with | [_, _, _], _ => rfl
  have H_is_within : Fn (clG K) xfG P w K mg base "is_within" 2 3 F_words_is_within := ⟨_, _, _, ok_is_within rfl rfl T D_is_within H_is_whole, g_is_within, D_is_within.kp, b_is_within⟩
  have b_window_fault : Binds K fd_window_fault ["row"] [] := D_window_fault.bindsN fun _ _ _ _ _ _ us hl => match us, hl with | [_], _ => rfl
  have H_window_fault : Fn (clG K) xfG P w K mg base "window_fault" 3 1 F_pieces_window_fault := ⟨_, _, _, ok_window_fault rfl rfl T D_window_fault H_is_within, g_window_fault, D_window_fault.kp, b_window_fault⟩
  have b_is_name : Binds K fd_is_name ["thing"] [] := D_is_name.bindsN fun _ _ _ _ _ _ us hl => match us, hl with | [_], _ => rfl
  have H_is_name : Fn (clG K) xfG P w K mg base "is_name" 1 1 F_words_is_name := ⟨_, _, _, ok_is_name rfl rfl T D_is_name , g_is_name, D_is_name.kp, b_is_name⟩
  have b_row_fault : Binds K fd_row_fault ["known", "row"] [] := D_row_fault.bindsN fun _ _ _ _ _ _ us hl => match us, hl with | [_, _], _ => rfl
  have H_row_fault : Fn (clG K) xfG P w K mg base "row_fault" 4 2 F_pieces_row_fault := ⟨_, _, _, ok_row_fault rfl rfl T D_row_fault H_is_name H_window_fault, g_row_fault, D_row_fault.kp, b_row_fault⟩
  have b_five_of : Binds K fd_five_of ["row"] [] := D_five_of.bindsN fun _ _ _ _ _ _ us hl => match us, hl with | [_], _ => rfl
  have H_five_of : Fn (clG K) xfG P w K mg base "five_of" 1 1 F_pieces_five_of := ⟨_, _, _, ok_five_of rfl rfl T D_five_of , g_five_of, D_five_of.kp, b_five_of⟩
  have b_five_rows : Binds K fd_five_rows ["rows"] [] := D_five_rows.bindsN fun _ _ _ _ _ _ us hl => match us, hl with | [_], _ => rfl
  have H_five_rows : Fn (clG K) xfG P w K mg base "five_rows" 5 1 F_pieces_five_rows := ⟨_, _, _, ok_five_rows rfl rfl T D_five_rows H_row_fault H_five_of X_BadPieces, g_five_rows, D_five_rows.kp, b_five_rows⟩
  have b_Pieces___init__ : Binds K fd_Pieces___init__ ["self", "rows"] [] := D_Pieces___init__.bindsN fun _ _ _ _ _ _ us hl => match us, hl with | [_, _], _ => rfl
  have K_Pieces : Kc (clG K) xfG P w K mg base "Pieces" 20 6 2 F_pieces_Pieces___init__ := ⟨⟨_, _, _, ok_Pieces___init__ rfl rfl T D_Pieces___init__ H_five_rows, He.mkr_ok (x := "Pieces") (c.fact 47), b_Pieces___init__⟩, He.glo_ok X G (c.fact 21)⟩
  have b__law_cell : Binds K fd__law_cell ["_law_script", "_law_k"] [] := D__law_cell.bindsN fun _ _ _ _ _ _ us hl => match us, hl with | [_, _], _ => rfl
  have H__law_cell : Fn (clG K) xfG P w K mg base "_law_cell" 1 2 F_L_law_cell := ⟨_, _, _, ok__law_cell rfl rfl T D__law_cell , g__law_cell, D__law_cell.kp, b__law_cell⟩
  have b__law_take : Binds K fd__law_take ["_law_box_here", "_law_many"] [] := D__law_take.bindsN fun _ _ _ _ _ _ us hl => match us, hl with | [_, _], _ => rfl
  have H__law_take : Fn (clG K) xfG P w K mg base "_law_take" 1 2 F_L_law_take := ⟨_, _, _, ok__law_take rfl rfl T D__law_take , g__law_take, D__law_take.kp, b__law_take⟩
  have b__law_alike : Binds K fd__law_alike ["_law_box_here", "_law_rows_here"] [] := D__law_alike.bindsN fun _ _ _ _ _ _ us hl => match us, hl with | [_, _], _ => rfl
  have H__law_alike : Fn (clG K) xfG P w K mg base "_law_alike" 2 2 F_L_law_alike := ⟨_, _, _, ok__law_alike rfl rfl T D__law_alike H__law_take, g__law_alike, D__law_alike.kp, b__law_alike⟩
  have b_Pieces_told : Binds K fd_Pieces_told ["self"] [] := D_Pieces_told.bindsN fun _ _ _ _ _ _ us hl => match us, hl with | [_], _ => rfl
  have M_Pieces_told : Mt (clG K) xfG P w K mg base 20 "told" 1 1 F_pieces_Pieces_told := ⟨⟨_, _, _, ok_Pieces_told rfl rfl T D_Pieces_told , He.meth_ok (x := "Pieces") (c.fact 46), b_Pieces_told⟩, He.cls_ok (x := "Pieces") (c.fact 42)⟩
  have b_Pieces_has : Binds K fd_Pieces_has ["self", "thing"] [] := D_Pieces_has.bindsN fun _ _ _ _ _ _ us hl => match us, hl with | [_, _], _ => rfl
  have M_Pieces_has : Mt (clG K) xfG P w K mg base 20 "has" 1 2 F_pieces_Pieces_has := ⟨⟨_, _, _, ok_Pieces_has rfl rfl T D_Pieces_has , He.meth_ok (x := "Pieces") (c.fact 44), b_Pieces_has⟩, He.cls_ok (x := "Pieces") (c.fact 42)⟩
  have b_Pieces_row : Binds K fd_Pieces_row ["self", "name"] [] := D_Pieces_row.bindsN fun _ _ _ _ _ _ us hl => match us, hl with | [_, _], _ => rfl
  have M_Pieces_row : Mt (clG K) xfG P w K mg base 20 "row" 3 2 F_pieces_Pieces_row := ⟨⟨_, _, _, ok_Pieces_row rfl rfl T D_Pieces_row M_Pieces_has X_NoPiece, He.meth_ok (x := "Pieces") (c.fact 45), b_Pieces_row⟩, He.cls_ok (x := "Pieces") (c.fact 42)⟩
  have b_ahead_of : Binds K fd_ahead_of ["pieces", "name"] [] := D_ahead_of.bindsN fun _ _ _ _ _ _ us hl => match us, hl with | [_, _], _ => rfl
  have H_ahead_of : Fn (clG K) xfG P w K mg base "ahead_of" 4 2 F_worst_ahead_of := ⟨_, _, _, ok_ahead_of rfl rfl T D_ahead_of M_Pieces_row M_Pieces_told, g_ahead_of, D_ahead_of.kp, b_ahead_of⟩
  have b__law_refused : Binds K fd__law_refused ["_law_pieces", "_law_thing"] [] := D__law_refused.bindsN fun _ _ _ _ _ _ us hl => match us, hl with | [_, _], _ => rfl
  have H__law_refused : Fn (clG K) xfG P w K mg base "_law_refused" 5 2 F_L_law_refused := ⟨_, _, _, ok__law_refused rfl rfl T D__law_refused H_ahead_of, g__law_refused, D__law_refused.kp, b__law_refused⟩
  have b__law_names : Binds K fd__law_names ["_law_box_here", "_law_many"] [] := D__law_names.bindsN fun _ _ _ _ _ _ us hl => match us, hl with | [_, _], _ => rfl
  have H__law_names : Fn (clG K) xfG P w K mg base "_law_names" 2 2 F_L_law_names_2 := ⟨_, _, _, ok__law_names rfl rfl T D__law_names H__law_take, g__law_names, D__law_names.kp, b__law_names⟩
  have b__law_rows : Binds K fd__law_rows ["_law_box_here", "_law_most"] [] := D__law_rows.bindsN fun _ _ _ _ _ _ us hl => match us, hl with | [_, _], _ => rfl
  have H__law_rows : Fn (clG K) xfG P w K mg base "_law_rows" 3 2 F_L_law_rows_2 := ⟨_, _, _, ok__law_rows rfl rfl T D__law_rows H__law_take H__law_names, g__law_rows, D__law_rows.kp, b__law_rows⟩
  have b__law_drawn : Binds K fd__law_drawn ["_law_box_here", "_law_k", "_law_most"] [] := D__law_drawn.bindsN fun _ _ _ _ _ _ us hl => match us, hl with | [_, _, _], _ => rfl
  have H__law_drawn : Fn (clG K) xfG P w K mg base "_law_drawn" 4 3 F_L_law_drawn_2 := ⟨_, _, _, ok__law_drawn rfl rfl T D__law_drawn H__law_rows H__law_take, g__law_drawn, D__law_drawn.kp, b__law_drawn⟩
  have b__law_ahead : Binds K fd__law_ahead ["_law_rows_here", "_law_k"] [] := D__law_ahead.bindsN fun _ _ _ _ _ _ us hl => match us, hl with | [_, _], _ => rfl
  have H__law_ahead : Fn (clG K) xfG P w K mg base "_law_ahead" 1 2 F_L_law_ahead := ⟨_, _, _, ok__law_ahead rfl rfl T D__law_ahead , g__law_ahead, D__law_ahead.kp, b__law_ahead⟩
  exact ok_law rfl rfl T D_law H__law_box H__law_cell H__law_fitting H__law_alike H__law_drawn H__law_ahead H_ahead_of H__law_refused H__law_take K_Pieces
theorem sp_law {K : PySem.W.Frag} {H : Hp} {a : Addr} {ns : List Int} (hO : Only H) (hS : SqL K H a (ns.map V.int)) (h : ∃ s, F_law_k41 [.s ns] = .ok (.bl true) s) : spF (clG K) xfG 1 F_law_k41 [.ref a] H (fun v _ => v = .bl true) fun _ _ _ => False := by
  obtain ⟨s, h⟩ := h
  refine ⟨fun _ => False, fun _ => False, fun _ => False, [.s ns], ⟨⟨[], [], by simp [Rps], ?_, by simp, by simp, by simp⟩, by simp, by simp, by simp⟩, rfl, ?_⟩
  · simp only [List.map_cons, List.map_nil, Rpo, Rp]
    refine ⟨.ref a, [], [], [], rfl, rfl, ⟨rfl, a, rfl, ?_⟩, rfl, rfl⟩
    rcases hS with (hS | ⟨o, hS⟩) | hS
    · rcases hO a with q | ⟨o, xs, q⟩
      · rw [q] at hS; cases hS
      · rw [q] at hS; cases hS
    · exact .inl ⟨o, hS, id⟩
    · exact .inr hS
  · rw [h]
    intro v A' H' _ j
    obtain ⟨u, f1, e, h1⟩ := j.one
    cases e
    exact h1.leafv.1
end Lw
open PySem PySem.W PySem.Calls PyProof.Rows
theorem PySem.Challenge.cw_failslack_k41_who_goes_ahead_holds : PySem.Challenge.rw_failslack_k41_who_goes_ahead.Holds := by
  w_on; o_law
  refine HandSHeadRun.head_any (r := OpenLaw.row PySem.Challenge.rw_failslack_k41_who_goes_ahead) (q := view (OpenLaw.row PySem.Challenge.rw_failslack_k41_who_goes_ahead).prog [34]) (H := Lw.hk) (ob := Lw.ob) (M := 3000) (loose := Lw.loose) (d := HandSHeadRun.topDef (OpenLaw.row PySem.Challenge.rw_failslack_k41_who_goes_ahead).prog 34) (kwd := []) Lw.ob_eq
    (by kernel_rfl) (fun s => by kernel_rfl) Lw.run (by kernel_rfl) (by kernel_rfl) (by kernel_rfl) (by rfl) (by first | assumption | decide +kernel) (by decide +kernel) ⟨rfl, rfl, rfl, rfl, rfl, by decide +kernel⟩ ?hw ?hc
  case hw => w_witness2
  case hc =>
    refine Fs.walk_G (l := PySem.Challenge.rw_failslack_k41_who_goes_ahead) (n := 63) (k := 8) (x := "_law_script") (CX := fun w => L2.CX (PySem.Challenge.rw_failslack_k41_who_goes_ahead).prog w) rfl (by decide) (by kernel_rfl) ⟨⟨rfl, by decide, by decide⟩, rfl⟩ ?F (fun _ _ _ _ _ ⟨_, _, _, _, _, _, _, _, _, _, _, _, z⟩ => z)
    intro w mg fa h Y G hmg0
    obtain ⟨K, KX, c⟩ := Y
    have hmg : mg ("law" : PySem.Str) = some (.ref fa) := by
      have e : (HandSHeadRun.topDef (OpenLaw.row PySem.Challenge.rw_failslack_k41_who_goes_ahead).prog 34).name = ("law" : PySem.Str) := by kernel_rfl
      rw [← e]
      exact hmg0
    obtain ⟨fd, hb, hF⟩ := Lw.facts (P := (PySem.Challenge.rw_failslack_k41_who_goes_ahead).prog) (w := w) KX G hmg c
    exact ⟨K, fd, _, KX, hb, fun H a ns hl hO hS => Lw.sp_law hO hS (Lw.law_true_k41 ns hl), hF⟩
