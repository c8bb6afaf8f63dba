import PyProof.Rows.All
import Wide.All
import OpenK.AllK
import Wide.FinOn
import HandS.ForMost
import HandS.ForExc
import HandS.IsInst
import HandS.ExcInit
import HandS.ExcField
import HandS.TryMany
import HandS.Flow
import HandS.Defaults
import HandS.Wide
import HandS.Nested
import HandS.Ends
import HandS.HeadEnd
import HandS.Replace
import KE.KStateDown
import HandS.Head0
import HandS.Head1
import HandS.Head2
import HandS.HeadHook1
import HandS.HeadHook2
import HandS.ExcIs
import KE.KExcIs
import HandS.TupAny
import HandS.SortInts
import HandS.SetFor
import HandS.Deep
import PyProof.TupleCall
import KE.KDictList
import HandS.Conv
import HandS.SortKw
import PyProof.WalkInts
import HandS.Strs
import HandS.RaiseMore
import KE.KRevSl
import HandS.Small
import KE.GoesEnum
import PyProof.NeKinds
import HandS.DeepEq
import KE.KEqNest
import HandS.Finally
import HandS.TryOnly
import HandS.Text
import HandS.Flt
import KE.DataMinMax
import KE.DatumOrd
import KE.KDictSum
import HandS.Sort
import HandS.ListItems
import HandS.Iter
import HandS.HeadHook4
import HandS.Words
import HandS.ListEq
import PyProof.DictUpdate
import HandS.SetKeys
import HandS.Zip
import PyProof.Rows.StrMul
import KE.KSortKeySt
import HandS.Keys
import Lean
import HandS.More
import HandS.WordsExc
import KE.IntTextLaws
import PyProof.StrLawsRepr
import PySem.Challenge.RW_failslack_k76_series_told
set_option Elab.async false
set_option linter.all false
set_option maxRecDepth 100000
namespace Fs
open PySem L2
inductive Fl | own | shr | bor deriving DecidableEq
inductive Kd | tup | lst | dct (ks:List Key) | dcl (ks:List Key) | obj (c:Nat) (fs:List Str) | fn (i:Nat) | code (q:Str) | cell deriving DecidableEq
inductive D | v (x:V) | s (ns:List Int) | n (k:Kd) (w:Fl) (xs:List D)
structure Lf where
  name:Str
  qual:Str
  params:Arguments
  body:FuncBody
  scope:Scope
  fr:List Str
def Lf.fd (F:Lf) (cs:List (Str × Addr)) (c:Addr) (doc pm ctv:Value):FuncData:={ name:=F.name,qualname:=F.qual,params:=F.params,body:=F.body,scope:=F.scope,globals:=mainGlobals,closure:=cs,defaults:=.none,kwdefaults:=.none,doc,pyModule:=pm,annotations:=none,code:=.ref c,closureTuple:=ctv,builtins:=builtinsNs }
def Lf.none:Lf:=⟨"","",default,.stmts [],default,[]⟩
def FnC (a:Addr) (F:Lf) (cs:List (Str × Addr)) (c:Addr):HO:=.ext fun h=>∃ doc pm ctv od sl,h.get? a = some (⟨.type "function",od,.func (F.fd cs c doc pm ctv),sl⟩:Obj)
def CellC (a:Addr) (v:V):HO:=.ext fun h=>∃ u,RelV v u ∧ h.IsCell a (some u)
def CsOk (fr:List Str) (as:List Addr) (cs:List (Str × Addr)):Prop:=fr.length = as.length ∧ fr.Nodup ∧ as.Nodup ∧ ∀ y c,cs.lookup y = some c ↔ ∃ j:Nat,fr[j]? = some y ∧ as[j]? = some c
structure Ec where
  c:Nat → Addr
  K:PySem.W.Frag
  T:List NdefX.NTab:=[]
  fn:Nat → Lf:=fun _=>Lf.none
def Ec.Wr (cl:Ec) (a:Addr) (xs:List V):Prop:=∃ (o:Obj) (its:Array Value) (n:Nat),cl.K.lookup a = some o ∧ o.cls = .type "list" ∧ o.dict = none ∧ o.data = .seq its n ∧ its.size ≤ sizeLine ∧ Vals xs its.toList
@[reducible] def D.int (i:Int):D:=.v (.int i)
@[reducible] def D.str (s:Str):D:=.v (.str s)
@[reducible] def D.bl (b:Bool):D:=.v (.bl b)
@[reducible] def D.non:D:=.v .non
def sc:V → Bool | .non=>true | .bl _=>true | .int _=>true | .str _=>true | _=>false
def Shape (cl:Ec):Kd → Addr → List V → HO → Prop
  | .tup,_,vs,o=>o = .tup vs
  | .lst,_,vs,o=>o = .lst vs
  | .dct ks,_,vs,o=>ks.length = vs.length ∧ o = .dK (ks.zip vs)
  | .dcl _,_,_,_=>False
  | .obj c fs,_,vs,o=>fs.length = vs.length ∧ ∃ dx,o = .ins (cl.c c) dx (fs.zip vs)
  | .fn i,a,vs,o=>∃ c as cs,vs = .ref c :: as.map .ref ∧ CsOk (cl.fn i).fr as cs ∧ o = FnC a (cl.fn i) cs c
  | .code q,a,vs,o=>vs = [] ∧ o = LamX.CodeO a q
  | .cell,a,vs,o=>∃ v ob,vs = [v] ∧ o = .frz ob (CellC a v)
def Kd.mut:Kd → Bool | .fn _=>false | .code _=>false | .cell=>false | _=>true
def Shp (cl:Ec) (w:Fl) (k:Kd) (a:Addr) (vs:List V) (o:HO):Prop:=(Shape cl k a vs o ∧ (w = .own → k.mut = true)) ∨ (w ≠ .own ∧ ∃ ks ob,k = .dct ks ∧ ks.length = vs.length ∧ o = .frz ob (.dK (ks.zip vs)))
def NT (o:HO):Prop:=∀ ps,o ≠ .tbl ps
theorem Shp.nt {cl:Ec} {w:Fl} {k:Kd} {a:Addr} {vs:List V} {o:HO} (h:Shp cl w k a vs o):NT o:=by
  intro ps e
  subst e
  rcases h with ⟨h,_⟩ | ⟨_,_,_,_,_,h⟩
  · cases k with
    | tup=>cases h
    | lst=>cases h
    | dct ks=>cases h.2
    | dcl ks=>exact h
    | obj c fs=>obtain ⟨_,_,h⟩:=h; cases h
    | fn i=>obtain ⟨_,_,_,_,_,h⟩:=h; cases h
    | code q=>cases h.2
    | cell=>obtain ⟨_,_,_,h⟩:=h; cases h
  · cases h
theorem NT.frz {ob:Obj} {u:HO}:NT (.frz ob u):=fun _ e=>by cases e
theorem Shp.own {cl:Ec} {k:Kd} {a:Addr} {vs:List V} {o:HO} (h:Shp cl .own k a vs o):Shape cl k a vs o ∧ k.mut = true:=by
  rcases h with ⟨h,m⟩ | ⟨h,_⟩
  · exact ⟨h,m rfl⟩
  · exact absurd rfl h
theorem Shape.at {cl:Ec} {k:Kd} {a:Addr} {vs:List V} {o:HO} (h:Shape cl k a vs o) (hm:k.mut = true) (b:Addr):Shape cl k b vs o:=by
  cases k <;> first | exact h | cases hm
end Fs
namespace Fs
open PySem L2
section
variable (cl:Ec) (A L:Addr → Prop) (H:Hp)
mutual
def Rp (b:Bool):D → V → List Addr → Prop
  | .v x,v,fp=>sc x = true ∧ v = x ∧ fp = []
  | .s ns,v,fp=>fp = [] ∧ ∃ a,v = .ref a ∧ ((∃ ob,H a = some (.frz ob (.lst (ns.map V.int))) ∧ ¬ A a) ∨ cl.Wr a (ns.map V.int))
  | .n k w ds,v,fp=>∃ a o vs,v = .ref a ∧ H a = some o ∧ Shp cl w k a vs o ∧
      match w with
      | .shr=>¬ A a ∧ fp = [] ∧ Rps false ds vs []
      | .own=>A a ∧ ∃ fp',fp = a :: fp' ∧ Rps false ds vs fp'
      | .bor=>b = true ∧ L a ∧ fp = [] ∧ Rps b ds vs []
def Rps (b:Bool):List D → List V → List Addr → Prop
  | [],vs,fp=>vs = [] ∧ fp = []
  | d :: ds,vs,fp=>∃ v vs' f1 f2,vs = v :: vs' ∧ fp = f1 ++ f2 ∧ Rp b d v f1 ∧ Rps b ds vs' f2
end
end
end Fs
namespace Fs
open PySem L2
abbrev Sl:=List (Option D)
end Fs
namespace Fs
open PySem L2
section
variable {cl:Ec} {A A' L L' B:Addr → Prop} {H H':Hp} {b:Bool}
theorem Rp.weak:∀ {d:D} {v:V} {fp:List Addr},Rp cl A L H false d v fp → Rp cl A L H b d v fp
  | .v x,v,fp,h=>by simp only [Rp] at h ⊢; exact h
  | .s x,v,fp,h=>by simp only [Rp] at h ⊢; exact h
  | .n k w ds,v,fp,h=>by
    simp only [Rp] at h ⊢
    obtain ⟨a,o,vs,h1,h2,h3,h4⟩:=h
    refine ⟨a,o,vs,h1,h2,h3,?_⟩
    cases w with
    | shr=>exact h4
    | own=>exact h4
    | bor=>exact absurd h4.1 (by simp)
theorem Rps.weak:∀ {ds:List D} {vs:List V} {fp:List Addr},Rps cl A L H false ds vs fp → Rps cl A L H b ds vs fp
  | [],vs,fp,h=>by simp only [Rps] at h ⊢; exact h
  | d :: ds,vs,fp,h=>by
    simp only [Rps] at h ⊢
    obtain ⟨v,vs',f1,f2,h1,h2,h3,h4⟩:=h
    exact ⟨v,vs',f1,f2,h1,h2,h3.weak,Rps.weak h4⟩
mutual
theorem Rp.step:∀ {d:D} {v:V} {fp:List Addr} {b:Bool},Rp cl A L H b d v fp → (∀ a o,H a = some o → ¬ A a → NT o → H' a = some o ∧ ¬ A' a) → (∀ a ∈ fp,H' a = H a ∧ A' a) → (b = true → ∀ a,L a → H' a = H a ∧ L' a) → Rp cl A' L' H' b d v fp
  | .v x,v,fp,b,h,_,_,_=>by simp only [Rp] at h ⊢; exact h
  | .s x,v,fp,b,h,hk,_,_=>by
    simp only [Rp] at h ⊢
    obtain ⟨h1,a,h2,h3⟩:=h
    refine ⟨h1,a,h2,?_⟩
    rcases h3 with ⟨ob,h3,h4⟩ | h3
    · exact .inl ⟨ob,(hk a _ h3 h4 NT.frz).1,(hk a _ h3 h4 NT.frz).2⟩
    · exact .inr h3
  | .n k .shr ds,v,fp,b,h,hk,hf,hl=>by
    simp only [Rp] at h ⊢
    obtain ⟨a,o,vs,h1,h2,h3,h4,h5,h6⟩:=h
    exact ⟨a,o,vs,h1,(hk a o h2 h4 h3.nt).1,h3,(hk a o h2 h4 h3.nt).2,h5,Rps.step h6 hk (by simp) (by simp)⟩
  | .n k .own ds,v,fp,b,h,hk,hf,hl=>by
    simp only [Rp] at h ⊢
    obtain ⟨a,o,vs,h1,h2,h3,h4,fp',h5,h6⟩:=h
    subst h5
    have h7:=hf a List.mem_cons_self
    exact ⟨a,o,vs,h1,h7.1.trans h2,h3,h7.2,fp',rfl,Rps.step h6 hk (fun c hc=>hf c (List.mem_cons_of_mem _ hc)) (by simp)⟩
  | .n k .bor ds,v,fp,b,h,hk,hf,hl=>by
    simp only [Rp] at h ⊢
    obtain ⟨a,o,vs,h1,h2,h3,h4,h5,h6,h7⟩:=h
    exact ⟨a,o,vs,h1,(hl h4 a h5).1.trans h2,h3,h4,(hl h4 a h5).2,h6,Rps.step h7 hk (by simp) hl⟩
theorem Rps.step:∀ {ds:List D} {vs:List V} {fp:List Addr} {b:Bool},Rps cl A L H b ds vs fp → (∀ a o,H a = some o → ¬ A a → NT o → H' a = some o ∧ ¬ A' a) → (∀ a ∈ fp,H' a = H a ∧ A' a) → (b = true → ∀ a,L a → H' a = H a ∧ L' a) → Rps cl A' L' H' b ds vs fp
  | [],vs,fp,b,h,_,_,_=>by simp only [Rps] at h ⊢; exact h
  | d :: ds,vs,fp,b,h,hk,hf,hl=>by
    simp only [Rps] at h ⊢
    obtain ⟨v,vs',f1,f2,h1,h2,h3,h4⟩:=h
    subst h2
    exact ⟨v,vs',f1,f2,h1,rfl,Rp.step h3 hk (fun c hc=>hf c (List.mem_append_left _ hc)) hl,Rps.step h4 hk (fun c hc=>hf c (List.mem_append_right _ hc)) hl⟩
end
mutual
theorem Rp.inA:∀ {d:D} {v:V} {fp:List Addr} {b:Bool},Rp cl A L H b d v fp → ∀ a ∈ fp,A a ∧ ∃ o,H a = some o
  | .v x,v,fp,b,h,a,ha=>by simp only [Rp] at h; rw [h.2.2] at ha; simp at ha
  | .s x,v,fp,b,h,a,ha=>by simp only [Rp] at h; rw [h.1] at ha; simp at ha
  | .n k .shr ds,v,fp,b,h,a,ha=>by
    simp only [Rp] at h
    obtain ⟨_,o,vs,h1,h2,h3,h4,h5,h6⟩:=h
    rw [h5] at ha; simp at ha
  | .n k .own ds,v,fp,b,h,a,ha=>by
    simp only [Rp] at h
    obtain ⟨c,o,vs,h1,h2,h3,h4,fp',h5,h6⟩:=h
    rw [h5] at ha
    rcases List.mem_cons.mp ha with rfl | ha
    · exact ⟨h4,o,h2⟩
    · exact Rps.inA h6 a ha
  | .n k .bor ds,v,fp,b,h,a,ha=>by
    simp only [Rp] at h
    obtain ⟨_,o,vs,h1,h2,h3,h4,h5,h6,h7⟩:=h
    rw [h6] at ha; simp at ha
theorem Rps.inA:∀ {ds:List D} {vs:List V} {fp:List Addr} {b:Bool},Rps cl A L H b ds vs fp → ∀ a ∈ fp,A a ∧ ∃ o,H a = some o
  | [],vs,fp,b,h,a,ha=>by simp only [Rps] at h; rw [h.2] at ha; simp at ha
  | d :: ds,vs,fp,b,h,a,ha=>by
    simp only [Rps] at h
    obtain ⟨v,vs',f1,f2,h1,h2,h3,h4⟩:=h
    rw [h2] at ha
    rcases List.mem_append.mp ha with ha | ha
    · exact Rp.inA h3 a ha
    · exact Rps.inA h4 a ha
end
theorem Rps.length:∀ {ds:List D} {vs:List V} {fp:List Addr},Rps cl A L H b ds vs fp → ds.length = vs.length
  | [],vs,fp,h=>by simp only [Rps] at h; simp [h.1]
  | d :: ds,vs,fp,h=>by
    simp only [Rps] at h
    obtain ⟨v,vs',f1,f2,h1,h2,h3,h4⟩:=h
    rw [h1,List.length_cons,List.length_cons,Rps.length h4]
theorem Rps.get:∀ {ds:List D} {vs:List V} {fp:List Addr} {i:Nat} {d:D},Rps cl A L H b ds vs fp → ds[i]? = some d → ∃ v f1,vs[i]? = some v ∧ Rp cl A L H b d v f1 ∧ ∀ a ∈ f1,a ∈ fp
  | [],vs,fp,i,d,h,e=>by simp at e
  | d0 :: ds,vs,fp,i,d,h,e=>by
    simp only [Rps] at h
    obtain ⟨v,vs',f1,f2,h1,h2,h3,h4⟩:=h
    subst h1 h2
    cases i with
    | zero =>
      simp only [List.getElem?_cons_zero,Option.some.injEq] at e
      subst e
      exact ⟨v,f1,rfl,h3,fun a ha=>List.mem_append_left _ ha⟩
    | succ i =>
      simp only [List.getElem?_cons_succ] at e ⊢
      obtain ⟨v2,f3,g1,g2,g3⟩:=Rps.get h4 e
      exact ⟨v2,f3,g1,g2,fun a ha=>List.mem_append_right _ (g3 a ha)⟩
theorem Rps.append:∀ {ds es:List D} {vs ws:List V} {f g:List Addr},Rps cl A L H b ds vs f → Rps cl A L H b es ws g → Rps cl A L H b (ds ++ es) (vs ++ ws) (f ++ g)
  | [],es,vs,ws,f,g,h,h'=>by simp only [Rps] at h; rw [h.1,h.2]; exact h'
  | d :: ds,es,vs,ws,f,g,h,h'=>by
    simp only [Rps,List.cons_append] at h ⊢
    obtain ⟨v,vs',f1,f2,h1,h2,h3,h4⟩:=h
    subst h1 h2
    exact ⟨v,vs' ++ ws,f1,f2 ++ g,rfl,by rw [List.append_assoc],h3,Rps.append h4 h'⟩
end
end Fs
namespace Fs
open PySem L2
inductive Out (α:Type) | ok (a:α) (s:Sl) | exc (c:Nat) (xs:List D) (s:Sl) | bad
inductive Flow | nx | rt (d:D) | bk | ct
end Fs
namespace Fs
open PySem L2
section
variable (cl:Ec) (A L:Addr → Prop) (H:Hp)
def Rpo:Sl → List (Option V) → List Addr → Prop
  | [],σ,fp=>σ = [] ∧ fp = []
  | none :: δ,σ,fp=>∃ x σ',σ = x :: σ' ∧ Rpo δ σ' fp
  | some d :: δ,σ,fp=>∃ v σ' f1 f2,σ = some v :: σ' ∧ fp = f1 ++ f2 ∧ Rp cl A L H true d v f1 ∧ Rpo δ σ' f2
end
end Fs
namespace Fs
open PySem L2
section
variable {cl:Ec} {A A' A'' L L' B:Addr → Prop} {H H' H'':Hp} {b:Bool}
theorem Rpo.step:∀ {δ:Sl} {σ:List (Option V)} {fp:List Addr},Rpo cl A L H δ σ fp → (∀ a o,H a = some o → ¬ A a → NT o → H' a = some o ∧ ¬ A' a) → (∀ a ∈ fp,H' a = H a ∧ A' a) → (∀ a,L a → H' a = H a ∧ L' a) → Rpo cl A' L' H' δ σ fp
  | [],σ,fp,h,_,_,_=>by simp only [Rpo] at h ⊢; exact h
  | none :: δ,σ,fp,h,hk,hf,hl=>by
    simp only [Rpo] at h ⊢
    obtain ⟨x,σ',h1,h2⟩:=h
    exact ⟨x,σ',h1,h2.step hk hf hl⟩
  | some d :: δ,σ,fp,h,hk,hf,hl=>by
    simp only [Rpo] at h ⊢
    obtain ⟨v,σ',f1,f2,h1,h2,h3,h4⟩:=h
    subst h2
    exact ⟨v,σ',f1,f2,h1,rfl,h3.step hk (fun c hc=>hf c (List.mem_append_left _ hc)) (fun _=>hl),h4.step hk (fun c hc=>hf c (List.mem_append_right _ hc)) hl⟩
theorem Rpo.inA:∀ {δ:Sl} {σ:List (Option V)} {fp:List Addr},Rpo cl A L H δ σ fp → ∀ a ∈ fp,A a ∧ ∃ o,H a = some o
  | [],σ,fp,h,a,ha=>by simp only [Rpo] at h; rw [h.2] at ha; simp at ha
  | none :: δ,σ,fp,h,a,ha=>by
    simp only [Rpo] at h
    obtain ⟨x,σ',h1,h2⟩:=h
    exact h2.inA a ha
  | some d :: δ,σ,fp,h,a,ha=>by
    simp only [Rpo] at h
    obtain ⟨v,σ',f1,f2,h1,h2,h3,h4⟩:=h
    rw [h2] at ha
    rcases List.mem_append.mp ha with ha | ha
    · exact h3.inA a ha
    · exact h4.inA a ha
theorem Rpo.length:∀ {δ:Sl} {σ:List (Option V)} {fp:List Addr},Rpo cl A L H δ σ fp → δ.length = σ.length
  | [],σ,fp,h=>by simp only [Rpo] at h; simp [h.1]
  | none :: δ,σ,fp,h=>by
    simp only [Rpo] at h
    obtain ⟨x,σ',h1,h2⟩:=h
    simp [h1,h2.length]
  | some d :: δ,σ,fp,h=>by
    simp only [Rpo] at h
    obtain ⟨v,σ',f1,f2,h1,h2,h3,h4⟩:=h
    simp [h1,h4.length]
theorem Rpo.get:∀ {δ:Sl} {σ:List (Option V)} {fp:List Addr} {i:Nat} {d:D},Rpo cl A L H δ σ fp → δ[i]? = some (some d) → ∃ v f1,σ[i]? = some (some v) ∧ Rp cl A L H true d v f1 ∧ ∀ a ∈ f1,a ∈ fp
  | [],σ,fp,i,d,h,e=>by simp at e
  | none :: δ,σ,fp,i,d,h,e=>by
    simp only [Rpo] at h
    obtain ⟨x,σ',h1,h2⟩:=h
    subst h1
    cases i with
    | zero=>simp at e
    | succ i=>simp only [List.getElem?_cons_succ] at e ⊢; exact h2.get e
  | some d0 :: δ,σ,fp,i,d,h,e=>by
    simp only [Rpo] at h
    obtain ⟨v,σ',f1,f2,h1,h2,h3,h4⟩:=h
    subst h1 h2
    cases i with
    | zero =>
      simp only [List.getElem?_cons_zero,Option.some.injEq] at e
      subst e
      exact ⟨v,f1,rfl,h3,fun a ha=>List.mem_append_left _ ha⟩
    | succ i =>
      simp only [List.getElem?_cons_succ] at e ⊢
      obtain ⟨v2,f3,g1,g2,g3⟩:=h4.get e
      exact ⟨v2,f3,g1,g2,fun a ha=>List.mem_append_right _ (g3 a ha)⟩
theorem Rpo.take:∀ {δ:Sl} {σ:List (Option V)} {fp:List Addr} {i:Nat} {d:D},Rpo cl A L H δ σ fp → δ[i]? = some (some d) → fp.Nodup →
    ∃ v f1 f2,σ[i]? = some (some v) ∧ Rp cl A L H true d v f1 ∧ Rpo cl A L H (δ.set i none) σ f2 ∧ (f1 ++ f2).Nodup ∧ ∀ a,a ∈ f1 ++ f2 ↔ a ∈ fp
  | [],σ,fp,i,d,h,e,nd=>by simp at e
  | none :: δ,σ,fp,i,d,h,e,nd=>by
    simp only [Rpo] at h
    obtain ⟨x,σ',h1,h2⟩:=h
    subst h1
    cases i with
    | zero=>simp at e
    | succ i =>
      simp only [List.getElem?_cons_succ,List.set_cons_succ] at e ⊢
      obtain ⟨v,f1,f2,g1,g2,g3,g4,g5⟩:=h2.take e nd
      exact ⟨v,f1,f2,g1,g2,by simp only [Rpo]; exact ⟨x,σ',rfl,g3⟩,g4,g5⟩
  | some d0 :: δ,σ,fp,i,d,h,e,nd=>by
    simp only [Rpo] at h
    obtain ⟨v,σ',f1,f2,h1,h2,h3,h4⟩:=h
    subst h1 h2
    cases i with
    | zero =>
      simp only [List.getElem?_cons_zero,Option.some.injEq,List.set_cons_zero] at e ⊢
      subst e
      exact ⟨v,f1,f2,rfl,h3,by simp only [Rpo]; exact ⟨_,σ',rfl,h4⟩,nd,fun a=>Iff.rfl⟩
    | succ i =>
      simp only [List.getElem?_cons_succ,List.set_cons_succ] at e ⊢
      have nd2:=List.nodup_append.mp nd
      obtain ⟨w,g1,g2,k1,k2,k3,k4,k5⟩:=h4.take e nd2.2.1
      refine ⟨w,g1,f1 ++ g2,k1,k2,by simp only [Rpo]; exact ⟨v,σ',f1,g2,rfl,rfl,h3,k3⟩,?_,?_⟩
      · have k4':=List.nodup_append.mp k4
        refine List.nodup_append.mpr ⟨k4'.1,List.nodup_append.mpr ⟨nd2.1,k4'.2.1,fun a ha c hc=>nd2.2.2 a ha c ((k5 c).mp (List.mem_append_right _ hc))⟩,fun a ha c hc=>?_⟩
        rcases List.mem_append.mp hc with hc | hc
        · exact fun e=>nd2.2.2 c hc a ((k5 a).mp (List.mem_append_left _ ha)) e.symm
        · exact k4'.2.2 a ha c hc
      · intro a
        have:=k5 a
        simp only [List.mem_append] at this ⊢
        constructor
        · rintro (q | q | q)
          · exact .inr (this.mp (.inl q))
          · exact .inl q
          · exact .inr (this.mp (.inr q))
        · rintro (q | q)
          · exact .inr (.inl q)
          · rcases this.mpr q with z | z
            · exact .inl z
            · exact .inr (.inr z)
theorem Rpo.drop:∀ {δ:Sl} {σ:List (Option V)} {fp:List Addr} {i:Nat},Rpo cl A L H δ σ fp → fp.Nodup → ∃ f2,Rpo cl A L H (δ.set i none) σ f2 ∧ f2.Nodup ∧ ∀ a,a ∈ f2 → a ∈ fp:=by
  intro δ σ fp i h nd
  cases e:δ[i]? with
  | none =>
    have:δ.set i none = δ:=List.set_eq_of_length_le (List.getElem?_eq_none_iff.mp e)
    rw [this]
    exact ⟨fp,h,nd,fun a ha=>ha⟩
  | some o =>
    cases o with
    | none =>
      have:δ.set i none = δ:=by
        obtain ⟨hl,e2⟩:=List.getElem?_eq_some_iff.mp e
        rw [← e2]
        exact List.set_getElem_self hl
      rw [this]
      exact ⟨fp,h,nd,fun a ha=>ha⟩
    | some d =>
      obtain ⟨v,f1,f2,g1,g2,g3,g4,g5⟩:=h.take e nd
      exact ⟨f2,g3,(List.nodup_append.mp g4).2.1,fun a ha=>(g5 a).mp (List.mem_append_right _ ha)⟩
structure Tb (cl:Ec) (A:Addr → Prop) (H:Hp):Prop where
  n:NdefX.TabsN cl.T H
  a:∀ p ∈ cl.T,¬ A p.1 ∧ ∀ ps pos c,H p.1 = some (.tbl ps) → codeAmong pos ps.toList = some (.ref c) → ¬ A c
structure Jt (p:Bool) (cl:Ec) (A L B:Addr → Prop) (H:Hp) (ts:List D) (ws:List V) (δ:Sl) (σ:List (Option V)):Prop where
  ex:∃ f g,Rps cl A L H false ts ws f ∧ Rpo cl A L H δ σ g ∧ (f ++ g).Nodup ∧ (∀ a ∈ f,¬ B a) ∧ (p = false → ∀ a ∈ g,¬ B a)
  lb:∀ a,L a → B a
  ba:∀ a,B a → A a
  ad:∀ a,A a → H a ≠ none
  tb:Tb cl A H
def Ex (H H':Hp):Prop:=∀ a o,H a = some o → H' a = some o
theorem Ex.new {p:Addr} {o:HO} (h:H p = none):Ex H (upd H p o):=fun a u e=>by rw [upd_ne (ne_of_none e h)]; exact e
structure Nx (A B:Addr → Prop) (H:Hp) (A':Addr → Prop) (H':Hp):Prop where
  new:∀ a,A' a → A a ∨ H a = none
  keep:∀ a o,H a = some o → ¬ A a → NT o → H' a = some o
  prot:∀ a,B a → H' a = H a ∧ A' a
  low:∀ a,H' a = none → H a = none
theorem Nx.trans (x:Nx A B H A' H') (y:Nx A' B H' A'' H''):Nx A B H A'' H'' where
  new:=fun a h=>by
    rcases y.new a h with h | h
    · exact x.new a h
    · exact .inr (x.low a h)
  keep:=fun a o h n t=>y.keep a o (x.keep a o h n t) (fun q=>by
    rcases x.new a q with z | z
    · exact n z
    · rw [h] at z; cases z) t
  prot:=fun a h=>⟨(y.prot a h).1.trans (x.prot a h).1,(y.prot a h).2⟩
  low:=fun a h=>x.low a (y.low a h)
theorem Nx.weak {B':Addr → Prop} (x:Nx A B' H A' H') (h:∀ a,B a → B' a):Nx A B H A' H':=⟨x.new,x.keep,fun a z=>x.prot a (h a z),x.low⟩
theorem Nx.both (x:Nx A B H A' H'):∀ a o,H a = some o → ¬ A a → NT o → H' a = some o ∧ ¬ A' a:=fun a o h n t=>⟨x.keep a o h n t,fun q=>by
  rcases x.new a q with z | z
  · exact n z
  · rw [h] at z; cases z⟩
end
end Fs
namespace Fs
open PySem L2
section
variable {cl:Ec} {A A' A'' L L' B:Addr → Prop} {H H' H'':Hp} {b:Bool}
variable {ts us:List D} {ws xs:List V} {δ δ':Sl} {σ σ':List (Option V)}
variable {p:Bool}
theorem Jt.hide (j:Jt p cl A L B H ts ws δ σ):∃ f,Rps cl A L H false ts ws f ∧ f.Nodup ∧ (∀ a ∈ f,¬ B a) ∧ Jt p cl A L (fun a=>B a ∨ a ∈ f) H [] [] δ σ:=by
  obtain ⟨f,g,h1,h2,h3,h4,h5⟩:=j.ex
  have nd:=List.nodup_append.mp h3
  refine ⟨f,h1,nd.1,h4,⟨⟨[],g,by simp [Rps],h2,by simpa using nd.2.1,by simp,fun hp a ha=>?_⟩,fun a h=>.inl (j.lb a h),fun a h=>?_,j.ad,j.tb⟩⟩
  · rintro (q | q)
    · exact h5 hp a ha q
    · exact nd.2.2 a q a ha rfl
  · rcases h with h | h
    · exact j.ba a h
    · exact (h1.inA a h).1
theorem Jt.back {f:List Addr} (h0:Jt p cl A L B H ts ws δ σ) (h1:Rps cl A L H false ts ws f) (nf:f.Nodup) (hf:∀ a ∈ f,¬ B a) (lb:∀ a,L a → B a) (x:Nx A (fun a=>B a ∨ a ∈ f) H A' H') (j:Jt false cl A' L (fun a=>B a ∨ a ∈ f) H' us xs δ' σ') :
    Jt p cl A' L B H' (ts ++ us) (ws ++ xs) δ' σ':=by
  obtain ⟨f2,g,k1,k2,k3,k4,k5⟩:=j.ex
  refine ⟨⟨f ++ f2,g,Rps.append (h1.step x.both (fun a ha=>x.prot a (.inr ha)) (by simp)) k1,k2,?_,?_,?_⟩,lb,fun a h=>j.ba a (.inl h),j.ad,j.tb⟩
  · rw [List.append_assoc]
    refine List.nodup_append.mpr ⟨nf,k3,fun a ha c hc e=>?_⟩
    subst e
    rcases List.mem_append.mp hc with hc | hc
    · exact k4 a hc (.inr ha)
    · exact k5 rfl a hc (.inr ha)
  · intro a ha q
    rcases List.mem_append.mp ha with ha | ha
    · exact hf a ha q
    · exact k4 a ha (.inl q)
  · intro _ a ha q
    exact k5 rfl a ha (.inl q)
theorem Jt.backP {f:List Addr} (h0:Jt true cl A L B H ts ws δ σ) (x:Nx A A H A' H') (j:Jt true cl A' L A H' us xs δ σ) :
    Jt true cl A' L B H' (ts ++ us) (ws ++ xs) δ σ:=by
  obtain ⟨f,g,h1,h2,h3,h4,h5⟩:=h0.ex
  obtain ⟨f2,g2,k1,k2,k3,k4,k5⟩:=j.ex
  have nd:=List.nodup_append.mp h3
  have fA:∀ a ∈ f,A a:=fun a ha=>(h1.inA a ha).1
  have gA:∀ a ∈ g,A a:=fun a ha=>(h2.inA a ha).1
  have nd2:=List.nodup_append.mp k3
  refine ⟨⟨f ++ f2,g,Rps.append (h1.step x.both (fun a ha=>x.prot a (fA a ha)) (by simp)) k1,h2.step x.both (fun a ha=>x.prot a (gA a ha)) (fun a h=>⟨(x.prot a (h0.ba a (h0.lb a h))).1,h⟩),?_,?_,by simp⟩,h0.lb,fun a h=>(x.prot a (h0.ba a h)).2,j.ad,j.tb⟩
  · rw [List.append_assoc]
    refine List.nodup_append.mpr ⟨nd.1,List.nodup_append.mpr ⟨nd2.1,nd.2.1,fun a ha c hc e=>?_⟩,fun a ha c hc e=>?_⟩
    · subst e; exact k4 a ha (gA a hc)
    · subst e
      rcases List.mem_append.mp hc with hc | hc
      · exact k4 a hc (fA a ha)
      · exact nd.2.2 a ha a hc rfl
  · intro a ha q
    rcases List.mem_append.mp ha with ha | ha
    · exact h4 a ha q
    · exact k4 a ha (h0.ba a q)
theorem Jt.toPure (j:Jt p cl A L B H [] [] δ σ):Jt true cl A L A H [] [] δ σ:=by
  obtain ⟨f,g,h1,h2,h3,h4,h5⟩:=j.ex
  have e:f = []:=by simp only [Rps] at h1; exact h1.2
  subst e
  exact ⟨⟨[],g,h1,h2,h3,by simp,by simp⟩,fun a h=>j.ba a (j.lb a h),fun _ h=>h,j.ad,j.tb⟩
theorem Jt.drop (j:Jt p cl A L B H ts ws δ σ):Jt p cl A L B H [] [] δ σ:=by
  obtain ⟨f,g,h1,h2,h3,h4,h5⟩:=j.ex
  exact ⟨⟨[],g,by simp [Rps],h2,by simpa using (List.nodup_append.mp h3).2.1,by simp,h5⟩,j.lb,j.ba,j.ad,j.tb⟩
theorem Jt.lower {B':Addr → Prop} (j:Jt p cl A L B' H ts ws δ σ) (hb:∀ a,B a → B' a) (lb:∀ a,L a → B a):Jt p cl A L B H ts ws δ σ:=by
  obtain ⟨f,g,h1,h2,h3,h4,h5⟩:=j.ex
  exact ⟨⟨f,g,h1,h2,h3,fun a ha q=>h4 a ha (hb a q),fun hp a ha q=>h5 hp a ha (hb a q)⟩,lb,fun a h=>j.ba a (hb a h),j.ad,j.tb⟩
theorem Jt.seq (j:Jt p cl A L B H ts ws δ σ):∃ B',Jt p cl A L B' H [] [] δ σ ∧ (∀ a,B a → B' a) ∧
    ∀ A2 H2 us xs δ2,(p = true → δ2 = δ) → Nx A B' H A2 H2 → Jt p cl A2 L B' H2 us xs δ2 σ → Jt p cl A2 L B H2 (ts ++ us) (ws ++ xs) δ2 σ:=by
  cases p with
  | true =>
    refine ⟨A,j.drop.toPure,j.ba,fun A2 H2 us xs δ2 e n j2=>?_⟩
    cases e rfl
    exact j.backP (f:=[]) n j2
  | false =>
    obtain ⟨f,h1,h2,h3,h4⟩:=j.hide
    exact ⟨_,h4,fun a h=>.inl h,fun A2 H2 us xs δ2 _ n j2=>Jt.back j h1 h2 h3 j.lb n j2⟩
end
end Fs
namespace Fs
open PySem L2
def XAt (xf:Nat → List Str) (A:Addr → Prop) (H:Hp) (c:Nat) (vs:List V) (d:Option Addr):Prop :=
  (xf c = [] ∧ vs = []) ∨ ∃ dd fs,d = some dd ∧ H dd = some (.xd fs) ∧ ¬ A dd ∧ vs.length = (xf c).length ∧ ∀ (i:Nat) (n:Str) (v:V),(xf c)[i]? = some n → vs[i]? = some v → fs.lookup n = some v
end Fs
namespace Fs
open PySem L2
section
variable (cl:Ec) (xf:Nat → List Str) (W:WX)
def Out.same {α:Type} (o:Out α) (δ:Sl):Prop:=match o with
  | .ok _ s=>s = δ
  | .exc _ _ s=>s = δ
  | .bad=>True
def PostX (p:Bool) (c:Nat) (xs:List D) (δ':Sl) (A L B:Addr → Prop) (H:Hp) (σ:L2.St):Prop :=
  ∀ d vs A' H',Nx A B H A' H' → XAt xf A' H' c vs d → Jt p cl A' L B H' xs vs δ' σ → W (.ref (cl.c c)) d σ H'
def Post {α:Type} (p:Bool) (o:Out α) (den:α → List D) (A L B:Addr → Prop) (H:Hp) (σ:L2.St) (Q:α → List V → Hp → Prop):Prop:=match o with
  | .ok a δ'=>∀ vs A' H',Nx A B H A' H' → Jt p cl A' L B H' (den a) vs δ' σ → Q a vs H'
  | .exc c xs δ'=>PostX cl xf W p c xs δ' A L B H σ
  | .bad=>False
end
end Fs
namespace Fs
open PySem L2
section
variable {cl:Ec} {xf:Nat → List Str} {W:WX} {A A' L B:Addr → Prop} {H H':Hp} {δ δ':Sl} {σ:L2.St} {p q:Bool} {te ta tb tc:TE} {tA:TA} {tt tu:TT} {α β:Type}
theorem PostX.step {c:Nat} {xs:List D} (h:PostX cl xf W p c xs δ' A L B H σ) (x:Nx A B H A' H'):PostX cl xf W p c xs δ' A' L B H' σ :=
  fun d vs A2 H2 y e j=>h d vs A2 H2 (x.trans y) e j
theorem PostX.under {c:Nat} {xs:List D} {B':Addr → Prop} (h:PostX cl xf W p c xs δ' A L B H σ) (hb:∀ a,B a → B' a) (lb:∀ a,L a → B a):PostX cl xf W p c xs δ' A L B' H σ :=
  fun d vs A2 H2 y e j=>h d vs A2 H2 (y.weak hb) e (j.lower hb lb)
theorem Post.step {o:Out α} {den:α → List D} {Q:α → List V → Hp → Prop} (h:Post cl xf W p o den A L B H σ Q) (x:Nx A B H A' H'):Post cl xf W p o den A' L B H' σ Q:=by
  cases o with
  | ok a s=>exact fun vs A2 H2 n j=>h vs A2 H2 (x.trans n) j
  | exc c xs s=>exact PostX.step h x
  | bad=>exact h
theorem Post.seq {ts:List D} {ws:List V} {o:Out α} {den den0:α → List D} {Q Q0:α → List V → Hp → Prop} {B':Addr → Prop} (h:Post cl xf W p o den A L B H σ Q) (hs:p = true → o.same δ) (lb:∀ a,L a → B a) (hb:∀ a,B a → B' a)
    (hj:∀ A2 H2 us xs δ2,(p = true → δ2 = δ) → Nx A B' H A2 H2 → Jt p cl A2 L B' H2 us xs δ2 σ → Jt p cl A2 L B H2 (ts ++ us) (ws ++ xs) δ2 σ) (hd:∀ a,den a = ts ++ den0 a) (hQ:∀ a vs H2,Q a (ws ++ vs) H2 → Q0 a vs H2):Post cl xf W p o den0 A L B' H σ Q0:=by
  cases o with
  | ok a s=>exact fun vs A2 H2 n j=>hQ a vs H2 (h (ws ++ vs) A2 H2 (n.weak hb) (by rw [hd a]; exact hj A2 H2 _ _ _ hs n j))
  | exc c xs s=>exact PostX.under h hb lb
  | bad=>exact h
end
end Fs
namespace Fs
open PySem L2
section
variable {cl:Ec} {xf:Nat → List Str} {W:WX} {A A' L B:Addr → Prop} {H H':Hp} {δ δ':Sl} {σ:L2.St} {p q b:Bool} {te ta tb tc:TE} {tA:TA} {tt tu:TT}
theorem Rps.at {ds:List D} {vs:List V} {fp:List Addr} {i:Int} {d:D} (h:Rps cl A L H b ds vs fp) (e:atI ds i = some d):∃ v f1,atI vs i = some v ∧ Rp cl A L H b d v f1 ∧ ∀ a ∈ f1,a ∈ fp:=by
  unfold atI at e ⊢
  rw [← h.length]
  cases e1:ixN ds.length i with
  | none=>rw [e1] at e; cases e
  | some j =>
    rw [e1] at e
    exact h.get e
end
end Fs
namespace Fs
open PySem L2
def Kp (ws:Nat → Bool) (σ σ':L2.St):Prop:=σ'.length = σ.length ∧ ∀ i,ws i = false → σ'[i]? = σ[i]?
theorem Kp.trans {ws:Nat → Bool} {σ σ' σ'':L2.St} (a:Kp ws σ σ') (b:Kp ws σ' σ''):Kp ws σ σ'':=⟨b.1.trans a.1,fun i h=>(b.2 i h).trans (a.2 i h)⟩
theorem Kp.set {ws:Nat → Bool} {σ:L2.St} {i:Nat} {x:Option V} (h:ws i = true):Kp ws σ (σ.set i x):=⟨List.length_set,fun k hk=>by
  have ne:i ≠ k:=fun e=>by rw [e,hk] at h; cases h
  rw [List.getElem?_set_ne ne]⟩
end Fs
namespace Fs
open PySem L2
section
variable (cl:Ec) (xf:Nat → List Str) (W:WX) (ws:Nat → Bool)
def PostS (o:Out Flow) (A L B:Addr → Prop) (H:Hp) (σ:L2.St) (E:Ends):Prop:=match o with
  | .ok .nx δ'=>∀ A' H' σ',Nx A B H A' H' → Kp ws σ σ' → Jt false cl A' L B H' [] [] δ' σ' → E.nx σ' H'
  | .ok .bk δ'=>∀ A' H' σ',Nx A B H A' H' → Kp ws σ σ' → Jt false cl A' L B H' [] [] δ' σ' → E.bk σ' H'
  | .ok .ct δ'=>∀ A' H' σ',Nx A B H A' H' → Kp ws σ σ' → Jt false cl A' L B H' [] [] δ' σ' → E.ct σ' H'
  | .ok (.rt d) δ'=>∀ v A' H' σ',Nx A B H A' H' → Kp ws σ σ' → Jt false cl A' L B H' [d] [v] δ' σ' → E.rt v H'
  | .exc c xs δ'=>∀ d vs A' H' σ',Nx A B H A' H' → Kp ws σ σ' → XAt xf A' H' c vs d → Jt false cl A' L B H' xs vs δ' σ' → W (.ref (cl.c c)) d σ' H'
  | .bad=>False
end
end Fs
namespace Fs
open PySem L2
section
variable {cl:Ec} {xf:Nat → List Str} {W:WX} {ws:Nat → Bool} {A A' L B:Addr → Prop} {H H':Hp} {δ δ':Sl} {σ σ':L2.St} {p q b:Bool} {te ta tb tc:TE} {tA:TA} {tt tu:TT} {t u:TS}
theorem PostS.step {o:Out Flow} {E:Ends} (h:PostS cl xf W ws o A L B H σ E) (n:Nx A B H A' H') (k:Kp ws σ σ'):PostS cl xf W ws o A' L B H' σ' E:=by
  cases o with
  | bad=>exact h
  | exc c xs s=>exact fun d vs A2 H2 σ2 n2 k2=>h d vs A2 H2 σ2 (n.trans n2) (k.trans k2)
  | ok f s =>
    cases f with
    | nx=>exact fun A2 H2 σ2 n2 k2=>h A2 H2 σ2 (n.trans n2) (k.trans k2)
    | bk=>exact fun A2 H2 σ2 n2 k2=>h A2 H2 σ2 (n.trans n2) (k.trans k2)
    | ct=>exact fun A2 H2 σ2 n2 k2=>h A2 H2 σ2 (n.trans n2) (k.trans k2)
    | rt d=>exact fun v A2 H2 σ2 n2 k2=>h v A2 H2 σ2 (n.trans n2) (k.trans k2)
def D.free:D → Bool | .n _ .bor _=>false | _=>true
theorem Rp.free {d:D} {v:V} {fp:List Addr} (h:Rp cl A L H b d v fp) (hf:d.free = true):Rp cl A L H false d v fp:=by
  match d,h with
  | .v x,h=>simp only [Rp] at h ⊢; exact h
  | .s x,h=>simp only [Rp] at h ⊢; exact h
  | .n k .shr ds,h=>simp only [Rp] at h ⊢; exact h
  | .n k .own ds,h=>simp only [Rp] at h ⊢; exact h
  | .n k .bor ds,h=>simp [D.free] at hf
def ItOk (cl:Ec) (L B:Addr → Prop) (J:It) (its:List D) (A:Addr → Prop) (H:Hp):Prop:=∀ A1 H1,Nx A B H A1 H1 → (∀ i,i < its.length → J.go i H1) ∧ (∀ i,its.length ≤ i → J.stop i H1) ∧
  ∀ i x H2 d,its[i]? = some d → J.yld i H1 x H2 → ∀ p B1 δ σ,(∀ a,B a → B1 a) → Jt p cl A1 L B1 H1 [] [] δ σ → ∃ A2,Nx A1 B1 H1 A2 H2 ∧ Jt p cl A2 L B1 H2 [d] [x] δ σ
theorem ItOk.step {J:It} {its:List D} (h:ItOk cl L B J its A H) (n:Nx A B H A' H'):ItOk cl L B J its A' H':=fun A1 H1 n1=>h A1 H1 (n.trans n1)
end
end Fs
namespace Fs
open PySem PySem.Spec PyProof.Rows L2
section
variable {cl:Ec} {xf:Nat → List Str} {W:WX} {ws:Nat → Bool} {A A' L B:Addr → Prop} {H H':Hp} {δ δ':Sl} {σ σ':L2.St} {p q b:Bool} {te ta tb tc:TE} {tA:TA} {tt tu:TT} {t u:TS} {ts:List D} {vs:List V}
def tyNames:List String:=["NoneType","bool","int","str","list","tuple","dict"]
end
end Fs
namespace Lw
open PySem PySem.Spec PyProof.Rows L2 Fs
def top (i:Nat):Stmt:=PySem.Challenge.pw_failslack_k76_series_told.main.body.getD i (.Pass ⟨0,0,0,0⟩)
def mth (i j:Nat):Stmt:=match top i with | .ClassDef _ _ _ body _ _ _ _ _ _ _=>body.getD j (.Pass ⟨0,0,0,0⟩) | s=>s
abbrev ZbK:Stmt:=top 34
abbrev Zby:Stmt:=top 35
abbrev ZC:Stmt:=top 37
abbrev Zbe:Stmt:=top 36
abbrev Zs:Stmt:=top 38
abbrev ZO:Stmt:=top 39
abbrev ZbN:Stmt:=top 12
abbrev ZbJ:Stmt:=top 10
abbrev Zbw:Stmt:=top 11
abbrev Zbv:Stmt:=top 26
abbrev Zbu:Stmt:=top 27
abbrev Zy:Stmt:=top 29
abbrev ZD:Stmt:=mth 31 0
abbrev Zbz:Stmt:=top 33
abbrev Zbb:Stmt:=mth 22 1
abbrev Zba:Stmt:=mth 31 1
abbrev Z3:Stmt:=mth 31 2
abbrev Zbj:Stmt:=top 40
abbrev Zbl:Stmt:=mth 31 3
abbrev Z2:Stmt:=mth 31 6
abbrev Zbk:Stmt:=top 42
abbrev Zr:Stmt:=top 43
abbrev Z1:Stmt:=top 17
abbrev Zw:Stmt:=top 18
abbrev Zb7:Stmt:=top 20
abbrev Zbx:Stmt:=top 21
abbrev ZE:Stmt:=mth 22 0
abbrev Zb6:Stmt:=top 30
abbrev ZQ:Stmt:=mth 31 4
abbrev ZF:Stmt:=top 41
abbrev ZP:Stmt:=top 44
abbrev s_law:Stmt:=top 45
abbrev ZI:Stmt:=mth 5 0
abbrev ZT:Stmt:=mth 4 0
abbrev ZJ:Stmt:=mth 3 0
end Lw
namespace Fs
open PySem PySem.Spec PyProof.Rows L2
section
variable {cl:Ec} {xf:Nat → List Str} {W:WX} {ws:Nat → Bool} {A A' L L' B:Addr → Prop} {H H':Hp} {δ δ':Sl} {σ σ':L2.St} {p q b:Bool} {te ta tb tc:TE} {tA:TA} {tt tu:TT} {t u:TS} {ts:List D} {vs:List V}
def f2 (f:D → D → Option D):List D → Option D | [x,y]=>f x y | _=>none
def f1 (f:D → Option D):List D → Option D | [x]=>f x | _=>none
end
end Fs
namespace Fs
open PySem PySem.Spec PyProof.Rows L2
section
variable {cl:Ec} {xf:Nat → List Str} {W:WX} {ws:Nat → Bool} {A A' L L' B:Addr → Prop} {H H':Hp} {δ δ':Sl} {σ σ':L2.St} {p q b:Bool} {te ta tb tc:TE} {tA:TA} {tt tu:TT} {t u:TS} {ts:List D} {vs:List V}
theorem Rps.at_:∀ {ds:List D} {vs:List V} {fp:List Addr} {n:Nat} {d:D},Rps cl A L H false ds vs fp → ds[n]? = some d → ∃ v f1 fn f2,vs[n]? = some v ∧ fp = f1 ++ (fn ++ f2) ∧ Rp cl A L H false d v fn ∧
    ∀ A2 L2 H2 d' fn',(∀ a o,H a = some o → ¬ A a → NT o → H2 a = some o ∧ ¬ A2 a) → (∀ a ∈ f1 ++ f2,H2 a = H a ∧ A2 a) → Rp cl A2 L2 H2 false d' v fn' → Rps cl A2 L2 H2 false (ds.set n d') vs (f1 ++ (fn' ++ f2))
  | [],vs,fp,n,d,h,e=>by simp at e
  | d0 :: ds,vs,fp,0,d,h,e=>by
    simp only [Rps] at h
    obtain ⟨v,vs',f1,f2,rfl,rfl,h3,h4⟩:=h
    cases e
    refine ⟨v,[],f1,f2,rfl,rfl,h3,fun A2 L2 H2 d' fn' hk hf hd=>?_⟩
    simp only [List.set_cons_zero,List.nil_append,Rps]
    exact ⟨v,vs',fn',f2,rfl,rfl,hd,h4.step hk (fun a ha=>hf a (by simpa using ha)) (by simp)⟩
  | d0 :: ds,vs,fp,n + 1,d,h,e=>by
    simp only [Rps] at h
    obtain ⟨v,vs',f1,f2,rfl,rfl,h3,h4⟩:=h
    obtain ⟨w,g1,gn,g2,k1,rfl,k3,k4⟩:=Rps.at_ h4 (by simpa using e)
    refine ⟨w,f1 ++ g1,gn,g2,by simpa using k1,by simp,k3,fun A2 L2 H2 d' fn' hk hf hd=>?_⟩
    simp only [List.set_cons_succ,Rps,List.append_assoc]
    refine ⟨v,vs',f1,g1 ++ (fn' ++ g2),rfl,rfl,h3.step hk (fun a ha=>hf a (by simp [ha])) (by simp),k4 A2 L2 H2 d' fn' hk (fun a ha=>hf a ?_) hd⟩
    rcases List.mem_append.mp ha with ha | ha
    · simp [ha]
    · simp [ha]
end
end Fs
namespace Fs
open PySem PySem.Spec PyProof.Rows L2
abbrev Lk:=PySem.W.Frag → Bool
def lkFa (f:He.Fa):Lk:=fun K=>f.ok K
def oexB (K:PySem.W.Frag) (C:Addr):Bool:=(match K.lookup C with
  | some ⟨.type t,_,.cls cd,sl⟩=>t == "type" && (match cd.mro,sl.toList with
    | .ref C' :: bm,[_,_,_,_,some (.builtin n),_]=>C' == C && (n == "ValueError.__new__" && (!cd.hasDel && (cd.hasDict && PySem.HandSPX.refsVE bm)))
    | _,_=>false)
  | _=>false) && (decide (PySem.W.findIn K (.ref C) "__setattr__" = some (some (.builtin "object.__setattr__"))) && (decide (PySem.W.subIn K (.ref C) (.type "BaseException") = some true) && (decide (PySem.W.typeIn K (.ref C) = some (.type "type")) && PySem.W.keepIn K (.ref C))))
def baseB (K:PySem.W.Frag) (C:Addr):Bool:=decide (PySem.W.specialIn K (.ref C) "__getattribute__" = some (some (.builtin "type.__getattribute__"))) && (decide (PySem.W.typeIn K (.ref C) = some (.type "type")) && (PySem.W.readsIn K C (.type "type") && (match PySem.W.findCls K (.ref C) (.type "type") "__init__" with
  | some (.val (.builtin n))=>n == "ValueError.__init__"
  | _=>false)))
def iniB (K:PySem.W.Frag) (C:Addr):Bool:=decide (PySem.W.findIn K (.ref C) "__init__" = some (some (.ref (He.ma K C "__init__")))) && decide (PySem.W.typeIn K (.ref (He.ma K C "__init__")) = some (.type "function"))
def obsX (chk:List Lk) (fn:List He.DefD) (K:PySem.W.Frag):He.AlD:=((chk.all fun f=>f K) && fn.all fun d=>d.ok K,fn.map fun d=>He.fnW K d.at_)
end Fs
namespace Fs
open PySem PySem.Spec PyProof.Rows L2
def obTB (K:PySem.W.Frag) (C:Addr):Bool:=decide (PySem.W.findIn K (.ref C) "__class__" = some (some (.builtin "object.__class__"))) && (decide (PySem.W.specialIn K (.builtin "object.__class__") "__get__" = some (some (.builtin "getset_descriptor.__get__"))) && (decide (PySem.W.takesIn K (.builtin "object.__class__") = some true) && decide (PySem.W.mroIn K C (.type "object") = some true)))
end Fs
namespace Fs
open PySem PySem.Spec PyProof.Rows
def asF (g:Addr → Option Obj):Nat → List Addr → List Addr
  | 0,fr=>fr
  | n + 1,fr=>fr ++ asF g n (fr.flatMap fun a=>match g a with
    | some o=>He.refsD o
    | none=>[])
def obsZG (n:Nat) (chk:List Lk) (fn:List He.DefD) (g:Addr → Option Obj):He.AlD:=obsX chk fn (He.frG g (sysModules :: cStatics :: asF g n [mainGlobals]))
end Fs
namespace Fs
open PySem PySem.W HandSHeadRun
def ObsEq (r:OpenRow) (n:Nat) (a:List Lk) (m:List He.DefD) (M:Nat) (w:World):Prop:=∀ os:OsState,(endF (stepQ (denQ tabQ) r.prog w) M r.prog w os).map (fun s=>obsZG n a m (getT s)) = some (He.valD m)
def LookEq (r:OpenRow) (M:Nat) (w:World):Prop:=∀ os:OsState,(endF (stepQ (denQ tabQ) r.prog w) M r.prog w os).map (fun s=>looksF r.prog (boot_heap w.params) s.abs) = some true
def SeenEq (r:OpenRow) (q:Program) (M:Nat) (loose:List Str) (w:World):Prop:=∀ os:OsState,(endF (stepQ (denQ tabQ) r.prog w) M r.prog w os).map (fun s=>seenQ q loose (importedModules r.prog.main.body) (fun s=>xlAt q [] s && recOk r.toRowW.records s) s.abs) = some (openGood q loose)
end Fs
namespace Fs
open PySem PySem.Spec PyProof.Rows L2
def Kd.data:Kd → Bool
  | .fn _=>false
  | .code _=>false
  | .cell=>false
  | _=>true
end Fs
namespace Fs
open PySem PySem.Spec PyProof.Rows L2
def relB:V → Value → Bool
  | .int i,.int j _=>decide (i = j)
  | .str x,.str y _=>decide (x = y)
  | _,_=>false
def valsB:List V → List Value → Bool
  | [],[]=>true
  | x :: xs,u :: us=>relB x u && valsB xs us
  | _,_=>false
def rowB (K:PySem.W.Frag) (b:Addr) (row:List V):Bool:=match K.lookup b with
  | some o=>decide (o.cls = .type "tuple") && match o.data with
    | .seq its _=>decide (its.size ≤ sizeLine) && valsB row its.toList
    | _=>false
  | none=>false
def rowsB (K:PySem.W.Frag):List Value → List (List V) → Bool
  | [],[]=>true
  | .ref b :: us,r :: cs=>rowB K b r && rowsB K us cs
  | _,_=>false
def cstB (K:PySem.W.Frag) (a:Addr) (cs:List (List V)):Bool:=match K.lookup a with
  | some o=>decide (o.cls = .type "tuple") && match o.data with
    | .seq its _=>decide (its.size ≤ sizeLine) && rowsB K its.toList cs
    | _=>false
  | none=>false
end Fs
namespace Lw
open PySem PySem.Spec PyProof.Rows L2 Fs
def ZfI:He.DefD:=⟨("_law_box",none),"_law_box","_law_box",defArgs ZbK,defBody ZbK,defScope ZbK,[],[]⟩
def Zfi:He.DefD:=⟨("_law_take",none),"_law_take","_law_take",defArgs Zby,defBody Zby,defScope Zby,[],[]⟩
def ZcI:He.DefD:=⟨("_law_series_row",none),"_law_series_row","_law_series_row",defArgs ZC,defBody ZC,defScope ZC,[],[]⟩
def Zfh:He.DefD:=⟨("_law_word",none),"_law_word","_law_word",defArgs Zbe,defBody Zbe,defScope Zbe,[],[]⟩
def Zcc:He.DefD:=⟨("_law_series_pieces",none),"_law_series_pieces","_law_series_pieces",defArgs Zs,defBody Zs,defScope Zs,[],[]⟩
def Zd6:He.DefD:=⟨("_law_series",none),"_law_series","_law_series",defArgs ZO,defBody ZO,defScope ZO,[],[]⟩
def ZgM:He.DefD:=⟨("is_name",none),"is_name","is_name",defArgs ZbN,defBody ZbN,defScope ZbN,[],[]⟩
def ZfH:He.DefD:=⟨("is_whole",none),"is_whole","is_whole",defArgs ZbJ,defBody ZbJ,defScope ZbJ,[],[]⟩
def Zff:He.DefD:=⟨("is_within",none),"is_within","is_within",defArgs Zbw,defBody Zbw,defScope Zbw,[],[]⟩
def Zfe:He.DefD:=⟨("pieces_of",none),"pieces_of","pieces_of",defArgs Zbv,defBody Zbv,defScope Zbv,[],[]⟩
def Zfd:He.DefD:=⟨("row_fault",none),"row_fault","row_fault",defArgs Zbu,defBody Zbu,defScope Zbu,[],[]⟩
def Zdm:He.DefD:=⟨("meeting_fault",none),"meeting_fault","meeting_fault",defArgs Zy,defBody Zy,defScope Zy,[],[]⟩
def ZcJ:He.DefD:=⟨("Series",some "__init__"),"__init__","Series.__init__",defArgs ZD,defBody ZD,defScope ZD,[],[]⟩
def Zfj:He.DefD:=⟨("_law_cell",none),"_law_cell","_law_cell",defArgs Zbz,defBody Zbz,defScope Zbz,[],[]⟩
def Zd8:He.DefD:=⟨("Pieces",some "told"),"told","Pieces.told",defArgs Zbb,defBody Zbb,defScope Zbb,[],[]⟩
def Zd7:He.DefD:=⟨("Series",some "told"),"told","Series.told",defArgs Zba,defBody Zba,defScope Zba,[],[]⟩
def ZdC:He.DefD:=⟨("Series",some "names"),"names","Series.names",defArgs Z3,defBody Z3,defScope Z3,[],[]⟩
def Zew:He.DefD:=⟨("_law_thing",none),"_law_thing","_law_thing",defArgs Zbj,defBody Zbj,defScope Zbj,[],[]⟩
def Zez:He.DefD:=⟨("Series",some "row"),"row","Series.row",defArgs Zbl,defBody Zbl,defScope Zbl,[],[]⟩
def ZdB:He.DefD:=⟨("Series",some "whose"),"whose","Series.whose",defArgs Z2,defBody Z2,defScope Z2,[],[]⟩
def Zey:He.DefD:=⟨("_law_asked",none),"_law_asked","_law_asked",defArgs Zbk,defBody Zbk,defScope Zbk,[],[]⟩
def Zc1:He.DefD:=⟨("_law_one_right",none),"_law_one_right","_law_one_right",defArgs Zr,defBody Zr,defScope Zr,[],[]⟩
def ZdA:He.DefD:=⟨("window_fault",none),"window_fault","window_fault",defArgs Z1,defBody Z1,defScope Z1,[],[]⟩
def Zcm:He.DefD:=⟨("row_fault_pieces",none),"row_fault","row_fault",defArgs Zw,defBody Zw,defScope Zw,[],[]⟩
def ZgN:He.DefD:=⟨("five_of",none),"five_of","five_of",defArgs Zb7,defBody Zb7,defScope Zb7,[],[]⟩
def Zfg:He.DefD:=⟨("five_rows",none),"five_rows","five_rows",defArgs Zbx,defBody Zbx,defScope Zbx,[],[]⟩
def ZcK:He.DefD:=⟨("Pieces",some "__init__"),"__init__","Pieces.__init__",defArgs ZE,defBody ZE,defScope ZE,[],[]⟩
def ZgL:He.DefD:=⟨("row_key",none),"row_key","row_key",defArgs Zb6,defBody Zb6,defScope Zb6,[],[]⟩
def Zdo:He.DefD:=⟨("Series",some "pieces"),"pieces","Series.pieces",defArgs ZQ,defBody ZQ,defScope ZQ,[],[]⟩
def Zdn:He.DefD:=⟨("_law_in_order",none),"_law_in_order","_law_in_order",defArgs ZF,defBody ZF,defScope ZF,[],[]⟩
def Zex:He.DefD:=⟨("_law_right",none),"_law_right","_law_right",defArgs ZP,defBody ZP,defScope ZP,[],[]⟩
def h_law:He.DefD:=⟨("law",none),"law","law",defArgs s_law,defBody s_law,defScope s_law,[],[]⟩
def Zcd:He.DefD:=⟨("BadSeries",some "__init__"),"__init__","BadSeries.__init__",defArgs ZI,defBody ZI,defScope ZI,[],[]⟩
def Zcn:He.DefD:=⟨("NoPiece",some "__init__"),"__init__","NoPiece.__init__",defArgs ZT,defBody ZT,defScope ZT,[],[]⟩
def Zce:He.DefD:=⟨("BadPieces",some "__init__"),"__init__","BadPieces.__init__",defArgs ZJ,defBody ZJ,defScope ZJ,[],[]⟩
def fn_0:List He.DefD:=[ZfI,Zfi,ZcI,Zfh,Zcc,Zd6,ZgM,ZfH,Zff]
def fn_1:List He.DefD:=[Zfe,Zfd,Zdm,ZcJ,Zfj,Zd8,Zd7,ZdC,Zew]
def fn_2:List He.DefD:=[Zez,ZdB,Zey,Zc1,ZdA,Zcm,ZgN,Zfg,ZcK]
def fn_3:List He.DefD:=[ZgL,Zdo,Zdn,Zex,h_law,Zcd,Zcn,Zce]
def chk_0:List Lk:=[lkFa (.glo "_law_box"),lkFa (.glo "_law_take"),lkFa (.glo "_law_series_row"),lkFa (.glo "_law_word"),lkFa (.glo "_law_series_pieces"),lkFa (.glo "_law_series"),lkFa (.glo "is_name"),lkFa (.glo "is_whole"),lkFa (.glo "is_within"),lkFa (.glo "pieces_of"),lkFa (.glo "row_fault"),lkFa (.glo "meeting_fault"),lkFa (.glo "_law_cell"),lkFa (.glo "_law_thing"),lkFa (.glo "_law_asked"),lkFa (.glo "_law_one_right"),lkFa (.glo "window_fault"),lkFa (.glo "row_fault_pieces"),lkFa (.glo "five_of"),lkFa (.glo "five_rows"),lkFa (.glo "row_key"),lkFa (.glo "_law_in_order"),lkFa (.glo "_law_right")]
def chk_1:List Lk:=[lkFa (.glo "law"),lkFa (.glo "row_fault_series"),fun K=>decide (He.ga K "row_fault_series" = He.ga K "row_fault"),lkFa (.glo "row_fault_pieces"),fun K=>decide (He.ga K "row_fault_pieces" = He.ga K "row_fault_pieces"),lkFa (.glo "BadPieces"),lkFa (.glo "BadSeries"),lkFa (.glo "NoPiece"),lkFa (.glo "Pieces"),lkFa (.glo "Series"),lkFa (.glo "SlackError"),lkFa (.free "all"),lkFa (.free "bool"),lkFa (.free "enumerate"),lkFa (.free "int"),lkFa (.free "isinstance"),lkFa (.free "len"),lkFa (.free "list"),lkFa (.free "max"),lkFa (.free "min"),lkFa (.free "range"),lkFa (.free "set"),lkFa (.free "sorted")]
def chk_2:List Lk:=[lkFa (.free "str"),lkFa (.free "tuple"),lkFa (.free "zip"),lkFa (.str "FIGURES" "0123456789"),lkFa (.str "LETTERS" "abcdefghijklmnopqrstuvwxyz"),lkFa (.int "LONGEST_NAME_series" 6),lkFa (.int "LONGEST_NAME_words" 8),lkFa (.int "MOST_LENGTH" 12),lkFa (.int "MOST_PIECES" 30),lkFa (.int "MOST_TURN" 199),lkFa (.glo "THINGS"),fun K=>cstB K (He.ga K "THINGS") [[.str "first",.int 0,.int 199],[.str "window",.int 1,.int 200],[.str "length",.int 1,.int 12],[.str "every",.int 1,.int 200],[.str "times",.int 1,.int 30]],lkFa (.cls "Pieces"),lkFa (.cls "Series"),lkFa (.noat "Pieces" "fives"),lkFa (.noat "Series" "held"),lkFa (.noat "Series" "known"),lkFa (.meth "Series" "row"),lkFa (.meth "Series" "whose"),lkFa (.meth "Series" "told"),lkFa (.meth "Series" "names"),lkFa (.meth "Series" "pieces"),lkFa (.meth "Pieces" "told")]
def chk_3:List Lk:=[lkFa (.mkr "Pieces"),lkFa (.mkr "Series"),fun K=>oexB K (He.ga K "BadSeries"),fun K=>iniB K (He.ga K "BadSeries"),lkFa (.noat "BadSeries" "at"),lkFa (.noat "BadSeries" "why"),fun K=>oexB K (He.ga K "NoPiece"),fun K=>iniB K (He.ga K "NoPiece"),lkFa (.noat "NoPiece" "found"),fun K=>oexB K (He.ga K "BadPieces"),fun K=>iniB K (He.ga K "BadPieces"),lkFa (.noat "BadPieces" "at"),lkFa (.noat "BadPieces" "why"),fun K=>xfB K (He.ga K "NoPiece"),fun K=>decide (PySem.W.findIn K (.ref (He.ga K "NoPiece")) "found" = some none),fun K=>decide (PySem.W.exmOne K (.ref (He.ga K "NoPiece")) (.ref (He.ga K "NoPiece")) = some true),fun K=>decide (PySem.W.exmOne K (.ref (He.ga K "NoPiece")) (.ref (He.ga K "SlackError")) = some true),fun K=>tyNames.all fun s=>decide (PySem.W.kitOne K (.type s) (.ref (He.ga K "Pieces")) = some false),fun K=>obTB K (He.ga K "Pieces"),fun K=>decide (PySem.W.kitOne K (.ref (He.ga K "Pieces")) (.ref (He.ga K "Pieces")) = some true),fun K=>baseB K (He.ga K "SlackError")]
abbrev R : PySem.W.OpenRow := PySem.W.OpenLaw.row PySem.Challenge.rw_failslack_k76_series_told
def loose:List Str:=([("_wall":Str),("SlackError":Str),("BadPieces":Str),("NoPiece":Str),("BadSeries":Str),("FIGURES":Str),("LETTERS":Str),("LONGEST_NAME_words":Str)]:List Str) ++ ([("is_whole":Str),("is_within":Str),("is_name":Str),("MOST_PIECES":Str),("MOST_TURN":Str),("MOST_LENGTH":Str),("window_fault":Str),("row_fault":Str)]:List Str) ++ ([("row_fault_pieces":Str),("five_of":Str),("five_rows":Str),("Pieces":Str),("LONGEST_NAME_series":Str),("THINGS":Str),("pieces_of":Str),("row_fault_series":Str)]:List Str) ++ ([("meeting_fault":Str),("row_key":Str),("Series":Str),("_law_cell":Str),("_law_box":Str),("_law_take":Str),("_law_word":Str),("_law_series_row":Str)]:List Str) ++ ([("_law_series_pieces":Str),("_law_series":Str),("_law_thing":Str),("_law_in_order":Str),("_law_asked":Str),("_law_one_right":Str),("_law_right":Str)]:List Str)
theorem run_0 (w:World):ObsEq R 4 chk_0 fn_0 6000 w:=by
  intro os
  kernel_rfl
theorem run_1 (w:World):ObsEq R 4 chk_1 fn_1 6000 w:=by
  intro os
  kernel_rfl
theorem run_2 (w:World):ObsEq R 4 chk_2 fn_2 6000 w:=by
  intro os
  kernel_rfl
theorem run_3 (w:World):ObsEq R 4 chk_3 fn_3 6000 w:=by
  intro os
  kernel_rfl
theorem run_a (w:World):LookEq R 6000 w:=by
  intro os
  kernel_rfl
theorem run_b (w:World):SeenEq R (PySem.W.view R.prog [45]) 6000 loose w:=by
  intro os
  kernel_rfl
end Lw
namespace Fs
open PySem L2
def D.kept:D → Bool | .v _=>true | .s _=>true | .n _ .shr _=>true | _=>false
theorem Shp.any {cl:Ec} {w:Fl} {k:Kd} {a:Addr} {vs:List V} {o:HO} (h:Shp cl .own k a vs o):Shp cl w k a vs o:=by
  rcases h with ⟨h,m⟩ | ⟨h,_⟩
  · exact .inl ⟨h,fun _=>m rfl⟩
  · exact absurd rfl h
theorem ZjO {cl:Ec} {T:List NdefX.NTab} {H:Hp} {k:Kd} {a:Addr} {vs:List V} {o o':HO} (t:NdefX.TabsN T H) (h:H a = some o) (hs:Shape cl k a vs o) (hm:k.mut = true):NdefX.TabsN T (upd H a o'):=fun p hp=>by
  obtain ⟨ps,e1,e2,e3⟩:=t p hp
  have ne:∀ b u,H b = some u → ((∃ qs,u = .tbl qs) ∨ ∃ φ,u = .ext φ) → b ≠ a:=fun b u e q z=>by
    subst z
    rw [h] at e
    cases e
    cases k with
    | tup=>cases hs; rcases q with ⟨_,q⟩ | ⟨_,q⟩ <;> cases q
    | lst=>cases hs; rcases q with ⟨_,q⟩ | ⟨_,q⟩ <;> cases q
    | dct ks=>obtain ⟨_,rfl⟩:=hs; rcases q with ⟨_,q⟩ | ⟨_,q⟩ <;> cases q
    | dcl ks=>exact hs
    | obj c fs=>obtain ⟨_,_,rfl⟩:=hs; rcases q with ⟨_,q⟩ | ⟨_,q⟩ <;> cases q
    | fn i=>cases hm
    | code q=>cases hm
    | cell=>cases hm
  refine ⟨ps,(upd_ne (ne _ _ e1 (.inl ⟨_,rfl⟩))).trans e1,e2,fun pos cv hc=>?_⟩
  obtain ⟨c,f1,f2⟩:=e3 pos cv hc
  exact ⟨c,f1,(upd_ne (ne _ _ f2 (.inr ⟨_,rfl⟩))).trans f2⟩
section
variable (cl:Ec) (A L:Addr → Prop) (H:Hp)
end
section
variable {cl:Ec} {A A' L L' B:Addr → Prop} {H H':Hp} {b:Bool}
theorem Rp.strong:∀ {d:D} {v:V} {fp:List Addr},d.kept = true → Rp cl A L H b d v fp → Rp cl A L H false d v fp ∧ fp = []
  | .v x,v,fp,_,h=>by simp only [Rp] at h ⊢; exact ⟨h,h.2.2⟩
  | .s x,v,fp,_,h=>by simp only [Rp] at h ⊢; exact ⟨h,h.1⟩
  | .n k .shr ds,v,fp,_,h=>by
    simp only [Rp] at h ⊢
    obtain ⟨a,o,vs,h1,h2,h3,h4,h5,h6⟩:=h
    exact ⟨⟨a,o,vs,h1,h2,h3,h4,h5,h6⟩,h5⟩
  | .n k .own ds,v,fp,hk,_=>by simp [D.kept] at hk
  | .n k .bor ds,v,fp,hk,_=>by simp [D.kept] at hk
mutual
def frz:D → D
  | .v x=>.v x
  | .s x=>.s x
  | .n k .shr ds=>.n k .shr ds
  | .n k .own ds=>.n k .shr (frzs ds)
  | .n k .bor ds=>.n k .bor ds
def frzs:List D → List D
  | []=>[]
  | d :: ds=>frz d :: frzs ds
end
mutual
theorem Rp.frz:∀ {d:D} {v:V} {fp:List Addr},Rp cl A L H false d v fp → (∀ a o,H a = some o → ¬ A a → ¬ A' a) → (∀ a ∈ fp,¬ A' a) → Rp cl A' L H false (frz d) v []
  | .v x,v,fp,h,_,_=>by simp only [Rp,Fs.frz] at h ⊢; exact ⟨h.1,h.2.1,trivial⟩
  | .s x,v,fp,h,hk,_=>by
    simp only [Rp,Fs.frz] at h ⊢
    obtain ⟨h1,a,h2,h3⟩:=h
    refine ⟨trivial,a,h2,?_⟩
    rcases h3 with ⟨ob,h3,h4⟩ | h3
    · exact .inl ⟨ob,h3,hk a _ h3 h4⟩
    · exact .inr h3
  | .n k .shr ds,v,fp,h,hk,hf=>by
    simp only [Rp,Fs.frz] at h ⊢
    obtain ⟨a,o,vs,h1,h2,h3,h4,h5,h6⟩:=h
    exact ⟨a,o,vs,h1,h2,h3,hk a o h2 h4,trivial,h6.step (fun c u q n _=>⟨q,hk c u q n⟩) (by simp) (by simp)⟩
  | .n k .own ds,v,fp,h,hk,hf=>by
    simp only [Rp,Fs.frz] at h ⊢
    obtain ⟨a,o,vs,h1,h2,h3,h4,fp',h5,h6⟩:=h
    subst h5
    exact ⟨a,o,vs,h1,h2,h3.any,hf a List.mem_cons_self,trivial,Rps.frz h6 hk (fun c hc=>hf c (List.mem_cons_of_mem _ hc))⟩
  | .n k .bor ds,v,fp,h,hk,hf=>by
    simp only [Rp] at h
    obtain ⟨_,_,_,_,_,_,h4,_⟩:=h
    simp at h4
theorem Rps.frz:∀ {ds:List D} {vs:List V} {fp:List Addr},Rps cl A L H false ds vs fp → (∀ a o,H a = some o → ¬ A a → ¬ A' a) → (∀ a ∈ fp,¬ A' a) → Rps cl A' L H false (frzs ds) vs []
  | [],vs,fp,h,_,_=>by simp only [Rps,frzs] at h ⊢; exact ⟨h.1,trivial⟩
  | d :: ds,vs,fp,h,hk,hf=>by
    simp only [Rps,frzs] at h ⊢
    obtain ⟨v,vs',f1,f2,h1,h2,h3,h4⟩:=h
    subst h2
    exact ⟨v,vs',[],[],h1,rfl,Rp.frz h3 hk (fun c hc=>hf c (List.mem_append_left _ hc)),Rps.frz h4 hk (fun c hc=>hf c (List.mem_append_right _ hc))⟩
end
mutual
def lend:D → D
  | .v x=>.v x
  | .s x=>.s x
  | .n k .shr ds=>.n k .shr ds
  | .n k .own ds=>.n k .bor (lends ds)
  | .n k .bor ds=>.n k .bor ds
def lends:List D → List D
  | []=>[]
  | d :: ds=>lend d :: lends ds
end
mutual
theorem Rp.lend:∀ {d:D} {v:V} {fp:List Addr} {b:Bool},Rp cl A L H b d v fp → (∀ a ∈ fp,L' a) → (∀ a,L a → L' a) → Rp cl A L' H true (lend d) v []
  | .v x,v,fp,b,h,_,_=>by simp only [Rp,Fs.lend] at h ⊢; exact ⟨h.1,h.2.1,trivial⟩
  | .s x,v,fp,b,h,_,_=>by
    simp only [Rp,Fs.lend] at h ⊢
    exact ⟨trivial,h.2⟩
  | .n k .shr ds,v,fp,b,h,hf,hl=>by
    simp only [Rp,Fs.lend] at h ⊢
    obtain ⟨a,o,vs,h1,h2,h3,h4,h5,h6⟩:=h
    exact ⟨a,o,vs,h1,h2,h3,h4,trivial,h6.step (fun c u q n _=>⟨q,n⟩) (by simp) (by simp)⟩
  | .n k .own ds,v,fp,b,h,hf,hl=>by
    simp only [Rp,Fs.lend] at h ⊢
    obtain ⟨a,o,vs,h1,h2,h3,h4,fp',h5,h6⟩:=h
    subst h5
    exact ⟨a,o,vs,h1,h2,h3.any,trivial,hf a List.mem_cons_self,trivial,Rps.lend h6 (fun c hc=>hf c (List.mem_cons_of_mem _ hc)) hl⟩
  | .n k .bor ds,v,fp,b,h,hf,hl=>by
    simp only [Rp,Fs.lend] at h ⊢
    obtain ⟨a,o,vs,h1,h2,h3,h4,h5,h6,h7⟩:=h
    subst h4
    exact ⟨a,o,vs,h1,h2,h3,trivial,hl a h5,trivial,h7.step (fun c u q n _=>⟨q,n⟩) (by simp) (fun _ c hc=>⟨rfl,hl c hc⟩)⟩
theorem Rps.lend:∀ {ds:List D} {vs:List V} {fp:List Addr} {b:Bool},Rps cl A L H b ds vs fp → (∀ a ∈ fp,L' a) → (∀ a,L a → L' a) → Rps cl A L' H true (lends ds) vs []
  | [],vs,fp,b,h,_,_=>by simp only [Rps,lends] at h ⊢; exact ⟨h.1,trivial⟩
  | d :: ds,vs,fp,b,h,hf,hl=>by
    simp only [Rps,lends] at h ⊢
    obtain ⟨v,vs',f1,f2,h1,h2,h3,h4⟩:=h
    subst h2
    exact ⟨v,vs',[],[],h1,rfl,Rp.lend h3 (fun c hc=>hf c (List.mem_append_left _ hc)) hl,Rps.lend h4 (fun c hc=>hf c (List.mem_append_right _ hc)) hl⟩
end
end
end Fs
namespace Fs
open PySem L2
def Out.bind {α β:Type}:Out α → (α → Sl → Out β) → Out β
  | .ok a s,f=>f a s
  | .exc c xs s,_=>.exc c xs s
  | .bad,_=>.bad
abbrev DE:=Sl → Out D
abbrev DT:=Sl → Out Bool
abbrev DA:=Sl → Out (List D)
abbrev DS:=Sl → Out Flow
abbrev PP:=Sl → Option D
section
variable (cl:Ec) (A L:Addr → Prop) (H:Hp)
end
section
variable {cl:Ec} {A A' A'' L L' B:Addr → Prop} {H H' H'':Hp} {b:Bool}
theorem Rpo.put:∀ {δ:Sl} {σ:List (Option V)} {fp:List Addr} {i:Nat} {d:D} {v:V} {f1:List Addr},Rpo cl A L H δ σ fp → i < δ.length → Rp cl A L H true d v f1 → (f1 ++ fp).Nodup →
    ∃ f2,Rpo cl A L H (δ.set i (some d)) (σ.set i (some v)) f2 ∧ f2.Nodup ∧ ∀ a,a ∈ f2 → a ∈ f1 ++ fp
  | [],σ,fp,i,d,v,f1,h,e,hd,nd=>by simp at e
  | none :: δ,σ,fp,i,d,v,f1,h,e,hd,nd=>by
    simp only [Rpo] at h
    obtain ⟨x,σ',h1,h2⟩:=h
    subst h1
    cases i with
    | zero=>exact ⟨f1 ++ fp,by simp only [List.set_cons_zero,Rpo]; exact ⟨v,σ',f1,fp,rfl,rfl,hd,h2⟩,nd,fun a ha=>ha⟩
    | succ i =>
      obtain ⟨f2,g1,g2,g3⟩:=h2.put (i:=i) (by simpa using e) hd nd
      exact ⟨f2,by simp only [List.set_cons_succ,Rpo]; exact ⟨x,_,rfl,g1⟩,g2,g3⟩
  | some d0 :: δ,σ,fp,i,d,v,f1,h,e,hd,nd=>by
    simp only [Rpo] at h
    obtain ⟨v0,σ',g1,g2,h1,h2,h3,h4⟩:=h
    subst h1 h2
    have nd2:=List.nodup_append.mp nd
    have nd3:=List.nodup_append.mp nd2.2.1
    cases i with
    | zero =>
      refine ⟨f1 ++ g2,by simp only [List.set_cons_zero,Rpo]; exact ⟨v,σ',f1,g2,rfl,rfl,hd,h4⟩,?_,?_⟩
      · exact List.nodup_append.mpr ⟨nd2.1,nd3.2.1,fun a ha c hc=>nd2.2.2 a ha c (List.mem_append_right _ hc)⟩
      · intro a ha
        simp only [List.mem_append] at ha ⊢
        rcases ha with ha | ha
        · exact .inl ha
        · exact .inr (.inr ha)
    | succ i =>
      obtain ⟨f2,k1,k2,k3⟩:=h4.put (i:=i) (by simpa using e) hd (List.nodup_append.mpr ⟨nd2.1,nd3.2.1,fun a ha c hc=>nd2.2.2 a ha c (List.mem_append_right _ hc)⟩)
      refine ⟨g1 ++ f2,by simp only [List.set_cons_succ,Rpo]; exact ⟨v0,_,g1,f2,rfl,rfl,h3,k1⟩,?_,?_⟩
      · refine List.nodup_append.mpr ⟨nd3.1,k2,fun a ha c hc e=>?_⟩
        subst e
        rcases List.mem_append.mp (k3 a hc) with q | q
        · exact nd2.2.2 a q a (List.mem_append_left _ ha) rfl
        · exact nd3.2.2 a ha a q rfl
      · intro a ha
        simp only [List.mem_append] at ha ⊢
        rcases ha with ha | ha
        · exact .inr (.inl ha)
        · rcases List.mem_append.mp (k3 a ha) with q | q
          · exact .inl q
          · exact .inr (.inr q)
theorem Rpo.blur:∀ {δ:Sl} {σ:List (Option V)} {fp:List Addr} {i:Nat} {x:Option V},Rpo cl A L H δ σ fp → δ[i]? = some none → Rpo cl A L H δ (σ.set i x) fp
  | [],σ,fp,i,x,h,e=>by simp at e
  | none :: δ,σ,fp,i,x,h,e=>by
    simp only [Rpo] at h ⊢
    obtain ⟨y,σ',h1,h2⟩:=h
    subst h1
    cases i with
    | zero=>exact ⟨x,σ',rfl,h2⟩
    | succ i=>exact ⟨y,σ'.set i x,rfl,h2.blur (by simpa using e)⟩
  | some d :: δ,σ,fp,i,x,h,e=>by
    simp only [Rpo] at h ⊢
    obtain ⟨v,σ',f1,f2,h1,h2,h3,h4⟩:=h
    subst h1
    cases i with
    | zero=>simp at e
    | succ i=>exact ⟨v,σ'.set i x,f1,f2,rfl,h2,h3,h4.blur (by simpa using e)⟩
theorem Tb.sub {cl:Ec} {A A':Addr → Prop} {H:Hp} (t:Tb cl A H) (h:∀ a,A' a → A a):Tb cl A' H:=⟨t.n,fun p hp=>⟨fun q=>(t.a p hp).1 (h _ q),fun ps pos c e1 e2 q=>(t.a p hp).2 ps pos c e1 e2 (h _ q)⟩⟩
theorem Tb.grow {cl:Ec} {A A':Addr → Prop} {H H':Hp} (t:Tb cl A H) (e:∀ a o,H a = some o → H' a = some o) (h:∀ a,A' a → A a ∨ H a = none):Tb cl A' H':=⟨t.n.ext e,fun p hp=>by
  obtain ⟨ps,e1,e2,e3⟩:=t.n p hp
  refine ⟨fun q=>?_,fun ps' pos c e4 e5 q=>?_⟩
  · rcases h _ q with z | z
    · exact (t.a p hp).1 z
    · rw [e1] at z; cases z
  · rw [e _ _ e1] at e4
    cases e4
    obtain ⟨c',e6,e7⟩:=e3 pos _ e5
    cases e6
    rcases h _ q with z | z
    · exact (t.a p hp).2 _ pos c e1 e5 z
    · rw [e7] at z; cases z⟩
theorem Tb.upd {cl:Ec} {A:Addr → Prop} {H:Hp} {a:Addr} {o o':HO} (t:Tb cl A H) (n:NdefX.TabsN cl.T (L2.upd H a o')) (h:H a = some o) (nt:NT o):Tb cl A (L2.upd H a o'):=⟨n,fun p hp=>by
  obtain ⟨ps,e1,_⟩:=t.n p hp
  have ne:p.1 ≠ a:=fun z=>by
    rw [z,h] at e1
    exact nt ps (Option.some.inj e1)
  exact ⟨(t.a p hp).1,fun ps' pos c e4=>(t.a p hp).2 ps' pos c (by rw [upd_ne ne] at e4; exact e4)⟩⟩
theorem Tb.put {cl:Ec} {A:Addr → Prop} {H:Hp} {k:Kd} {a:Addr} {vs:List V} {o o':HO} (t:Tb cl A H) (h:H a = some o) (hs:Shape cl k a vs o) (hm:k.mut = true):Tb cl A (L2.upd H a o'):=t.upd (ZjO t.n h hs hm) h (Shp.nt (w:=.shr) (.inl ⟨hs,fun z=>by cases z⟩))
def Ad (cl:Ec) (A:Addr → Prop) (H:Hp):Prop:=(∀ a,A a → H a ≠ none) ∧ Tb cl A H
theorem Nx.refl (hb:∀ a,B a → A a):Nx A B H A H:=⟨fun _ h=>.inl h,fun _ _ h _ _=>h,fun a h=>⟨rfl,hb a h⟩,fun _ h=>h⟩
variable {ts us:List D} {ws xs:List V} {δ δ':Sl} {σ σ':List (Option V)}
variable {p:Bool}
theorem Jt.adt (j:Jt p cl A L B H ts ws δ σ):Ad cl A H:=⟨j.ad,j.tb⟩
theorem Jt.ofPure {d:List D} {v:List V} (j0:Jt p cl A L B H [] [] δ σ) (x:Nx A A H A' H') (j:Jt true cl A' L A H' d v δ σ):Jt p cl A' L B H' d v δ σ:=by
  obtain ⟨f0,g,h1,h2,h3,h4,h5⟩:=j0.ex
  obtain ⟨f2,g2,k1,k2,k3,k4,k5⟩:=j.ex
  have nd2:=List.nodup_append.mp k3
  have nd:=List.nodup_append.mp h3
  have gA:∀ a ∈ g,A a:=fun a ha=>(h2.inA a ha).1
  refine ⟨⟨f2,g,k1,h2.step x.both (fun a ha=>x.prot a (gA a ha)) (fun a h=>⟨(x.prot a (j0.ba a (j0.lb a h))).1,h⟩),List.nodup_append.mpr ⟨nd2.1,nd.2.1,fun a ha c hc e=>?_⟩,fun a ha q=>k4 a ha (j0.ba a q),fun hp a ha=>h5 hp a ha⟩,j0.lb,fun a h=>(x.prot a (j0.ba a h)).2,j.ad,j.tb⟩
  subst e
  exact k4 a ha (gA a hc)
theorem Jt.drop0 (j:Jt p cl A L B H ts ws δ σ):∃ g,Rpo cl A L H δ σ g ∧ g.Nodup ∧ (p = false → ∀ a ∈ g,¬ B a):=by
  obtain ⟨f,g,h1,h2,h3,h4,h5⟩:=j.ex
  exact ⟨g,h2,(List.nodup_append.mp h3).2.1,h5⟩
theorem Jt.leaf {s:V} (j:Jt p cl A L B H ts ws δ σ) (h:sc s = true):Jt p cl A L B H [.v s] [s] δ σ:=by
  obtain ⟨g,h2,h3,h5⟩:=j.drop0
  exact ⟨⟨[],g,by simp only [Rps,Rp]; exact ⟨s,[],[],[],rfl,rfl,⟨h,rfl,rfl⟩,rfl,rfl⟩,h2,by simpa using h3,by simp,h5⟩,j.lb,j.ba,j.ad,j.tb⟩
theorem Jt.kept {d:D} {v:V} {fp:List Addr} (j:Jt p cl A L B H ts ws δ σ) (hk:d.kept = true) (h:Rp cl A L H b d v fp):Jt p cl A L B H [d] [v] δ σ:=by
  obtain ⟨g,h2,h3,h5⟩:=j.drop0
  have h6:=h.strong hk
  obtain ⟨h6,rfl⟩:=h6
  exact ⟨⟨[],g,by simp only [Rps]; exact ⟨v,[],[],[],rfl,rfl,h6,rfl,rfl⟩,h2,by simpa using h3,by simp,h5⟩,j.lb,j.ba,j.ad,j.tb⟩
theorem Jt.alloc {k:Kd} {p0:Addr} {o:HO} (j:Jt p cl A L B H ts ws δ σ) (hp:H p0 = none) (hs:Shape cl k p0 ws o) (hm:k.mut = true:=by rfl) :
    Nx A B H (fun a=>A a ∨ a = p0) (upd H p0 o) ∧ Jt p cl (fun a=>A a ∨ a = p0) L B (upd H p0 o) [.n k .own ts] [.ref p0] δ σ:=by
  have hA:¬ A p0:=fun q=>j.ad p0 q hp
  have st:∀ a u,H a = some u → ¬ A a → upd H p0 o a = some u ∧ ¬ (A a ∨ a = p0):=fun a u h n=>by
    have ne:a ≠ p0:=ne_of_none h hp
    exact ⟨by rw [upd_ne ne]; exact h,fun q=>q.elim n ne⟩
  have sf:∀ a,A a → upd H p0 o a = H a:=fun a h=>upd_ne (fun e=>hA (e ▸ h))
  refine ⟨⟨fun a h=>h.elim .inl fun e=>.inr (e ▸ hp),fun a u h n _=>(st a u h n).1,fun a h=>⟨sf a (j.ba a h),.inl (j.ba a h)⟩,fun a h=>?_⟩,?_⟩
  · by_cases e:a = p0
    · rw [e]; exact hp
    · rw [upd_ne e] at h; exact h
  · obtain ⟨f,g,h1,h2,h3,h4,h5⟩:=j.ex
    have ia:∀ a,a ∈ f ++ g → A a:=fun a ha=>by
      rcases List.mem_append.mp ha with ha | ha
      · exact (h1.inA a ha).1
      · exact (h2.inA a ha).1
    refine ⟨⟨p0 :: f,g,?_,h2.step (fun a u h n _=>st a u h n) (fun a ha=>⟨sf a (ia a (List.mem_append_right _ ha)),.inl (ia a (List.mem_append_right _ ha))⟩) (fun a h=>⟨sf a (j.ba a (j.lb a h)),h⟩),?_,?_,h5⟩,j.lb,fun a h=>.inl (j.ba a h),fun a h=>?_,j.tb.grow (Ex.new hp) fun a h=>h.imp id fun e=>by rw [e]; exact hp⟩
    · simp only [Rps,Rp]
      exact ⟨.ref p0,[],p0 :: f,[],rfl,by simp,⟨p0,o,ws,rfl,upd_same,.inl ⟨hs,fun _=>hm⟩,.inr rfl,f,rfl,h1.step (fun a u h n _=>st a u h n) (fun a ha=>⟨sf a (ia a (List.mem_append_left _ ha)),.inl (ia a (List.mem_append_left _ ha))⟩) (by simp)⟩,rfl,rfl⟩
    · rw [List.cons_append]
      exact List.nodup_cons.mpr ⟨fun q=>hA (ia p0 q),h3⟩
    · intro a ha
      rcases List.mem_cons.mp ha with rfl | ha
      · exact fun q=>hA (j.ba _ q)
      · exact h4 a ha
    · rcases h with h | rfl
      · rw [sf a h]; exact j.ad a h
      · rw [upd_same]; simp
theorem Zf6:∀ {ts:List D} {ws:List V} {f:List Addr},ts.all D.kept = true → Rps cl A L H false ts ws f → f = []
  | [],ws,f,_,h=>by simp only [Rps] at h; exact h.2
  | d :: ds,ws,f,hk,h=>by
    simp only [Rps] at h
    obtain ⟨v,vs',f1,f2,h1,h2,h3,h4⟩:=h
    simp only [List.all_cons,Bool.and_eq_true] at hk
    rw [h2,(h3.strong hk.1).2,Zf6 hk.2 h4]
    rfl
theorem Jt.allocS {k:Kd} {p0:Addr} {o:HO} (j:Jt p cl A L B H ts ws δ σ) (hk:ts.all D.kept = true) (hp:H p0 = none) (hs:Shape cl k p0 ws o) :
    Nx A B H A (upd H p0 o) ∧ Jt p cl A L B (upd H p0 o) [.n k .shr ts] [.ref p0] δ σ:=by
  have hA:¬ A p0:=fun q=>j.ad p0 q hp
  have st:∀ a u,H a = some u → ¬ A a → upd H p0 o a = some u ∧ ¬ A a:=fun a u h n=>⟨by rw [upd_ne (ne_of_none h hp)]; exact h,n⟩
  have sf:∀ a,A a → upd H p0 o a = H a:=fun a h=>upd_ne (fun e=>hA (e ▸ h))
  refine ⟨⟨fun a h=>.inl h,fun a u h n _=>(st a u h n).1,fun a h=>⟨sf a (j.ba a h),j.ba a h⟩,fun a h=>?_⟩,?_⟩
  · by_cases e:a = p0
    · rw [e]; exact hp
    · rw [upd_ne e] at h; exact h
  · obtain ⟨f,g,h1,h2,h3,h4,h5⟩:=j.ex
    have ef:=Zf6 hk h1
    subst ef
    have ia:∀ a,a ∈ g → A a:=fun a ha=>(h2.inA a ha).1
    refine ⟨⟨[],g,?_,h2.step (fun a u h n _=>st a u h n) (fun a ha=>⟨sf a (ia a ha),ia a ha⟩) (fun a h=>⟨sf a (j.ba a (j.lb a h)),h⟩),h3,h4,h5⟩,j.lb,j.ba,fun a h=>?_,j.tb.grow (Ex.new hp) fun a h=>.inl h⟩
    · simp only [Rps,Rp]
      exact ⟨.ref p0,[],[],[],rfl,rfl,⟨p0,o,ws,rfl,upd_same,.inl ⟨hs,fun z=>by cases z⟩,hA,rfl,h1.step (fun a u h n _=>st a u h n) (by simp) (by simp)⟩,rfl,rfl⟩
    · rw [sf a h]; exact j.ad a h
end
end Fs
namespace Fs
open PySem L2
def Out.ofO {α:Type}:Option α → Sl → Out α | some a,s=>.ok a s | none,_=>.bad
section
variable (cl:Ec) (xf:Nat → List Str) (W:WX)
abbrev d1s:D → List D:=fun d=>[d]
abbrev PostE (p:Bool) (o:Out D) (A L B:Addr → Prop) (H:Hp) (σ:L2.St) (Q:VK):Prop:=Post cl xf W p o d1s A L B H σ fun _ vs H'=>∀ v,vs = [v] → Q v H'
def SP (te:TE) (f:PP):Prop:=∀ A L H δ σ g d Q,Rpo cl A L H δ σ g → f δ = some d → (∀ v fp,Rp cl A L H true d v fp → (∀ a ∈ fp,a ∈ g) → Q v H) → te σ H Q
structure SE (p:Bool) (te:TE) (de:DE):Prop where
  pure:p = true → ∀ δ,(de δ).same δ
  run:∀ A L B H δ σ Q,Jt p cl A L B H [] [] δ σ → PostE cl xf W p (de δ) A L B H σ Q → te σ H Q
structure SA (p:Bool) (ta:TA) (da:DA):Prop where
  pure:p = true → ∀ δ,(da δ).same δ
  run:∀ A L B H δ σ Q,Jt p cl A L B H [] [] δ σ → Post cl xf W p (da δ) id A L B H σ (fun _=>Q) → ta σ H Q
structure SB (p:Bool) (tt:TT) (dt:DT):Prop where
  pure:p = true → ∀ δ,(dt δ).same δ
  run:∀ A L B H δ σ Q,Jt p cl A L B H [] [] δ σ → Post cl xf W p (dt δ) (fun _=>[]) A L B H σ (fun b _=>Q b) → tt σ H Q
end
section
variable {cl:Ec} {xf:Nat → List Str} {W:WX} {A A' L B:Addr → Prop} {H H':Hp} {δ δ':Sl} {σ:L2.St} {p q:Bool} {te ta tb tc:TE} {tA:TA} {tt tu:TT} {α β:Type}
theorem Out.same_bind {o:Out α} {f:α → Sl → Out β} (h1:o.same δ) (h2:∀ a,(f a δ).same δ):(o.bind f).same δ:=by
  cases o with
  | ok a s=>cases (show s = δ from h1); exact h2 a
  | exc c xs s=>exact h1
  | bad=>trivial
theorem Out.same_ofO {o:Option α}:(Out.ofO o δ).same δ:=by cases o <;> simp [Out.ofO,Out.same]
theorem Post.bind {γ:Type} {o:Out α} {f:α → Sl → Out β} {den:β → List D} {Q:β → List V → Hp → Prop} {den0:α → List D} {Q0:α → List V → Hp → Prop} (h:Post cl xf W p (o.bind f) den A L B H σ Q)
    (k:∀ a δ1 vs A' H',o = .ok a δ1 → Nx A B H A' H' → Jt p cl A' L B H' (den0 a) vs δ1 σ → Post cl xf W p (f a δ1) den A L B H σ Q → Q0 a vs H'):Post cl xf W p o den0 A L B H σ Q0:=by
  cases o with
  | ok a s=>exact fun vs A' H' n j=>k a s vs A' H' rfl n j h
  | exc c xs s=>exact h
  | bad=>exact h
theorem Post.ofO {o:Option α} {den:α → List D} {Q:α → List V → Hp → Prop} (h:Post cl xf W p (Out.ofO o δ) den A L B H σ Q):∃ a,o = some a ∧ ∀ vs A' H',Nx A B H A' H' → Jt p cl A' L B H' (den a) vs δ σ → Q a vs H':=by
  cases o with
  | some a=>exact ⟨a,rfl,h⟩
  | none=>exact h.elim
def pVar (i:Nat):PP:=fun δ=>(δ[i]?).join
theorem join_some {o:Option (Option D)} {d:D} (e:o.join = some d):o = some (some d):=by
  cases o with
  | none=>cases e
  | some x=>cases x with
    | none=>cases e
    | some y=>cases e; rfl
theorem sp_var {i:Nat}:SP cl (tVar i) (pVar i):=fun A L H δ σ g d Q h2 e k=>by
  obtain ⟨v,f1,g1,g2,g3⟩:=h2.get (join_some e)
  exact ⟨v,g1,k v f1 g2 g3⟩
def pC (s:V):PP:=fun _=>some (.v s)
theorem Rp.leafv {b:Bool} {x v:V} {fp:List Addr} (h:Rp cl A L H b (.v x) v fp):v = x ∧ fp = [] ∧ sc x = true:=by
  simp only [Rp] at h
  exact ⟨h.2.1,h.2.2,h.1⟩
theorem Rp.leaf {b:Bool} {x:V} (h:sc x = true):Rp cl A L H b (.v x) x []:=by simp only [Rp]; exact ⟨h,trivial,trivial⟩
theorem sp_c {s:V} (h:sc s = true):SP cl (tC s) (pC s):=fun A L H δ σ g d Q j e k=>by
  cases e
  exact k s [] (Rp.leaf h) (by simp)
theorem Rp.scr {b:Bool} {ns:List Int} {v:V} {fp:List Addr} (h:Rp cl A L H b (.s ns) v fp):∃ a,v = .ref a ∧ SqL cl.K H a (ns.map V.int) ∧ fp = [] ∧ ((∃ ob,H a = some (.frz ob (.lst (ns.map V.int))) ∧ ¬ A a) ∨ cl.Wr a (ns.map V.int)):=by
  simp only [Rp] at h
  obtain ⟨h1,a,h2,h3⟩:=h
  refine ⟨a,h2,?_,h1,h3⟩
  rcases h3 with ⟨ob,h3,_⟩ | h3
  · exact .inl (.inr ⟨ob,h3⟩)
  · exact .inr h3
theorem Rp.nodeN {b:Bool} {k:Kd} {w:Fl} {ds:List D} {v:V} {fp:List Addr} (h:Rp cl A L H b (.n k w ds) v fp):∃ a o vs fp',v = .ref a ∧ H a = some o ∧ Shp cl w k a vs o ∧ Rps cl A L H true ds vs fp' ∧ ∀ c ∈ fp',c ∈ fp:=by
  cases w with
  | shr =>
    simp only [Rp] at h
    obtain ⟨a,o,vs,h1,h2,h3,h4,h5,h6⟩:=h
    exact ⟨a,o,vs,[],h1,h2,h3,h6.weak,by simp⟩
  | own =>
    simp only [Rp] at h
    obtain ⟨a,o,vs,h1,h2,h3,h4,fp',h5,h6⟩:=h
    exact ⟨a,o,vs,fp',h1,h2,h3,h6.weak,fun c hc=>by rw [h5]; exact List.mem_cons_of_mem _ hc⟩
  | bor =>
    simp only [Rp] at h
    obtain ⟨a,o,vs,h1,h2,h3,h4,h5,h6,h7⟩:=h
    subst h4
    exact ⟨a,o,vs,[],h1,h2,h3,h7,by simp⟩
theorem Rp.node {b:Bool} {k:Kd} {w:Fl} {ds:List D} {v:V} {fp:List Addr} (h:Rp cl A L H b (.n k w ds) v fp) (hk:∀ ks,k ≠ .dct ks:=by intro _ z; cases z):∃ a o vs fp',v = .ref a ∧ H a = some o ∧ Shape cl k a vs o ∧ Rps cl A L H true ds vs fp' ∧ ∀ c ∈ fp',c ∈ fp:=by
  obtain ⟨a,o,vs,fp',h1,h2,h3,h4,h5⟩:=h.nodeN
  rcases h3 with ⟨h3,_⟩ | ⟨_,ks,_,e,_⟩
  · exact ⟨a,o,vs,fp',h1,h2,h3,h4,h5⟩
  · exact absurd e (hk ks)
theorem Rp.nodeD {b:Bool} {ks:List Key} {w:Fl} {ds:List D} {v:V} {fp:List Addr} (h:Rp cl A L H b (.n (.dct ks) w ds) v fp):∃ a vs fp',v = .ref a ∧ L2.Rd H a (.dK (ks.zip vs)) ∧ ks.length = vs.length ∧ Rps cl A L H true ds vs fp' ∧ ∀ c ∈ fp',c ∈ fp:=by
  obtain ⟨a,o,vs,fp',h1,h2,h3,h4,h5⟩:=h.nodeN
  rcases h3 with ⟨⟨hl,rfl⟩,_⟩ | ⟨_,ks',ob,e,hl,rfl⟩
  · exact ⟨a,vs,fp',h1,.inl h2,hl,h4,h5⟩
  · cases e
    exact ⟨a,vs,fp',h1,.inr ⟨ob,h2⟩,hl,h4,h5⟩
def POp (cl:Ec) (r:R2) (f:D → D → Option D):Prop:=∀ A L H x y u w f1 f2 z Q,Rp cl A L H true x u f1 → Rp cl A L H true y w f2 → f x y = some z → (∀ v fp,Rp cl A L H true z v fp → (∀ a ∈ fp,a ∈ f1 ++ f2) → Q v H) → r u w H Q
def pOp (f:D → D → Option D) (a b:PP):PP:=fun δ=>(a δ).bind fun x=>(b δ).bind fun y=>f x y
theorem sp_op {r:R2} {f:D → D → Option D} {a b:PP} (ho:POp cl r f) (ha:SP cl ta a) (hb:SP cl tb b):SP cl (tOp r ta tb) (pOp f a b):=fun A L H δ σ g d Q j e k=>by
  unfold pOp at e
  obtain ⟨x,e1,e⟩:=Option.bind_eq_some_iff.mp e
  obtain ⟨y,e2,e⟩:=Option.bind_eq_some_iff.mp e
  exact ha A L H δ σ g x _ j e1 fun u f1 h1 n1=>hb A L H δ σ g y _ j e2 fun w f2 h2 n2=>ho A L H x y u w f1 f2 d Q h1 h2 e fun v fp h3 n3=>k v fp h3 fun a ha=>by
    rcases List.mem_append.mp (n3 a ha) with q | q
    · exact n1 a q
    · exact n2 a q
def PUn (cl:Ec) (r:V → Hp → VK → Prop) (f:D → Option D):Prop:=∀ A L H x u f1 z Q,Rp cl A L H true x u f1 → f x = some z → (∀ v fp,Rp cl A L H true z v fp → (∀ a ∈ fp,a ∈ f1) → Q v H) → r u H Q
def pUn (f:D → Option D) (a:PP):PP:=fun δ=>(a δ).bind f
theorem sp_un {r:V → Hp → VK → Prop} {f:D → Option D} {a:PP} (ho:PUn cl r f) (ha:SP cl ta a):SP cl (tUn r ta) (pUn f a):=fun A L H δ σ g d Q j e k=>by
  unfold pUn at e
  obtain ⟨x,e1,e⟩:=Option.bind_eq_some_iff.mp e
  exact ha A L H δ σ g x _ j e1 fun u f1 h1 n1=>ho A L H x u f1 d Q h1 e fun v fp h3 n3=>k v fp h3 fun a ha=>n1 a (n3 a ha)
def dP (a:PP):DE:=fun δ=>Out.ofO ((a δ).filter D.kept) δ
theorem se_p {a:PP} (ha:SP cl te a):SE cl xf W p te (dP a):=by
  refine ⟨fun _ δ=>Out.same_ofO,fun A L B H δ σ Q j k=>?_⟩
  obtain ⟨d,e,k⟩:=Post.ofO k
  obtain ⟨e1,e2⟩:=Option.filter_eq_some_iff.mp e
  obtain ⟨g,h2,_,_⟩:=j.drop0
  exact ha A L H δ σ g d Q h2 e1 fun v fp h1 n1=>k [v] A H (Nx.refl j.ba) (j.kept e2 h1) v rfl
theorem SE.to {de:DE} (h:SE cl xf W true te de):SE cl xf W p te de:=by
  cases p with
  | true=>exact h
  | false =>
    refine ⟨fun z=>(by cases z),fun A L B H δ σ Q j k=>h.run A L A H δ σ Q j.toPure ?_⟩
    have hs:=h.pure rfl δ
    cases e:de δ with
    | bad=>rw [e] at k; exact k
    | exc c xs s =>
      rw [e] at k hs
      cases (show s = δ from hs)
      exact fun d vs A' H' n x j2=>k d vs A' H' (n.weak j.ba) x (j.ofPure n j2)
    | ok d s =>
      rw [e] at k hs
      cases (show s = δ from hs)
      exact fun vs A' H' n j2=>k vs A' H' (n.weak j.ba) (j.ofPure n j2)
def daNil:DA:=fun δ=>.ok [] δ
def daCons (a:DE) (r:DA):DA:=fun δ=>(a δ).bind fun x δ1=>(r δ1).bind fun xs δ2=>.ok (x :: xs) δ2
theorem sa_nil:SA cl xf W p tNil daNil:=⟨fun _ δ=>rfl,fun A L B H δ σ Q j k=>k [] A H (Nx.refl j.ba) j⟩
theorem Jt.len {ts:List D} {ws:List V} (j:Jt p cl A L B H ts ws δ σ):ts.length = ws.length:=by
  obtain ⟨f,g,h1,_⟩:=j.ex
  exact h1.length
theorem Jt.one {x:D} {ws:List V} (j:Jt p cl A L B H [x] ws δ σ):∃ u f1,ws = [u] ∧ Rp cl A L H false x u f1:=by
  obtain ⟨f0,g,h1,h2,h3,h4⟩:=j.ex
  simp only [Rps] at h1
  obtain ⟨u,vs',f1,f2,rfl,rfl,h5,rfl,rfl⟩:=h1
  exact ⟨u,f1,rfl,h5⟩
theorem Jt.pair {x y:D} {ws:List V} (j:Jt p cl A L B H [x,y] ws δ σ):∃ u w f1 f2,ws = [u,w] ∧ Rp cl A L H false x u f1 ∧ Rp cl A L H false y w f2:=by
  obtain ⟨f0,g,h1,h2,h3,h4⟩:=j.ex
  simp only [Rps] at h1
  obtain ⟨u,vs',f1,f2,rfl,rfl,h5,w,vs'',f3,f4,rfl,rfl,h6,rfl,rfl⟩:=h1
  exact ⟨u,w,f1,f3,rfl,h5,h6⟩
theorem ZeS {o:Out α} {f:Sl → Out α} (h:p = true → ∀ δ,(f δ).same δ) (e:f δ = o):p = true → o.same δ:=fun hp=>e ▸ h hp δ
theorem ZkR {a:DE} {r:DA} (ha:SE cl xf W p te a) (hr:SA cl xf W p tA r):SA cl xf W p (tCons te tA) (daCons a r):=by
  refine ⟨fun hp δ=>Out.same_bind (ha.pure hp δ) fun x=>Out.same_bind (hr.pure hp δ) fun xs=>rfl,fun A L B H δ σ Q j k=>?_⟩
  refine ha.run A L B H δ σ _ j (Post.bind (γ:=D) k fun x δ1 vs A1 H1 e1 n1 j1 k1 v ev=>?_)
  subst ev
  obtain ⟨B',j2,hb,hj⟩:=j1.seq
  refine hr.run A1 L B' H1 δ1 σ _ j2 ?_
  have k2:=Post.step (A':=A1) (H':=H1) (Post.bind (γ:=D) (den0:=fun xs=>x :: xs) (Q0:=fun xs vs H2=>Q vs H2) k1 fun xs δ2 vs A2 H2 e2 n2 j2 k2=>k2 vs A2 H2 n2 j2) n1
  exact Post.seq (ts:=[x]) (ws:=[v]) k2 (ZeS hr.pure rfl) j1.lb hb hj (fun a=>rfl) (fun a vs H2 q=>q)
theorem sz_of {n:Nat} (h:n ≤ 100000):n ≤ sizeLine:=Nat.le_trans h (by decide)
theorem sz_lt {n:Nat} (h:n < 100000):n < sizeLine:=Nat.lt_of_lt_of_le h (by decide)
def dF (F:List D → Option D) (r:DA):DE:=fun δ=>(r δ).bind fun xs δ1=>Out.ofO (F xs) δ1
def tF (R:List V → Hp → VK → Prop) (t:TA):TE:=fun σ H Q=>t σ H fun xs H1=>R xs H1 Q
def FOp (cl:Ec) (R:List V → Hp → VK → Prop) (F:List D → Option D):Prop:=∀ p A L B H δ σ xs vs z Q,Jt p cl A L B H xs vs δ σ → F xs = some z → (∀ v A' H',Nx A B H A' H' → Jt p cl A' L B H' [z] [v] δ σ → Q v H') → R vs H Q
theorem se_f {r:DA} {R:List V → Hp → VK → Prop} {F:List D → Option D} (ho:FOp cl R F) (hr:SA cl xf W p tA r):SE cl xf W p (tF R tA) (dF F r):=by
  refine ⟨fun hp δ=>Out.same_bind (hr.pure hp δ) fun x=>Out.same_ofO,fun A L B H δ σ Q j k=>?_⟩
  refine hr.run A L B H δ σ _ j (Post.bind (γ:=D) k fun xs δ1 vs A1 H1 e1 n1 j1 k1=>?_)
  obtain ⟨z,e,k2⟩:=Post.ofO k1
  exact ho p A1 L B H1 δ1 σ xs vs z Q j1 e fun v A2 H2 n2 j2=>k2 [v] A2 H2 (n1.trans n2) j2 v rfl
theorem Jt.freeze {ts:List D} {ws:List V} (j:Jt p cl A L B H ts ws δ σ):∃ A',Nx A B H A' H ∧ Jt p cl A' L B H (frzs ts) ws δ σ:=by
  obtain ⟨f,g,h1,h2,h3,h4,h5⟩:=j.ex
  have nd:=List.nodup_append.mp h3
  refine ⟨fun a=>A a ∧ a ∉ f,⟨fun a h=>.inl h.1,fun a o h _ _=>h,fun a h=>⟨rfl,j.ba a h,fun q=>h4 a q h⟩,fun a h=>h⟩,⟨⟨[],g,?_,?_,by simpa using nd.2.1,by simp,h5⟩,j.lb,fun a h=>⟨j.ba a h,fun q=>h4 a q h⟩,fun a h=>j.ad a h.1,j.tb.sub fun a h=>h.1⟩⟩
  · exact h1.frz (fun a o _ n q=>n q.1) (fun a ha q=>q.2 ha)
  · exact h2.step (fun a o h n _=>⟨h,fun q=>n q.1⟩) (fun a ha=>⟨rfl,(h2.inA a ha).1,fun q=>nd.2.2 a q a ha rfl⟩) (fun a h=>⟨rfl,h⟩)
theorem Zbs {d:D} (h:d.kept = true):frz d = d:=by
  match d,h with
  | .v x,_=>simp [frz]
  | .s x,_=>simp [frz]
  | .n k .shr ds,_=>simp [frz]
theorem Zko:∀ {d:D} {v:V} {fp:List Addr},Rp cl A L H false d v fp → (frz d).kept = true
  | .v x,v,fp,h=>by simp [frz,D.kept]
  | .s x,v,fp,h=>by simp [frz,D.kept]
  | .n k .shr ds,v,fp,h=>by simp [frz,D.kept]
  | .n k .own ds,v,fp,h=>by simp [frz,D.kept]
  | .n k .bor ds,v,fp,h=>by
    simp only [Rp] at h
    obtain ⟨_,_,_,_,_,_,h4,_⟩:=h
    simp at h4
theorem Ze7:∀ {ts:List D} {ws:List V} {f:List Addr},Rps cl A L H false ts ws f → (frzs ts).all D.kept = true
  | [],ws,f,h=>by simp [frzs]
  | d :: ds,ws,f,h=>by
    simp only [Rps] at h
    obtain ⟨v,vs',f1,f2,h1,h2,h3,h4⟩:=h
    simp [frzs,Zko h3,Ze7 h4]
theorem Jt.freezeK {ts:List D} {ws:List V} (j:Jt p cl A L B H ts ws δ σ):(frzs ts).all D.kept = true:=by
  obtain ⟨f,g,h1,h2,h3,h4⟩:=j.ex
  exact Ze7 h1
def mkLst (xs:List D):Option D:=if xs.length ≤ 100000 then some (.n .lst .own (frzs xs)) else none
theorem ZlF:FOp cl (fun xs H1 Q=>xs.length ≤ sizeLine ∧ ∀ p,H1 p = none → Q (.ref p) (upd H1 p (.lst xs))) mkLst:=by
  intro p A L B H δ σ xs vs z Q j e k
  unfold mkLst at e
  split at e
  · rename_i hl
    cases e
    refine ⟨by rw [← j.len]; exact sz_of hl,fun p hp=>?_⟩
    obtain ⟨A1,n1,j1⟩:=j.freeze
    have h:=j1.alloc (k:=.lst) (o:=.lst vs) hp rfl
    exact k _ _ _ (n1.trans h.1) h.2
  · cases e
theorem se_lst {r:DA} (hr:SA cl xf W p tA r):SE cl xf W p (tLst tA) (dF mkLst r):=se_f ZlF hr
def mkTup (xs:List D):Option D:=if xs.length ≤ 100000 then some (.n .tup .shr (frzs xs)) else none
theorem Zjn:FOp cl (fun xs H1 Q=>xs.length ≤ sizeLine ∧ ∀ p,H1 p = none → Q (.ref p) (upd H1 p (.tup xs))) mkTup:=by
  intro p A L B H δ σ xs vs z Q j e k
  unfold mkTup at e
  split at e
  · rename_i hl
    cases e
    refine ⟨by rw [← j.len]; exact sz_of hl,fun p hp=>?_⟩
    have hk:=j.freezeK
    obtain ⟨A1,n1,j1⟩:=j.freeze
    have h:=j1.allocS (k:=.tup) (o:=.tup vs) hk hp rfl
    exact k _ _ _ (n1.trans h.1) h.2
  · cases e
theorem se_tup {r:DA} (hr:SA cl xf W p tA r):SE cl xf W p (tTup tA) (dF mkTup r):=se_f Zjn hr
def both (a b:DE):Sl → Out (D × D):=fun δ=>(a δ).bind fun x δ1=>(b δ1).bind fun y δ2=>.ok (x,y) δ2
theorem Zjx {a b:DE} (ha:SE cl xf W p ta a) (hb:SE cl xf W p tb b) (hp:p = true):(both a b δ).same δ:=Out.same_bind (ha.pure hp δ) fun x=>Out.same_bind (hb.pure hp δ) fun xs=>rfl
theorem two {a b:DE} (ha:SE cl xf W p ta a) (hb:SE cl xf W p tb b) {R:V → V → Hp → Prop} (j:Jt p cl A L B H [] [] δ σ) (k:Post cl xf W p (both a b δ) (fun d=>[d.1,d.2]) A L B H σ (fun _ vs H'=>∀ u w,vs = [u,w] → R u w H')):ta σ H fun x H1=>tb σ H1 fun y H2=>R x y H2:=by
  refine ha.run A L B H δ σ _ j (Post.bind (γ:=D) k fun x δ1 vs A1 H1 e1 n1 j1 k1 v ev=>?_)
  subst ev
  obtain ⟨B',j2,hb',hj⟩:=j1.seq
  refine hb.run A1 L B' H1 δ1 σ _ j2 ?_
  have k2:=Post.step (A':=A1) (H':=H1) (Post.bind (γ:=D) (den0:=fun y=>[x,y]) (Q0:=fun y vs H2=>∀ u w,vs = [u,w] → R u w H2) k1 fun xs δ2 vs A2 H2 e2 n2 j2 k2=>k2 vs A2 H2 n2 j2) n1
  exact Post.seq (ts:=[x]) (ws:=[v]) k2 (ZeS hb.pure rfl) j1.lb hb' hj (fun a=>rfl) (fun a vs H2 q w ew=>q v w (by rw [ew]; rfl))
def ROp (cl:Ec) (r:R2) (f:D → D → Option D):Prop:=∀ p A L B H δ σ x y u w z Q,Jt p cl A L B H [x,y] [u,w] δ σ → f x y = some z → (∀ v A' H',Nx A B H A' H' → Jt p cl A' L B H' [z] [v] δ σ → Q v H') → r u w H Q
def d2 (f:D → D → Option D) (a b:DE):DE:=fun δ=>(both a b δ).bind fun x δ2=>Out.ofO (f x.1 x.2) δ2
def RUn (cl:Ec) (r:V → Hp → VK → Prop) (f:D → Option D):Prop:=∀ p A L B H δ σ x u z Q,Jt p cl A L B H [x] [u] δ σ → f x = some z → (∀ v A' H',Nx A B H A' H' → Jt p cl A' L B H' [z] [v] δ σ → Q v H') → r u H Q
def d1 (f:D → Option D) (a:DE):DE:=fun δ=>(a δ).bind fun x δ2=>Out.ofO (f x) δ2
end
end Fs
namespace Fs
open PySem L2
section
variable {cl:Ec} {xf:Nat → List Str} {W:WX} {A A' L B:Addr → Prop} {H H':Hp} {δ δ':Sl} {σ:L2.St} {p q b:Bool} {te ta tb tc:TE} {tA:TA} {tt tu:TT}
def lkD {α:Type}:List Key → List α → Key → Option α
  | k :: ks,x :: xs,y=>if k = y then some x else lkD ks xs y
  | _,_,_=>none
theorem ZeH:∀ (ks:List Key) (vs:List V) (y:Key),valV (ks.zip vs) y = lkD ks vs y
  | [],vs,y=>by simp [lkD,valV]
  | k :: ks,[],y=>by simp [lkD,valV]
  | k :: ks,v :: vs,y=>by
    rw [List.zip_cons_cons]
    by_cases h:k = y
    · rw [valV_pos (p:=(k,v)) h]; simp [lkD,h]
    · rw [valV_neg (p:=(k,v)) h,ZeH ks vs y]; simp [lkD,h]
theorem Rps.lk:∀ {ks:List Key} {ds:List D} {vs:List V} {fp:List Addr} {y:Key} {d:D},Rps cl A L H b ds vs fp → lkD ks ds y = some d → ∃ v f1,lkD ks vs y = some v ∧ Rp cl A L H b d v f1 ∧ ∀ a ∈ f1,a ∈ fp
  | [],ds,vs,fp,y,d,h,e=>by simp [lkD] at e
  | k :: ks,[],vs,fp,y,d,h,e=>by simp [lkD] at e
  | k :: ks,d0 :: ds,vs,fp,y,d,h,e=>by
    simp only [Rps] at h
    obtain ⟨v,vs',f1,f2,rfl,rfl,h3,h4⟩:=h
    unfold lkD at e ⊢
    by_cases hk:k = y
    · rw [if_pos hk] at e ⊢
      cases e
      exact ⟨v,f1,rfl,h3,fun a ha=>List.mem_append_left _ ha⟩
    · rw [if_neg hk] at e ⊢
      obtain ⟨v2,f3,g1,g2,g3⟩:=Rps.lk h4 e
      exact ⟨v2,f3,g1,g2,fun a ha=>List.mem_append_right _ (g3 a ha)⟩
theorem Rps.lkN:∀ {ks:List Key} {ds:List D} {vs:List V} {fp:List Addr} {y:Key},Rps cl A L H b ds vs fp → lkD ks ds y = none → lkD ks vs y = none
  | [],ds,vs,fp,y,h,e=>by simp [lkD]
  | k :: ks,[],vs,fp,y,h,e=>by simp only [Rps] at h; rw [h.1]; simp [lkD]
  | k :: ks,d0 :: ds,vs,fp,y,h,e=>by
    simp only [Rps] at h
    obtain ⟨v,vs',f1,f2,rfl,rfl,h3,h4⟩:=h
    unfold lkD at e ⊢
    by_cases hk:k = y
    · rw [if_pos hk] at e; cases e
    · rw [if_neg hk] at e ⊢
      exact Rps.lkN h4 e
def rIxA (K:PySem.W.Frag):R2:=fun x y H Q=>rIx K x y H Q ∨ ∃ a v,x = .ref a ∧ DGet H a y (some v) ∧ Q v H
def ixD:D → D → Option D
  | .n .lst _ xs,.v (.int i)=>atI xs i
  | .s ns,.v (.int i)=>(atI ns i).map fun n=>D.int n
  | .n .tup _ xs,.v (.int i)=>atI xs i
  | .n (.dct ks) _ xs,.v (.int i)=>lkD ks xs (.inl i)
  | .n (.dct ks) _ xs,.v (.str s)=>lkD ks xs (.inr s)
  | .v (.str s),.v (.int i)=>if s.length ≤ 100000 then (atI s.cps.toList i).map fun c=>D.str ⟨#[c]⟩ else none
  | _,_=>none
theorem pop_ix:POp cl (rIxA cl.K) ixD:=by
  intro A L H x y u w f1 f2 z Q h1 h2 e k
  unfold ixD at e
  split at e
  · rename_i fl xs i
    obtain ⟨rfl,rfl,_⟩:=h2.leafv
    obtain ⟨a,o,vs,fp',rfl,ho,hs,hr,hf⟩:=h1.node
    cases hs
    obtain ⟨v,f3,g1,g2,g3⟩:=hr.at e
    exact .inl (.inl ⟨a,vs,i,v,rfl,rfl,SqL.of ho,g1,k v f3 g2 fun c hc=>List.mem_append_left _ (hf c (g3 c hc))⟩)
  · rename_i ns i
    obtain ⟨rfl,rfl,_⟩:=h2.leafv
    obtain ⟨a,rfl,hs,rfl,_⟩:=h1.scr
    obtain ⟨n,e1,rfl⟩:=Option.map_eq_some_iff.mp e
    refine .inl (.inl ⟨a,ns.map V.int,i,.int n,rfl,rfl,hs,?_,k _ [] (Rp.leaf rfl) (by simp)⟩)
    unfold atI at e1 ⊢
    rw [List.length_map]
    cases e2:ixN ns.length i with
    | none=>rw [e2] at e1; cases e1
    | some j =>
      rw [e2] at e1
      simp only [Option.bind_some] at e1 ⊢
      rw [List.getElem?_map,e1]
      rfl
  · rename_i fl xs i
    obtain ⟨rfl,rfl,_⟩:=h2.leafv
    obtain ⟨a,o,vs,fp',rfl,ho,hs,hr,hf⟩:=h1.node
    cases hs
    obtain ⟨v,f3,g1,g2,g3⟩:=hr.at e
    exact .inl (.inr (.inl ⟨a,vs,i,v,rfl,rfl,SqT.of ho,g1,k v f3 g2 fun c hc=>List.mem_append_left _ (hf c (g3 c hc))⟩))
  · rename_i ks fl xs i
    obtain ⟨rfl,rfl,_⟩:=h2.leafv
    obtain ⟨a,vs,fp',rfl,ho,hl,hr,hf⟩:=h1.nodeD
    obtain ⟨v,f3,g1,g2,g3⟩:=hr.lk e
    refine .inr ⟨a,v,rfl,?_,k v f3 g2 fun c hc=>List.mem_append_left _ (hf c (g3 c hc))⟩
    rw [← g1,← ZeH]
    exact .inl ⟨_,Sum.inl i,ho,rfl,rfl⟩
  · rename_i ks fl xs s
    obtain ⟨rfl,rfl,_⟩:=h2.leafv
    obtain ⟨a,vs,fp',rfl,ho,hl,hr,hf⟩:=h1.nodeD
    obtain ⟨v,f3,g1,g2,g3⟩:=hr.lk e
    refine .inr ⟨a,v,rfl,?_,k v f3 g2 fun c hc=>List.mem_append_left _ (hf c (g3 c hc))⟩
    rw [← g1,← ZeH]
    exact .inl ⟨_,Sum.inr s,ho,rfl,rfl⟩
  · rename_i s i
    obtain ⟨rfl,rfl,_⟩:=h1.leafv
    obtain ⟨rfl,rfl,_⟩:=h2.leafv
    split at e
    · rename_i hl
      obtain ⟨c,e1,rfl⟩:=Option.map_eq_some_iff.mp e
      exact .inl (.inr (.inr ⟨s,i,c,rfl,rfl,sz_of hl,e1,k _ [] (Rp.leaf rfl) (by simp)⟩))
    · cases e
  · cases e
def f2I (g:Int → Int → Option V):D → D → Option D
  | .v (.int i),.v (.int j)=>(g i j).map D.v
  | _,_=>none
theorem Zco {g:Int → Int → Option V}:∀ x y z,f2I g x y = some z → z.kept = true:=by
  intro x y z e
  unfold f2I at e
  split at e
  · obtain ⟨v,_,rfl⟩:=Option.map_eq_some_iff.mp e; rfl
  · cases e
theorem pop_I0 {g:Int → Int → V} (hg:∀ i j,sc (g i j) = true):POp cl (rI0 g) (f2I fun i j=>some (g i j)):=by
  intro A L H x y u w f1 f2 z Q h1 h2 e k
  unfold f2I at e
  split at e
  · rename_i i j
    cases e
    obtain ⟨rfl,rfl,_⟩:=h1.leafv
    obtain ⟨rfl,rfl,_⟩:=h2.leafv
    exact ⟨i,j,rfl,rfl,k _ [] (Rp.leaf (hg i j)) (by simp)⟩
  · cases e
theorem pop_I {C:Int → Int → Prop} {g:Int → Int → V} {c:Int → Int → Bool} (hc:∀ i j,c i j = true → C i j) (hg:∀ i j,sc (g i j) = true):POp cl (rI C g) (f2I fun i j=>if c i j then some (g i j) else none):=by
  intro A L H x y u w f1 f2 z Q h1 h2 e k
  unfold f2I at e
  split at e
  · rename_i i j
    simp only at e
    split at e
    · rename_i hij
      cases e
      obtain ⟨rfl,rfl,_⟩:=h1.leafv
      obtain ⟨rfl,rfl,_⟩:=h2.leafv
      exact ⟨i,j,rfl,rfl,hc i j hij,k _ [] (Rp.leaf (hg i j)) (by simp)⟩
    · cases e
  · cases e
def cMul (i j:Int):Bool:=decide (i.natAbs < 2 ^ 64) || decide (j.natAbs < 2 ^ 64)
theorem ZlQ (i j:Int) (h:cMul i j = true):CMul i j:=by
  unfold cMul at h
  simp only [Bool.or_eq_true,decide_eq_true_eq] at h
  rcases h with h | h
  · exact .inl ⟨by omega,by omega⟩
  · exact .inr ⟨by omega,by omega⟩
def cDiv (i j:Int):Bool:=decide (0 < j) && decide (j < 1606938044258990275541962092341162602522202993782792835301376)
theorem ZlS (i j:Int) (h:cDiv i j = true):CDivW i j:=by
  unfold cDiv at h
  simp only [Bool.and_eq_true,decide_eq_true_eq] at h
  exact wide_div (b := 201) h.1 (by have e : (2 : Nat) ^ 201 = 3213876088517980551083924184682325205044405987565585670602752 := by decide +kernel
                                    omega) (by decide) (by decide)
def cMod (i j:Int):Bool:=decide (0 < j)
theorem ZlR (i j:Int) (h:cMod i j = true):0 < j:=by unfold cMod at h; simpa using h
def cPow (i j:Int):Bool:=decide (0 ≤ j) && decide (j ≤ 1000000) && decide (i.natAbs < 2 ^ 64)
theorem ZlP (i j:Int) (h:cPow i j = true):CPow i j:=by
  unfold cPow at h
  simp only [Bool.and_eq_true,decide_eq_true_eq] at h
  exact ⟨h.1.1,h.1.2,h.2⟩
abbrev subD:=f2I fun i j=>some (.int (i - j))
abbrev divD:=f2I fun i j=>if cDiv i j then some (.int (i / j)) else none
abbrev modD:=f2I fun i j=>if cMod i j then some (.int (i % j)) else none
abbrev powD:=f2I fun i j=>if cPow i j then some (.int (i ^ j.toNat)) else none
abbrev ltD:=f2I fun i j=>some (.bl (decide (i < j)))
abbrev leD:=f2I fun i j=>some (.bl (decide (i ≤ j)))
abbrev gtD:=f2I fun i j=>some (.bl (decide (j < i)))
abbrev geD:=f2I fun i j=>some (.bl (decide (j ≤ i)))
theorem Rps.keptS:∀ {ds:List D} {vs:List V} {fp:List Addr},ds.all D.kept = true → Rps cl A L H b ds vs fp → Rps cl A L H false ds vs []
  | [],vs,fp,_,h=>by simp only [Rps] at h ⊢; exact ⟨h.1,trivial⟩
  | d :: ds,vs,fp,hk,h=>by
    simp only [Rps] at h ⊢
    obtain ⟨v,vs',f1,f2,h1,h2,h3,h4⟩:=h
    simp only [List.all_cons,Bool.and_eq_true] at hk
    have h5:=h3.strong hk.1
    obtain ⟨h5,rfl⟩:=h5
    exact ⟨v,vs',[],[],h1,rfl,h5,Rps.keptS hk.2 h4⟩
theorem Jt.keptL {ts:List D} {ws:List V} {ds:List D} {vs:List V} {fp:List Addr} (j:Jt p cl A L B H ts ws δ σ) (hk:ds.all D.kept = true) (h:Rps cl A L H b ds vs fp):Jt p cl A L B H ds vs δ σ:=by
  obtain ⟨g,h2,h3,h5⟩:=j.drop0
  exact ⟨⟨[],g,h.keptS hk,h2,by simpa using h3,by simp,h5⟩,j.lb,j.ba,j.ad,j.tb⟩
end
end Fs
namespace Fs
open PySem L2
section
variable {cl:Ec} {xf:Nat → List Str} {W:WX} {A A' L B:Addr → Prop} {H H':Hp} {δ δ':Sl} {σ:L2.St} {p q b:Bool} {te ta tb tc:TE} {tA:TA} {tt tu:TT}
def dAnd (a b:DE):DE:=fun δ=>(a δ).bind fun x δ1=>match x with | .v (.bl true)=>b δ1 | .v (.bl false)=>.ok (.bl false) δ1 | _=>.bad
def notD:D → Option D | .v (.bl c)=>some (.bl !c) | _=>none
theorem se_and {a b:DE} (ha:SE cl xf W p ta a) (hb:SE cl xf W p tb b):SE cl xf W p (tAndV ta tb) (dAnd a b):=by
  refine ⟨fun hp δ=>Out.same_bind (ha.pure hp δ) fun x=>?_,fun A L B H δ σ Q j k=>?_⟩
  · split
    · exact hb.pure hp δ
    · rfl
    · trivial
  · refine ha.run A L B H δ σ _ j (Post.bind (γ:=D) k fun x δ1 vs A1 H1 e1 n1 j1 k1 v ev=>?_)
    subst ev
    obtain ⟨u',f1,e0,h1⟩:=j1.one
    cases e0
    split at k1
    · obtain ⟨rfl,_,_⟩:=h1.leafv
      refine ⟨true,rfl,?_⟩
      rw [if_pos rfl]
      exact hb.run A1 L B H1 δ1 σ Q j1.drop (Post.step k1 n1)
    · obtain ⟨rfl,_,_⟩:=h1.leafv
      exact ⟨false,rfl,k1 _ A1 H1 n1 j1 _ rfl⟩
    · exact k1.elim
def d1S (f:D → Option D) (a:DE):DE:=fun δ=>(a δ).bind fun x δ1=>Out.ofO (f x) δ1
theorem se_not {a:DE} (ha:SE cl xf W p ta a):SE cl xf W p (tNotV ta) (d1S notD a):=by
  refine ⟨fun hp δ=>Out.same_bind (ha.pure hp δ) fun x=>Out.same_ofO,fun A L B H δ σ Q j k=>?_⟩
  refine ha.run A L B H δ σ _ j (Post.bind (γ:=D) k fun x δ1 vs A1 H1 e1 n1 j1 k1 v ev=>?_)
  subst ev
  obtain ⟨z,e,k2⟩:=Post.ofO k1
  obtain ⟨u',f1,e0,h1⟩:=j1.one
  cases e0
  unfold notD at e
  split at e
  · rename_i c
    cases e
    obtain ⟨rfl,_,_⟩:=h1.leafv
    exact ⟨c,rfl,k2 _ A1 H1 n1 (j1.leaf rfl) _ rfl⟩
  · cases e
def dtV (a:DE):DT:=fun δ=>(a δ).bind fun x δ1=>match x with | .v (.bl c)=>.ok c δ1 | _=>.bad
theorem sb_v {a:DE} (ha:SE cl xf W p ta a):SB cl xf W p (tB ta) (dtV a):=by
  refine ⟨fun hp δ=>Out.same_bind (ha.pure hp δ) fun x=>?_,fun A L B H δ σ Q j k=>?_⟩
  · split
    · rfl
    · trivial
  · refine ha.run A L B H δ σ _ j (Post.bind (γ:=D) k fun x δ1 vs A1 H1 e1 n1 j1 k1 v ev=>?_)
    subst ev
    obtain ⟨u',f1,e0,h1⟩:=j1.one
    cases e0
    split at k1
    · rename_i c
      obtain ⟨rfl,_,_⟩:=h1.leafv
      exact ⟨c,rfl,k1 [] A1 H1 n1 j1.drop⟩
    · exact k1.elim
def dtAnd (a b:DT):DT:=fun δ=>(a δ).bind fun x δ1=>match x with | true=>b δ1 | false=>.ok false δ1
def dtOr (a b:DT):DT:=fun δ=>(a δ).bind fun x δ1=>match x with | true=>.ok true δ1 | false=>b δ1
def dtNot (a:DT):DT:=fun δ=>(a δ).bind fun x δ1=>.ok (!x) δ1
theorem sb_and {a b:DT} (ha:SB cl xf W p tt a) (hb:SB cl xf W p tu b):SB cl xf W p (tAnd tt tu) (dtAnd a b):=by
  refine ⟨fun hp δ=>Out.same_bind (ha.pure hp δ) fun x=>?_,fun A L B H δ σ Q j k=>?_⟩
  · split
    · exact hb.pure hp δ
    · rfl
  · refine ha.run A L B H δ σ _ j (Post.bind (γ:=D) k fun x δ1 vs A1 H1 e1 n1 j1 k1=>?_)
    cases x with
    | true=>rw [if_pos rfl]; exact hb.run A1 L B H1 δ1 σ Q j1.drop (Post.step k1 n1)
    | false=>exact k1 [] A1 H1 n1 j1.drop
theorem sb_or {a b:DT} (ha:SB cl xf W p tt a) (hb:SB cl xf W p tu b):SB cl xf W p (tOr tt tu) (dtOr a b):=by
  refine ⟨fun hp δ=>Out.same_bind (ha.pure hp δ) fun x=>?_,fun A L B H δ σ Q j k=>?_⟩
  · split
    · rfl
    · exact hb.pure hp δ
  · refine ha.run A L B H δ σ _ j (Post.bind (γ:=D) k fun x δ1 vs A1 H1 e1 n1 j1 k1=>?_)
    cases x with
    | true=>exact k1 [] A1 H1 n1 j1.drop
    | false=>exact hb.run A1 L B H1 δ1 σ Q j1.drop (Post.step k1 n1)
theorem sb_not {a:DT} (ha:SB cl xf W p tt a):SB cl xf W p (tNot tt) (dtNot a):=by
  refine ⟨fun hp δ=>Out.same_bind (ha.pure hp δ) fun x=>rfl,fun A L B H δ σ Q j k=>?_⟩
  exact ha.run A L B H δ σ _ j (Post.bind (γ:=D) k fun x δ1 vs A1 H1 e1 n1 j1 k1=>k1 [] A1 H1 n1 j1.drop)
def dCh (f g:D → D → Option D) (a b c:DE):DE:=fun δ=>(both a b δ).bind fun xy δ1=>match f xy.1 xy.2 with
  | some (.v (.bl true))=>(c δ1).bind fun z δ2=>Out.ofO ((g xy.2 z).filter D.kept) δ2
  | some (.v (.bl false))=>.ok (.bl false) δ1
  | _=>.bad
theorem Jt.triple {x y z:D} {ws:List V} (j:Jt p cl A L B H [x,y,z] ws δ σ):∃ u w t f1 f2 f3,ws = [u,w,t] ∧ Rp cl A L H false x u f1 ∧ Rp cl A L H false y w f2 ∧ Rp cl A L H false z t f3:=by
  obtain ⟨f0,g,h1,h2,h3,h4⟩:=j.ex
  simp only [Rps] at h1
  obtain ⟨u,vs',f1,f2,rfl,rfl,h5,w,vs'',f3,f4,rfl,rfl,h6,t,vs3,f5,f6,rfl,rfl,h7,rfl,rfl⟩:=h1
  exact ⟨u,w,t,f1,f3,f5,rfl,h5,h6,h7⟩
theorem se_ch {r r':R2} {f g:D → D → Option D} {a b c:DE} (hf:POp cl r f) (hg:POp cl r' g) (ha:SE cl xf W p ta a) (hb:SE cl xf W p tb b) (hc:SE cl xf W p tc c):SE cl xf W p (tChain r r' ta tb tc) (dCh f g a b c):=by
  refine ⟨fun hp δ=>Out.same_bind (Zjx ha hb hp) fun x=>?_,fun A L B H δ σ Q j k=>?_⟩
  · split
    · exact Out.same_bind (hc.pure hp δ) fun x=>Out.same_ofO
    · rfl
    · trivial
  · refine two ha hb j (Post.bind (γ:=D) k fun x δ1 vs A1 H1 e1 n1 j1 k1 u w ev=>?_)
    subst ev
    obtain ⟨x,y⟩:=x
    obtain ⟨u',w',f1,f2,e0,h1,h2⟩:=j1.pair
    cases e0
    split at k1
    · rename_i e2
      refine hf A1 L H1 x y u w f1 f2 _ _ h1.weak h2.weak e2 fun v fp h3 _=>?_
      obtain ⟨rfl,_,_⟩:=h3.leafv
      refine ⟨true,rfl,?_⟩
      rw [if_pos rfl]
      obtain ⟨B',j2,hb',hj⟩:=j1.seq
      refine hc.run A1 L B' H1 δ1 σ _ j2 ?_
      have k2:=Post.step (A':=A1) (H':=H1) (Post.bind (γ:=D) (den0:=fun z=>[x,y,z]) (Q0:=fun z vs H2=>∀ t,vs = [u,w,t] → r' w t H2 Q) k1 fun z δ2 vs A2 H2 e3 n2 j3 k3 t ev=>?_) n1
      · exact Post.seq (ts:=[x,y]) (ws:=[u,w]) k2 (ZeS hc.pure rfl) j1.lb hb' hj (fun a=>rfl) (fun a vs H2 q t et=>q t (by rw [et]; rfl))
      · subst ev
        obtain ⟨o,eo,k4⟩:=Post.ofO k3
        obtain ⟨e5,e6⟩:=Option.filter_eq_some_iff.mp eo
        obtain ⟨u2,w2,t2,g1,g2,g3,e7,h5,h6,h7⟩:=j3.triple
        cases e7
        exact hg A2 L H2 y z w t g2 g3 o Q h6.weak h7.weak e5 fun v fp h8 _=>k4 [v] A2 H2 n2 (j3.kept e6 h8) v rfl
    · rename_i e2
      refine hf A1 L H1 x y u w f1 f2 _ _ h1.weak h2.weak e2 fun v fp h3 _=>?_
      obtain ⟨rfl,_,_⟩:=h3.leafv
      exact ⟨false,rfl,k1 _ A1 H1 n1 (j1.leaf rfl) _ rfl⟩
    · exact k1.elim
mutual
def pd:D → Option PyData
  | .v .non=>some .none
  | .v (.bl b)=>some (.bool b)
  | .v (.int i)=>some (.int i)
  | .v (.str s)=>some (.str s)
  | .n .lst _ xs=>(pds xs).map .list
  | .n .tup _ xs=>(pds xs).map .tuple
  | _=>none
def pds:List D → Option (List PyData)
  | []=>some []
  | d :: ds=>(pd d).bind fun x=>(pds ds).map fun xs=>x :: xs
end
mutual
theorem Rp.dp {K:PySem.W.Frag}:∀ {d:D} {v:V} {fp:List Addr} {b:Bool} {e:PyData},Rp cl A L H b d v fp → pd d = some e → Dp K H v e
  | .v .non,v,fp,b,e,h,he=>by obtain ⟨rfl,_,_⟩:=h.leafv; simp only [pd,Option.some.injEq] at he; subst he; exact .non
  | .v (.bl c),v,fp,b,e,h,he=>by obtain ⟨rfl,_,_⟩:=h.leafv; simp only [pd,Option.some.injEq] at he; subst he; exact .bl c
  | .v (.int i),v,fp,b,e,h,he=>by obtain ⟨rfl,_,_⟩:=h.leafv; simp only [pd,Option.some.injEq] at he; subst he; exact .int i
  | .v (.str i),v,fp,b,e,h,he=>by obtain ⟨rfl,_,_⟩:=h.leafv; simp only [pd,Option.some.injEq] at he; subst he; exact .str i
  | .v (.byt i),v,fp,b,e,h,he=>by simp [pd] at he
  | .v (.flt i),v,fp,b,e,h,he=>by simp [pd] at he
  | .v (.ref i),v,fp,b,e,h,he=>by simp [pd] at he
  | .v (.ty i),v,fp,b,e,h,he=>by simp [pd] at he
  | .n .lst w xs,v,fp,b,e,h,he=>by
    simp only [pd] at he
    obtain ⟨es,h1,rfl⟩:=Option.map_eq_some_iff.mp he
    obtain ⟨a,o,vs,fp',rfl,ho,hs,hr,hf⟩:=h.node
    cases hs
    exact .lst (SqL.of ho) (Rps.dp hr h1)
  | .n .tup w xs,v,fp,b,e,h,he=>by
    simp only [pd] at he
    obtain ⟨es,h1,rfl⟩:=Option.map_eq_some_iff.mp he
    obtain ⟨a,o,vs,fp',rfl,ho,hs,hr,hf⟩:=h.node
    cases hs
    exact .tup (SqT.of ho) (Rps.dp hr h1)
  | .s xs,v,fp,b,e,h,he=>by simp [pd] at he
  | .n (.dct ks) w xs,v,fp,b,e,h,he=>by simp [pd] at he
  | .n (.dcl ks) w xs,v,fp,b,e,h,he=>by simp [pd] at he
  | .n (.obj c fs) w xs,v,fp,b,e,h,he=>by simp [pd] at he
  | .n (.fn c) w xs,v,fp,b,e,h,he=>by simp [pd] at he
  | .n (.code c) w xs,v,fp,b,e,h,he=>by simp [pd] at he
  | .n .cell w xs,v,fp,b,e,h,he=>by simp [pd] at he
theorem Rps.dp {K:PySem.W.Frag}:∀ {ds:List D} {vs:List V} {fp:List Addr} {b:Bool} {es:List PyData},Rps cl A L H b ds vs fp → pds ds = some es → DpAll K H vs es
  | [],vs,fp,b,es,h,he=>by
    simp only [Rps] at h
    simp only [pds,Option.some.injEq] at he
    rw [h.1,← he]
    exact .nil
  | d :: ds,vs,fp,b,es,h,he=>by
    simp only [Rps] at h
    obtain ⟨v,vs',f1,f2,rfl,rfl,h3,h4⟩:=h
    simp only [pds] at he
    obtain ⟨x,e1,e2⟩:=Option.bind_eq_some_iff.mp he
    obtain ⟨xs,e3,rfl⟩:=Option.map_eq_some_iff.mp e2
    exact .cons (Rp.dp h3 e1) (Rps.dp h4 e3)
end
def eqD (x y:D):Option D:=(pd x).bind fun a=>(pd y).bind fun b=>if SeqAt.shaped a = true ∧ SeqAt.shaped b = true then some (.bl (PyData.eqv a b)) else none
def neD (x y:D):Option D:=(pd x).bind fun a=>(pd y).bind fun b=>if SeqAt.shaped a = true ∧ SeqAt.shaped b = true then some (.bl (!PyData.eqv a b)) else none
theorem pop_eq {K:PySem.W.Frag}:POp cl (rEqD K) eqD:=by
  intro A L H x y u w f1 f2 z Q h1 h2 e k
  unfold eqD at e
  obtain ⟨a,e1,e⟩:=Option.bind_eq_some_iff.mp e
  obtain ⟨b,e2,e⟩:=Option.bind_eq_some_iff.mp e
  split at e
  · rename_i hs
    cases e
    exact ⟨a,b,h1.dp e1,h2.dp e2,hs.1,hs.2,k _ [] (Rp.leaf rfl) (by simp)⟩
  · cases e
theorem pop_ne {K:PySem.W.Frag}:POp cl (rNeD K) neD:=by
  intro A L H x y u w f1 f2 z Q h1 h2 e k
  unfold neD at e
  obtain ⟨a,e1,e⟩:=Option.bind_eq_some_iff.mp e
  obtain ⟨b,e2,e⟩:=Option.bind_eq_some_iff.mp e
  split at e
  · rename_i hs
    cases e
    exact ⟨a,b,h1.dp e1,h2.dp e2,hs.1,hs.2,k _ [] (Rp.leaf rfl) (by simp)⟩
  · cases e
theorem ZhV:∀ x y z,eqD x y = some z → z.kept = true:=by
  intro x y z e
  unfold eqD at e
  obtain ⟨a,e1,e⟩:=Option.bind_eq_some_iff.mp e
  obtain ⟨b,e2,e⟩:=Option.bind_eq_some_iff.mp e
  split at e
  · cases e; rfl
  · cases e
theorem ZhK:∀ x y z,neD x y = some z → z.kept = true:=by
  intro x y z e
  unfold neD at e
  obtain ⟨a,e1,e⟩:=Option.bind_eq_some_iff.mp e
  obtain ⟨b,e2,e⟩:=Option.bind_eq_some_iff.mp e
  split at e
  · cases e; rfl
  · cases e
def isND:D → Option D | .v .non=>some (.bl true) | .v _=>some (.bl false) | .s _=>some (.bl false) | .n _ _ _=>some (.bl false)
theorem isN_eq {x:D} {u:V} {f1:List Addr} (h:Rp cl A L H true x u f1):isND x = some (.bl (decide (u = .non))):=by
  match x,h with
  | .v s,h =>
    obtain ⟨rfl,_,_⟩:=h.leafv
    cases u <;> simp [isND]
  | .s ns,h =>
    obtain ⟨a,rfl,_⟩:=h.scr
    simp [isND]
  | .n k w ds,h =>
    obtain ⟨a,o,vs,fp',rfl,_⟩:=h.nodeN
    simp [isND]
def notND (x:D):Option D:=(isND x).bind notD
theorem pun_notN:PUn cl (fun x H Q=>Q (.bl (!decide (x = .non))) H) notND:=by
  intro A L H x u f1 z Q h1 e k
  unfold notND at e
  rw [isN_eq h1] at e
  cases e
  exact k _ [] (Rp.leaf rfl) (by simp)
end
end Fs
namespace Fs
open PySem L2
theorem Kp.refl {ws:Nat → Bool} (σ:L2.St):Kp ws σ σ:=⟨rfl,fun _ _=>rfl⟩
section
variable (cl:Ec) (xf:Nat → List Str) (W:WX) (ws:Nat → Bool)
def SS (ts:TS) (ds:DS):Prop:=∀ A L B H δ σ E,Jt false cl A L B H [] [] δ σ → PostS cl xf W ws (ds δ) A L B H σ E → ts E σ H
def SG (g:TG) (tg:D → Sl → Option Sl):Prop:=∀ p A L B H δ δ' σ d v Q,Jt p cl A L B H [d] [v] δ σ → tg d δ = some δ' → (∀ σ',Kp ws σ σ' → Jt p cl A L B H [] [] δ' σ' → Q σ' H) → g v σ H Q
end
section
variable {cl:Ec} {xf:Nat → List Str} {W:WX} {ws:Nat → Bool} {A A' L B:Addr → Prop} {H H':Hp} {δ δ':Sl} {σ σ':L2.St} {p q b:Bool} {te ta tb tc:TE} {tA:TA} {tt tu:TT} {t u:TS}
theorem PostS.under {o:Out Flow} {E:Ends} {B':Addr → Prop} (h:PostS cl xf W ws o A L B H σ E) (hb:∀ a,B a → B' a) (lb:∀ a,L a → B a):PostS cl xf W ws o A L B' H σ E:=by
  cases o with
  | bad=>exact h
  | exc c xs s=>exact fun d vs A2 H2 σ2 n2 k2 x j=>h d vs A2 H2 σ2 (n2.weak hb) k2 x (j.lower hb lb)
  | ok f s =>
    cases f with
    | nx=>exact fun A2 H2 σ2 n2 k2 j=>h A2 H2 σ2 (n2.weak hb) k2 (j.lower hb lb)
    | bk=>exact fun A2 H2 σ2 n2 k2 j=>h A2 H2 σ2 (n2.weak hb) k2 (j.lower hb lb)
    | ct=>exact fun A2 H2 σ2 n2 k2 j=>h A2 H2 σ2 (n2.weak hb) k2 (j.lower hb lb)
    | rt d=>exact fun v A2 H2 σ2 n2 k2 j=>h v A2 H2 σ2 (n2.weak hb) k2 (j.lower hb lb)
theorem PostS.bind {α:Type} {o:Out α} {f:α → Sl → Out Flow} {E:Ends} {den0:α → List D} {Q0:α → List V → Hp → Prop} (h:PostS cl xf W ws (o.bind f) A L B H σ E)
    (k:∀ a δ1 vs A' H',o = .ok a δ1 → Nx A B H A' H' → Jt false cl A' L B H' (den0 a) vs δ1 σ → PostS cl xf W ws (f a δ1) A L B H σ E → Q0 a vs H'):Post cl xf W false o den0 A L B H σ Q0:=by
  cases o with
  | ok a s=>exact fun vs A' H' n j=>k a s vs A' H' rfl n j h
  | exc c xs s=>exact fun d vs A' H' n x j=>h d vs A' H' σ n (Kp.refl σ) x j
  | bad=>exact h
def dsNext:DS:=fun δ=>.ok .nx δ
def dsSeq (a b:DS):DS:=fun δ=>(a δ).bind fun f δ1=>match f with | .nx=>b δ1 | f=>.ok f δ1
theorem ZkA:SS cl xf W ws tNext dsNext:=fun A L B H δ σ E j k=>k A H σ (Nx.refl j.ba) (Kp.refl σ) j
theorem ss_seq {a b:DS} (ha:SS cl xf W ws t a) (hb:SS cl xf W ws u b):SS cl xf W ws (tSeq t u) (dsSeq a b):=fun A L B H δ σ E j k=>by
  refine ha A L B H δ σ _ j ?_
  unfold dsSeq at k
  cases e:a δ with
  | bad=>rw [e] at k; exact k
  | exc c xs s=>rw [e] at k; exact k
  | ok f s =>
    rw [e] at k
    simp only [Out.bind] at k
    cases f with
    | nx=>exact fun A2 H2 σ2 n2 k2 j2=>hb A2 L B H2 s σ2 E j2 (PostS.step k n2 k2)
    | bk=>exact k
    | ct=>exact k
    | rt d=>exact k
theorem Jt.put {d:D} {v:V} {i:Nat} (j:Jt p cl A L B H [d] [v] δ σ):Jt p cl A L B H [] [] (δ.set i (some d)) (σ.set i (some v)):=by
  by_cases hi:i < δ.length
  · obtain ⟨f,g,h1,h2,h3,h4,h5⟩:=j.ex
    simp only [Rps] at h1
    obtain ⟨u,vs',f1,f2,e,rfl,h6,rfl,rfl⟩:=h1
    cases e
    rw [List.append_nil] at h3 h4
    obtain ⟨g',k1,k2,k3⟩:=h2.put hi h6.weak h3
    refine ⟨⟨[],g',by simp [Rps],k1,by simpa using k2,by simp,fun hp a ha=>?_⟩,j.lb,j.ba,j.ad,j.tb⟩
    rcases List.mem_append.mp (k3 a ha) with q | q
    · exact h4 a q
    · exact h5 hp a q
  · have hl:δ.length = σ.length:=by
      obtain ⟨g,h2,_⟩:=j.drop0
      exact h2.length
    rw [List.set_eq_of_length_le (by omega),List.set_eq_of_length_le (by omega)]
    exact j.drop
theorem Jt.clear {i:Nat} {ts:List D} {vs:List V} (j:Jt p cl A L B H ts vs δ σ):Jt p cl A L B H ts vs (δ.set i none) σ:=by
  obtain ⟨f,g,h1,h2,h3,h4,h5⟩:=j.ex
  have nd:=List.nodup_append.mp h3
  obtain ⟨g',k1,k2,k3⟩:=h2.drop (i:=i) nd.2.1
  exact ⟨⟨f,g',h1,k1,List.nodup_append.mpr ⟨nd.1,k2,fun a ha c hc=>nd.2.2 a ha c (k3 c hc)⟩,h4,fun hp a ha=>h5 hp a (k3 a ha)⟩,j.lb,j.ba,j.ad,j.tb⟩
theorem Jt.blur {i:Nat} {ts:List D} {vs:List V} {x:Option V} (j:Jt p cl A L B H ts vs δ σ) (e:δ[i]? = some none):Jt p cl A L B H ts vs δ (σ.set i x):=by
  obtain ⟨f,g,h1,h2,h3,h4,h5⟩:=j.ex
  exact ⟨⟨f,g,h1,h2.blur e,h3,h4,h5⟩,j.lb,j.ba,j.ad,j.tb⟩
def dsAsg (e:DE) (tg:D → Sl → Option Sl):DS:=fun δ=>(e δ).bind fun d δ1=>match tg d δ1 with | some δ2=>.ok .nx δ2 | none=>.bad
def tgN (i:Nat):D → Sl → Option Sl:=fun d δ=>some (δ.set i (some d))
theorem ZfO {i:Nat} (h:ws i = true):SG cl ws (gName i) (tgN i):=fun p A L B H δ δ' σ d v Q j e k=>by
  cases e
  exact k _ (Kp.set h) j.put
theorem ss_asg {e:DE} {g:TG} {tg:D → Sl → Option Sl} (he:SE cl xf W false te e) (hg:SG cl ws g tg):SS cl xf W ws (tAsg te g) (dsAsg e tg):=fun A L B H δ σ E j k=>by
  refine he.run A L B H δ σ _ j (PostS.bind k fun d δ1 vs A1 H1 e1 n1 j1 k1 v ev=>?_)
  subst ev
  split at k1
  · rename_i δ2 e2
    exact hg false A1 L B H1 δ1 δ2 σ d v _ j1 e2 fun σ' kp j2=>k1 A1 H1 σ' n1 kp j2
  · exact k1.elim
def tgs:List (D → Sl → Option Sl) → List D → Sl → Option Sl
  | [],[],δ=>some δ
  | t :: ts,d :: ds,δ=>(t d δ).bind fun δ1=>tgs ts ds δ1
  | _,_,_=>none
def tgT (ts:List (D → Sl → Option Sl)):D → Sl → Option Sl
  | .n .tup .shr ds,δ=>if ds.all D.kept = true ∧ ds.length = ts.length then tgs ts ds δ else none
  | _,_=>none
def SGs (cl:Ec) (ws:Nat → Bool) (g:TGs) (ts:List (D → Sl → Option Sl)):Prop:=∀ p A L B H δ δ' σ ds vs Q,Jt p cl A L B H [] [] δ σ → Rps cl A L H false ds vs [] → tgs ts ds δ = some δ' → (∀ σ',Kp ws σ σ' → Jt p cl A L B H [] [] δ' σ' → Q σ' H) → g vs σ H Q
theorem ZkN:SGs cl ws gNil []:=fun p A L B H δ δ' σ ds vs Q j h e k=>by
  match ds,e with
  | [],e =>
    simp only [tgs,Option.some.injEq] at e
    subst e
    simp only [Rps] at h
    exact ⟨h.1,k σ (Kp.refl σ) j⟩
theorem ZjX {g:TG} {gs:TGs} {t:D → Sl → Option Sl} {ts:List (D → Sl → Option Sl)} (h1:SG cl ws g t) (h2:SGs cl ws gs ts):SGs cl ws (gCons g gs) (t :: ts):=fun p A L B H δ δ' σ ds vs Q j h e k=>by
  match ds,e with
  | d :: ds,e =>
    simp only [tgs] at e
    obtain ⟨δ1,e1,e2⟩:=Option.bind_eq_some_iff.mp e
    simp only [Rps] at h
    obtain ⟨v,vs',f1,f2,rfl,e3,h3,h4⟩:=h
    have e3:=List.append_eq_nil_iff.mp e3.symm
    obtain ⟨rfl,rfl⟩:=e3
    refine ⟨v,vs',rfl,?_⟩
    have j1:Jt p cl A L B H [d] [v] δ σ:=by
      obtain ⟨g0,k2,k3,k5⟩:=j.drop0
      exact ⟨⟨[],g0,by simp only [Rps]; exact ⟨v,[],[],[],rfl,rfl,h3,rfl,rfl⟩,k2,by simpa using k3,by simp,k5⟩,j.lb,j.ba,j.ad,j.tb⟩
    exact h1 p A L B H δ δ1 σ d v _ j1 e1 fun σ1 kp j2=>h2 p A L B H δ1 δ' σ1 ds vs' Q j2 h4 e2 fun σ2 kp2 j3=>k σ2 (kp.trans kp2) j3
theorem sg_tup {K:PySem.W.Frag} {g:TGs} {ts:List (D → Sl → Option Sl)} {n:Nat} (hn:n = ts.length) (h:SGs cl ws g ts):SG cl ws (gTup K n g) (tgT ts):=fun p A L B H δ δ' σ d v Q j e k=>by
  unfold tgT at e
  split at e
  · rename_i ds
    split at e
    · rename_i hk
      obtain ⟨u,f1,e0,h1⟩:=j.one
      cases e0
      obtain ⟨a,o,vs,fp',rfl,ho,hs,hr,hf⟩:=h1.node
      cases hs
      refine ⟨a,vs,rfl,SqT.of ho,by rw [← hr.length,hn]; exact hk.2,?_⟩
      exact h p A L B H δ δ' σ ds vs Q j.drop (hr.keptS hk.1) e k
    · cases e
  · cases e
def dsRet (e:DE):DS:=fun δ=>(e δ).bind fun d δ1=>.ok (.rt d) δ1
theorem ss_ret {e:DE} (he:SE cl xf W false te e):SS cl xf W ws (tRet te) (dsRet e):=fun A L B H δ σ E j k=>by
  refine he.run A L B H δ σ _ j (PostS.bind k fun d δ1 vs A1 H1 e1 n1 j1 k1 v ev=>?_)
  subst ev
  exact k1 v A1 H1 σ n1 (Kp.refl σ) j1
def dMv (i:Nat):DE:=fun δ=>match (δ[i]?).join with
  | some d=>if d.free then .ok d (δ.set i none) else .bad
  | none=>.bad
theorem se_mv {i:Nat}:SE cl xf W false (tVar i) (dMv i):=by
  refine ⟨fun z=>(by cases z),fun A L B H δ σ Q j k=>?_⟩
  unfold dMv at k
  split at k
  · rename_i d e
    split at k
    · rename_i hf
      obtain ⟨f,g,h1,h2,h3,h4,h5⟩:=j.ex
      simp only [Rps] at h1
      obtain ⟨_,rfl⟩:=h1
      obtain ⟨v,f1,f2,k1,k2,k3,k4,k5⟩:=h2.take (join_some e) (by simpa using h3)
      refine ⟨v,k1,k [v] A H (Nx.refl j.ba) ⟨⟨f1,f2,?_,k3,k4,fun a ha=>h5 rfl a ((k5 a).mp (List.mem_append_left _ ha)),fun _ a ha=>h5 rfl a ((k5 a).mp (List.mem_append_right _ ha))⟩,j.lb,j.ba,j.ad,j.tb⟩ v rfl⟩
      simp only [Rps]
      exact ⟨v,[],f1,[],rfl,by simp,k2.free hf,rfl,rfl⟩
    · exact k.elim
  · exact k.elim
theorem ZcG {i:Nat} {v:V} (h:σ[i]? = some (some v)):σ.set i (some v) = σ:=by
  obtain ⟨hl,e⟩:=List.getElem?_eq_some_iff.mp h
  rw [← e]
  exact List.set_getElem_self hl
def dsDrop (e:DE):DS:=fun δ=>(e δ).bind fun _ δ1=>.ok .nx δ1
theorem ZkD {e:DE} (he:SE cl xf W false te e):SS cl xf W ws (tDrop te) (dsDrop e):=fun A L B H δ σ E j k=>by
  refine he.run A L B H δ σ _ j (PostS.bind k fun d δ1 vs A1 H1 e1 n1 j1 k1 v ev=>?_)
  exact k1 A1 H1 σ n1 (Kp.refl σ) j1.drop
def dsIf (c:DT) (a b:DS):DS:=fun δ=>(c δ).bind fun x δ1=>match x with | true=>a δ1 | false=>b δ1
theorem ss_if {c:DT} {a b:DS} (hc:SB cl xf W false tt c) (ha:SS cl xf W ws t a) (hb:SS cl xf W ws u b):SS cl xf W ws (tIfS tt t u) (dsIf c a b):=fun A L B H δ σ E j k=>by
  refine hc.run A L B H δ σ _ j (PostS.bind k fun x δ1 vs A1 H1 e1 n1 j1 k1=>?_)
  cases x with
  | true=>rw [if_pos rfl]; exact ha A1 L B H1 δ1 σ E j1.drop (PostS.step k1 n1 (Kp.refl σ))
  | false=>exact hb A1 L B H1 δ1 σ E j1.drop (PostS.step k1 n1 (Kp.refl σ))
structure SI (cl:Ec) (xf:Nat → List Str) (W:WX) (p:Bool) (wi:TI) (di:DA):Prop where
  pure:p = true → ∀ δ,(di δ).same δ
  run:∀ A L B H δ σ R,Jt p cl A L B H [] [] δ σ → (match di δ with
    | .ok its δ'=>∀ J A' H' B',Nx A B H A' H' → (∀ a,B a → B' a) → Jt p cl A' L B' H' [] [] δ' σ → ItOk cl L B' J its A' H' → R J H'
    | .exc c xs δ'=>PostX cl xf W p c xs δ' A L B H σ
    | .bad=>False) → wi σ H R
def loop (tg:D → Sl → Option Sl) (body:DS):List D → Sl → Out Flow
  | [],δ=>.ok .nx δ
  | x :: xs,δ=>match tg x δ with
    | none=>.bad
    | some δ1=>(body δ1).bind fun f δ2=>match f with
      | .nx=>loop tg body xs δ2
      | .ct=>loop tg body xs δ2
      | .bk=>.ok .nx δ2
      | .rt d=>.ok (.rt d) δ2
def dsFor (di:DA) (tg:D → Sl → Option Sl) (body:DS):DS:=fun δ=>(di δ).bind fun its δ1=>loop tg body its δ1
theorem ss_for {wi:TI} {di:DA} {g:TG} {tg:D → Sl → Option Sl} {body:DS} (hi:SI cl xf W false wi di) (hg:SG cl ws g tg) (hb:SS cl xf W ws t body):SS cl xf W ws (tFor wi g t) (dsFor di tg body):=fun A L B H δ σ E j k=>by
  refine hi.run A L B H δ σ _ j ?_
  unfold dsFor at k
  cases e:di δ with
  | bad=>rw [e] at k; exact k
  | exc c xs s=>rw [e] at k; exact fun d vs A' H' n x j=>k d vs A' H' σ n (Kp.refl σ) x j
  | ok its δ1 =>
    rw [e] at k
    simp only [Out.bind] at k
    intro J A1 H1 B1 n1 hb1 j1 hit
    have k0:PostS cl xf W ws (loop tg body its δ1) A1 L B1 H1 σ E:=(PostS.step k n1 (Kp.refl σ)).under hb1 j.lb
    refine ⟨fun i m σi Hi=>∃ Ai δi,m = its.length - i ∧ i ≤ its.length ∧ ItOk cl L B1 J its Ai Hi ∧ Jt false cl Ai L B1 Hi [] [] δi σi ∧ PostS cl xf W ws (loop tg body (its.drop i) δi) Ai L B1 Hi σi E,⟨its.length,A1,δ1,by simp,Nat.zero_le _,hit,j1,by rw [List.drop_zero]; exact k0⟩,?_⟩
    rintro i m σi Hi ⟨Ai,δi,rfl,hi',hit',ji,ki⟩
    have tf:=hit' Ai Hi (Nx.refl ji.ba)
    by_cases hlt:i < its.length
    · refine .inr ⟨tf.1 i hlt,fun σ2 H2=>∃ A2 δ2,ItOk cl L B1 J its A2 H2 ∧ Jt false cl A2 L B1 H2 [] [] δ2 σ2 ∧ PostS cl xf W ws (loop tg body (its.drop (i + 1)) δ2) A2 L B1 H2 σ2 E,fun σ2 H2 ⟨A2,δ2,h1,h2,h3⟩=>⟨its.length - (i + 1),by omega,A2,δ2,rfl,hlt,h1,h2,h3⟩,fun x H2 hy=>?_⟩
      have ed:its.drop i = its[i] :: its.drop (i + 1):=List.drop_eq_getElem_cons hlt
      rw [ed] at ki
      unfold loop at ki
      obtain ⟨A2,n2,j2⟩:=tf.2.2 i x H2 its[i] (List.getElem?_eq_getElem hlt) hy false B1 δi σi (fun _ h=>h) ji
      split at ki
      · exact ki.elim
      · rename_i δ2 e2
        refine hg false A2 L B1 H2 δi δ2 σi its[i] x _ j2 e2 fun σ2 kp2 j3=>?_
        refine hb A2 L B1 H2 δ2 σ2 _ j3 ?_
        have ki2:=PostS.step ki n2 kp2
        cases e3:body δ2 with
        | bad=>rw [e3] at ki2; exact ki2
        | exc c xs s=>rw [e3] at ki2; exact ki2
        | ok f s =>
          rw [e3] at ki2
          simp only [Out.bind] at ki2
          cases f with
          | nx=>exact fun A3 H3 σ3 n3 kp3 j4=>⟨A3,s,(hit'.step n2).step n3,j4,PostS.step ki2 n3 kp3⟩
          | ct=>exact fun A3 H3 σ3 n3 kp3 j4=>⟨A3,s,(hit'.step n2).step n3,j4,PostS.step ki2 n3 kp3⟩
          | bk=>exact ki2
          | rt d=>exact ki2
    · have ed:its.drop i = []:=List.drop_eq_nil_of_le (by omega)
      rw [ed] at ki
      exact .inl ⟨tf.2.1 i (by omega),ki Ai Hi σi (Nx.refl ji.ba) (Kp.refl σi) ji⟩
end
end Fs
namespace Fs
open PySem L2
section
variable {cl:Ec} {xf:Nat → List Str} {W:WX} {ws:Nat → Bool} {A A' L B:Addr → Prop} {H H':Hp} {δ δ':Sl} {σ σ':L2.St} {p q b:Bool} {te ta tb tc:TE} {tA:TA} {tt tu:TT} {t u:TS} {ts:List D} {vs:List V}
theorem Jt.seq2 (j:Jt p cl A L B H ts vs δ σ):∃ B',Jt p cl A L B' H [] [] δ σ ∧ (∀ a,B a → B' a) ∧
    ∀ A2 H2 us xs δ2 σ2,(p = true → δ2 = δ ∧ σ2 = σ) → Nx A B' H A2 H2 → Jt p cl A2 L B' H2 us xs δ2 σ2 → Jt p cl A2 L B H2 (ts ++ us) (vs ++ xs) δ2 σ2:=by
  cases p with
  | true =>
    refine ⟨A,j.drop.toPure,j.ba,fun A2 H2 us xs δ2 σ2 e n j2=>?_⟩
    obtain ⟨rfl,rfl⟩:=e rfl
    exact j.backP (f:=[]) n j2
  | false =>
    obtain ⟨f,h1,h2,h3,h4⟩:=j.hide
    exact ⟨_,h4,fun a h=>.inl h,fun A2 H2 us xs δ2 σ2 _ n j2=>Jt.back j h1 h2 h3 j.lb n j2⟩
theorem Jt.look {k:Kd} {ds:List D} {v:V} {ws:List V} (j:Jt p cl A L B H (.n k .own ds :: ts) (v :: ws) δ σ) (hk:ts.all D.kept = true) :
    ∃ a o us f,v = .ref a ∧ H a = some o ∧ Shape cl k a us o ∧ Rps cl A L H false ds us f ∧ Rps cl A L H false ts ws [] ∧ f.Nodup ∧
    ∀ k' us' o' ds' f',Shape cl k' a us' o' → k'.mut = true → Rps cl A L H false ds' us' f' → f'.Nodup → (∀ c ∈ f',c ∈ f) → Nx A B H A (upd H a o') ∧ Jt p cl A L B (upd H a o') [.n k' .own ds'] [.ref a] δ σ:=by
  obtain ⟨f,g,h1,h2,h3,h4,h5⟩:=j.ex
  simp only [Rps,Rp] at h1
  obtain ⟨v0,vs',f1,f2,e,rfl,⟨a,o,us,rfl,ho,hs,hA,fp',rfl,hr⟩,h6⟩:=h1
  cases e
  have e2:=Zf6 hk h6
  subst e2
  obtain ⟨hs,hm⟩:=hs.own
  have nd:=List.nodup_append.mp h3
  have nd2:=List.nodup_cons.mp (List.nodup_append.mp nd.1).1
  refine ⟨a,o,us,fp',rfl,ho,hs,hr,h6,nd2.2,fun k' us' o' ds' f' s' m' r' n' c'=>?_⟩
  have nB:¬ B a:=h4 a (by simp)
  have nf:∀ c ∈ f',c ≠ a:=fun c hc e=>by subst e; exact nd2.1 (c' c hc)
  have ng:∀ c ∈ g,c ≠ a:=fun c hc e=>by subst e; exact nd.2.2 c (by simp) c hc rfl
  have st:∀ c u,H c = some u → ¬ A c → NT u → upd H a o' c = some u ∧ ¬ A c:=fun c u h n _=>⟨by rw [upd_ne (show c ≠ a from fun e=>n (by rw [e]; exact hA))]; exact h,n⟩
  refine ⟨⟨fun c h=>.inl h,fun c u h n t=>(st c u h n t).1,fun c h=>⟨upd_ne (show c ≠ a from fun e=>nB (by rw [← e]; exact h)),j.ba c h⟩,fun c h=>?_⟩,⟨⟨a :: f',g,?_,h2.step st (fun c hc=>⟨upd_ne (ng c hc),(h2.inA c hc).1⟩) (fun c hc=>⟨upd_ne (show c ≠ a from fun e=>nB (by rw [← e]; exact j.lb c hc)),hc⟩),?_,?_,h5⟩,j.lb,j.ba,fun c h=>?_,Tb.put j.tb ho hs hm⟩⟩
  · by_cases e:c = a
    · subst e; rw [upd_same] at h; cases h
    · rw [upd_ne e] at h; exact h
  · simp only [Rps,Rp]
    exact ⟨.ref a,[],a :: f',[],rfl,by simp,⟨a,o',us',rfl,upd_same,.inl ⟨s',fun _=>m'⟩,hA,f',rfl,r'.step st (fun c hc=>⟨upd_ne (nf c hc),(r'.inA c hc).1⟩) (by simp)⟩,rfl,rfl⟩
  · rw [List.cons_append]
    refine List.nodup_cons.mpr ⟨fun q=>?_,List.nodup_append.mpr ⟨n',nd.2.1,fun c hc d hd=>nd.2.2 c (by simp [c' c hc]) d hd⟩⟩
    rcases List.mem_append.mp q with q | q
    · exact nf a q rfl
    · exact ng a q rfl
  · intro c hc
    rcases List.mem_cons.mp hc with rfl | hc
    · exact nB
    · exact h4 c (by simp [c' c hc])
  · by_cases e:c = a
    · subst e; rw [upd_same]; simp
    · rw [upd_ne e]; exact j.ad c h
theorem Jt.freezeTail {d:D} {v:V} {ws:List V} (j:Jt p cl A L B H (d :: ts) (v :: ws) δ σ):∃ A',Nx A B H A' H ∧ Jt p cl A' L B H (d :: frzs ts) (v :: ws) δ σ:=by
  obtain ⟨f,g,h1,h2,h3,h4,h5⟩:=j.ex
  simp only [Rps] at h1
  obtain ⟨v0,vs',f1,f2,e,rfl,h6,h7⟩:=h1
  cases e
  have nd:=List.nodup_append.mp h3
  have nd2:=List.nodup_append.mp nd.1
  refine ⟨fun a=>A a ∧ a ∉ f2,⟨fun a h=>.inl h.1,fun a o h _ _=>h,fun a h=>⟨rfl,j.ba a h,fun q=>h4 a (List.mem_append_right _ q) h⟩,fun a h=>h⟩,⟨⟨f1,g,?_,?_,?_,fun a ha=>h4 a (List.mem_append_left _ ha),h5⟩,j.lb,fun a h=>⟨j.ba a h,fun q=>h4 a (List.mem_append_right _ q) h⟩,fun a h=>j.ad a h.1,j.tb.sub fun a h=>h.1⟩⟩
  · simp only [Rps]
    exact ⟨v,ws,f1,[],rfl,by simp,h6.step (fun a o h n _=>⟨h,fun q=>n q.1⟩) (fun a ha=>⟨rfl,(h6.inA a ha).1,fun q=>nd2.2.2 a ha a q rfl⟩) (by simp),h7.frz (fun a o _ n q=>n q.1) (fun a ha q=>q.2 ha)⟩
  · exact h2.step (fun a o h n _=>⟨h,fun q=>n q.1⟩) (fun a ha=>⟨rfl,(h2.inA a ha).1,fun q=>nd.2.2 a (List.mem_append_right _ q) a ha rfl⟩) (fun a h=>⟨rfl,h⟩)
  · exact List.nodup_append.mpr ⟨nd2.1,nd.2.1,fun a ha c hc=>nd.2.2 a (List.mem_append_left _ ha) c hc⟩
theorem Jt.tailK {d:D} {v:V} {ws:List V} (j:Jt p cl A L B H (d :: ts) (v :: ws) δ σ):(frzs ts).all D.kept = true:=by
  obtain ⟨f,g,h1,h2,h3,h4,h5⟩:=j.ex
  simp only [Rps] at h1
  obtain ⟨v0,vs',f1,f2,e,rfl,h6,h7⟩:=h1
  exact Ze7 h7
theorem Jt.push {acc:List D} {y:D} {v w:V} (j:Jt p cl A L B H [.n .lst .own acc,y] [v,w] δ σ):∃ D0 us A',v = .ref D0 ∧ H D0 = some (.lst us) ∧ us.length = acc.length ∧ Nx A B H A' (upd H D0 (.lst (us ++ [w]))) ∧ Jt p cl A' L B (upd H D0 (.lst (us ++ [w]))) [.n .lst .own (acc ++ [frz y])] [.ref D0] δ σ:=by
  have hk:=j.tailK
  obtain ⟨A1,n1,j1⟩:=j.freezeTail
  obtain ⟨a,o,us,f,rfl,ho,hs,hr,ht,nf,hm⟩:=j1.look hk
  cases hs
  have h:=hm .lst (us ++ [w]) (.lst (us ++ [w])) (acc ++ [frz y]) (f ++ []) rfl rfl (hr.append (by simpa [frzs] using ht)) (by simpa using nf) (by simp)
  exact ⟨a,us,A1,rfl,ho,hr.length.symm,n1.trans h.1,h.2⟩
def wipeD (δ:Sl):List Nat → Sl
  | []=>δ
  | v :: vs=>(wipeD δ vs).set v none
theorem Zcl (δ:Sl):∀ vs:List Nat,(wipeD δ vs).length = δ.length
  | []=>rfl
  | v :: vs=>by unfold wipeD; rw [List.length_set,Zcl δ vs]
theorem ZcF (δ:Sl) (i:Nat):∀ vs:List Nat,(wipeD δ vs)[i]? = if i ∈ vs then (if i < δ.length then some none else none) else δ[i]?
  | []=>by simp [wipeD]
  | v :: vs=>by
    unfold wipeD
    by_cases e:v = i
    · subst e
      rw [if_pos (List.mem_cons_self)]
      by_cases h:v < δ.length
      · rw [if_pos h,List.getElem?_set_self (by rw [Zcl]; exact h)]
      · rw [if_neg h]
        exact List.getElem?_eq_none_iff.mpr (by rw [List.length_set,Zcl]; omega)
    · rw [List.getElem?_set_ne e,ZcF δ i vs]
      by_cases h:i ∈ vs
      · rw [if_pos h,if_pos (List.mem_cons_of_mem _ h)]
      · rw [if_neg h,if_neg (fun q=>(List.mem_cons.mp q).elim (fun z=>e z.symm) h)]
theorem ZdX (σ:L2.St) (i:Nat):∀ vs:List Nat,(wipe σ vs)[i]? = if i ∈ vs then (if i < σ.length then some none else none) else σ[i]?
  | []=>by simp [wipe]
  | v :: vs=>by
    unfold wipe
    by_cases e:v = i
    · subst e
      rw [if_pos (List.mem_cons_self)]
      by_cases h:v < σ.length
      · rw [if_pos h,List.getElem?_set_self (by rw [wipe_length]; exact h)]
      · rw [if_neg h]
        exact List.getElem?_eq_none_iff.mpr (by rw [List.length_set,wipe_length]; omega)
    · rw [List.getElem?_set_ne e,ZdX σ i vs]
      by_cases h:i ∈ vs
      · rw [if_pos h,if_pos (List.mem_cons_of_mem _ h)]
      · rw [if_neg h,if_neg (fun q=>(List.mem_cons.mp q).elim (fun z=>e z.symm) h)]
theorem Zeh (δ:Sl) (vs:List Nat):wipeD (wipeD δ vs) vs = wipeD δ vs:=List.ext_getElem? fun i=>by
  rw [ZcF,ZcF,Zcl]
  split <;> rfl
theorem ZeN (σ:L2.St) (vs:List Nat):wipe (wipe σ vs) vs = wipe σ vs:=List.ext_getElem? fun i=>by
  rw [ZdX,ZdX,wipe_length]
  split <;> rfl
theorem ZgU {vs:List Nat} (k:Kp (fun i=>vs.contains i) σ σ'):wipe σ' vs = wipe σ vs:=List.ext_getElem? fun i=>by
  rw [ZdX,ZdX,k.1]
  split
  · rfl
  · rename_i h
    exact k.2 i (by simpa using h)
theorem Jt.wipe (j:Jt p cl A L B H ts vs δ σ):∀ ns:List Nat,Jt p cl A L B H ts vs (wipeD δ ns) (L2.wipe σ ns)
  | []=>j
  | n :: ns=>by
    have h:=(j.wipe ns).clear (i:=n)
    unfold wipeD L2.wipe
    by_cases hl:n < (wipeD δ ns).length
    · exact h.blur (by rw [List.getElem?_set_self hl])
    · have e:(L2.wipe σ ns).length ≤ n:=by
        obtain ⟨g,h2,_⟩:=(j.wipe ns).drop0
        have:=h2.length
        omega
      rw [List.set_eq_of_length_le e]
      exact h
def TgIn (vs:List Nat) (tg:D → Sl → Option Sl):Prop:=∀ d δ δ',tg d δ = some δ' → wipeD δ' vs = wipeD δ vs
theorem Z9 {i:Nat} {vs:List Nat} (h:i ∈ vs):TgIn vs (tgN i):=fun d δ δ' e=>by
  cases e
  refine List.ext_getElem? fun k=>?_
  rw [ZcF,ZcF,List.length_set]
  split
  · rfl
  · rename_i hk
    exact List.getElem?_set_ne (fun e=>hk (by rw [← e]; exact h))
def noX {α:Type}:Out α → Out α
  | .ok a s=>.ok a s
  | _=>.bad
theorem noX_ok {α:Type} {a:α} {s:Sl}:noX (.ok a s) = .ok a s:=rfl
theorem Zge {α β:Type} {a:α} {s:Sl} {f:α → Sl → Out β}:(Out.ok a s).bind f = f a s:=rfl
def comp (vs:List Nat) (tg:D → Sl → Option Sl) (tst:DT) (elt:DE):List D → List D → Sl → Out (List D)
  | [],acc,δ=>.ok acc δ
  | x :: xs,acc,δ=>match tg x δ with
    | none=>.bad
    | some δ1=>(noX (tst δ1)).bind fun b δ2=>match b with
      | true=>(noX (elt δ2)).bind fun y δ3=>if acc.length < 100000 then comp vs tg tst elt xs (acc ++ [frz y]) (wipeD δ3 vs) else .bad
      | false=>comp vs tg tst elt xs acc (wipeD δ2 vs)
def dComp (keep:Bool) (vs:List Nat) (di:DA) (tg:D → Sl → Option Sl) (tst:DT) (elt:DE):DE:=fun δ=>(di δ).bind fun its δ1=>(comp vs tg tst elt its [] (wipeD δ1 vs)).bind fun acc δ2=>.ok (.n .lst .own acc) (if keep then δ1 else δ2)
abbrev W0:WX:=fun _ _ _ _=>False
theorem Jt.unwipe:∀ {ns:List Nat} {σ:L2.St},wipeD δ ns = δ → Jt p cl A L B H ts vs δ (L2.wipe σ ns) → Jt p cl A L B H ts vs δ σ:=by
  intro ns
  have key:∀ (ms:List Nat) (σ:L2.St),(∀ n ∈ ms,n ∈ ns) → wipeD δ ns = δ → Jt p cl A L B H ts vs δ (L2.wipe σ ms) → Jt p cl A L B H ts vs δ σ:=by
    intro ms
    induction ms with
    | nil=>intro σ _ _ j; exact j
    | cons n ms ih =>
      intro σ hm hw j
      refine ih σ (fun k hk=>hm k (List.mem_cons_of_mem _ hk)) hw ?_
      unfold L2.wipe at j
      by_cases hl:n < (L2.wipe σ ms).length
      · have hd:δ[n]? = some none:=by
          have e:=ZcF δ n ns
          rw [hw,if_pos (hm n List.mem_cons_self)] at e
          rw [e,if_pos]
          obtain ⟨g,h2,_⟩:=j.drop0
          have:=h2.length
          rw [List.length_set] at this
          omega
        have j2:=j.blur (x:=(L2.wipe σ ms)[n]) hd
        rw [List.set_set,List.set_getElem_self hl] at j2
        exact j2
      · rw [List.set_eq_of_length_le (by omega)] at j
        exact j
  intro σ hw j
  exact key ns σ (fun _ h=>h) hw j
theorem Post.w0 {α:Type} {o:Out α} {den:α → List D} {Q:α → List V → Hp → Prop} (hb:noX o ≠ .bad) (h:∀ a s,o = .ok a s → ∀ vs A' H',Nx A B H A' H' → Jt p cl A' L B H' (den a) vs s σ → Q a vs H'):Post cl xf W0 p o den A L B H σ Q:=by
  cases o with
  | ok a s=>exact h a s rfl
  | exc c xs s=>exact absurd rfl hb
  | bad=>exact absurd rfl hb
theorem Zer {ns:List Nat} {tg:D → Sl → Option Sl} {tst:DT} {elt:DE}:∀ (its acc:List D) (δ:Sl) (c:Nat) (xs:List D) (s:Sl),comp ns tg tst elt its acc δ ≠ .exc c xs s:=by
  intro its
  induction its with
  | nil=>intro acc δ c xs s h; cases h
  | cons x its ih =>
    intro acc δ c xs s h
    unfold comp at h
    split at h
    · cases h
    · rename_i δ2 _
      cases h3:tst δ2 with
      | bad=>rw [h3] at h; cases h
      | exc c2 xs2 s2=>rw [h3] at h; cases h
      | ok b s2 =>
        rw [h3,noX_ok,Zge] at h
        cases b with
        | false=>exact ih _ _ _ _ _ h
        | true =>
          simp only at h
          cases h4:elt s2 with
          | bad=>rw [h4] at h; cases h
          | exc c3 xs3 s3=>rw [h4] at h; cases h
          | ok y s3 =>
            rw [h4,noX_ok,Zge] at h
            split at h
            · exact ih _ _ _ _ _ h
            · cases h
theorem Zjt {wi:TI} {δ1:Sl} {its:List D} {g:TG} {tg:D → Sl → Option Sl} {tst:DT} {elt:DE} {ns:List Nat} (hloc:∀ R:It → Hp → Prop,(∀ J A' H' B',Nx A B H A' H' → (∀ a,B a → B' a) → Jt p cl A' L B' H' [] [] δ1 σ → ItOk cl L B' J its A' H' → R J H') → wi σ H R) (lb:∀ a,L a → B a) (hg:SG cl (fun i=>ns.contains i) g tg) (hin:TgIn ns tg) (ht:SB cl xf W0 p tt tst) (he:SE cl xf W0 p te elt)
    {Q:VK} (k:match comp ns tg tst elt its [] (wipeD δ1 ns) with
        | .ok acc δ2=>∀ D0 A' H',Nx A B H A' H' → Jt p cl A' L B H' [.n .lst .own acc] [.ref D0] δ2 (L2.wipe σ ns) → wipeD δ2 ns = δ2 → Q (.ref D0) H'
        | _=>False):tLc wi g tt te ns σ H Q:=by
  refine hloc _ ?_
  intro J A1 H1 B1 n1 hb1 j1 hit D0 hD
  obtain ⟨n2,j2⟩:=(j1.wipe ns).alloc (k:=.lst) (o:=.lst []) hD rfl
  let Fin:Out (List D) → Prop:=fun o=>match o with
    | .ok acc δ2=>∀ A' H',Nx A1 B1 H1 A' H' → Jt p cl A' L B1 H' [.n .lst .own acc] [.ref D0] δ2 (L2.wipe σ ns) → wipeD δ2 ns = δ2 → Q (.ref D0) H'
    | _=>False
  have k0:Fin (comp ns tg tst elt its [] (wipeD δ1 ns)):=by
    revert k
    cases comp ns tg tst elt its [] (wipeD δ1 ns) with
    | bad=>exact id
    | exc c xs s=>exact id
    | ok acc δ2=>exact fun k A' H' n' j' w'=>k D0 A' H' (n1.trans (n'.weak hb1)) (j'.lower hb1 lb) w'
  refine ⟨fun i m Hi=>∃ Ai acc δi,m = its.length - i ∧ i ≤ its.length ∧ ItOk cl L B1 J its Ai Hi ∧ Nx A1 B1 H1 Ai Hi ∧ wipeD δi ns = δi ∧ Jt p cl Ai L B1 Hi [.n .lst .own acc] [.ref D0] δi (L2.wipe σ ns) ∧ Fin (comp ns tg tst elt (its.drop i) acc δi),
    ⟨its.length,_,[],_,by simp,Nat.zero_le _,hit.step n2,n2,Zeh _ _,j2,by rw [List.drop_zero]; exact k0⟩,?_⟩
  rintro i m Hi ⟨Ai,acc,δi,rfl,hi',hit',ni,wi',ji,ki⟩
  have tf:=hit' Ai Hi (Nx.refl ji.ba)
  by_cases hlt:i < its.length
  · refine .inr ⟨tf.1 i hlt,fun H2=>∃ A2 acc2 δ2,ItOk cl L B1 J its A2 H2 ∧ Nx A1 B1 H1 A2 H2 ∧ wipeD δ2 ns = δ2 ∧ Jt p cl A2 L B1 H2 [.n .lst .own acc2] [.ref D0] δ2 (L2.wipe σ ns) ∧ Fin (comp ns tg tst elt (its.drop (i + 1)) acc2 δ2),
      fun H2 ⟨A2,acc2,δ2,h1,h2,h3,h4,h5⟩=>⟨its.length - (i + 1),by omega,A2,acc2,δ2,rfl,hlt,h1,h2,h3,h4,h5⟩,fun x H2 hy=>?_⟩
    have ed:its.drop i = its[i] :: its.drop (i + 1):=List.drop_eq_getElem_cons hlt
    rw [ed] at ki
    unfold comp at ki
    obtain ⟨B2,j3,hb2,hj⟩:=ji.seq2
    obtain ⟨A2,n3,j4⟩:=tf.2.2 i x H2 its[i] (List.getElem?_eq_getElem hlt) hy p B2 δi _ hb2 j3
    cases etg:tg its[i] δi with
    | none=>rw [etg] at ki; exact ki.elim
    | some δ2 =>
      rw [etg] at ki
      simp only at ki
      refine hg p A2 L B2 H2 δi δ2 _ its[i] x _ j4 etg fun σ2 kp2 j5=>⟨(ZgU kp2).trans (ZeN _ _),?_⟩
      have hw2:wipeD δ2 ns = δi:=(hin _ _ _ etg).trans wi'
      have hb3:noX (tst δ2) ≠ .bad:=fun z=>by rw [z] at ki; exact ki
      refine ht.run A2 L B2 H2 δ2 σ2 _ j5 (Post.w0 hb3 fun b δ3 e3 vs3 A3 H3 n4 j6=>?_)
      rw [e3,noX_ok,Zge] at ki
      have hs3:p = true → δ3 = δ2:=fun hp=>by have:=ht.pure hp δ2; rw [e3] at this; exact this
      cases b with
      | false =>
        rw [if_neg (by simp)]
        simp only at ki
        have j7:=j6.drop.wipe ns
        rw [(ZgU kp2).trans (ZeN _ _)] at j7
        have n5:=n3.trans n4
        have j8:=hj A3 H3 [] [] _ _ (fun hp=>⟨by rw [hs3 hp]; exact hw2,rfl⟩) n5 j7
        exact ⟨A3,acc,wipeD δ3 ns,(hit'.step (n5.weak hb2)),ni.trans (n5.weak hb2),Zeh _ _,j8,ki⟩
      | true =>
        rw [if_pos rfl]
        simp only at ki
        have hb4:noX (elt δ3) ≠ .bad:=fun z=>by rw [z] at ki; exact ki
        refine he.run A3 L B2 H3 δ3 σ2 _ j6.drop (Post.w0 hb4 fun y δ4 e4 vs4 A4 H4 n5 j7 v ev=>?_)
        subst ev
        rw [e4,noX_ok,Zge] at ki
        have hs4:p = true → δ4 = δ3:=fun hp=>by have:=he.pure hp δ3; rw [e4] at this; exact this
        have j8:=j7.wipe ns
        rw [(ZgU kp2).trans (ZeN _ _)] at j8
        have n6:=(n3.trans n4).trans n5
        have j9:=hj A4 H4 [y] [v] _ _ (fun hp=>⟨by rw [hs4 hp,hs3 hp]; exact hw2,rfl⟩) n6 j8
        obtain ⟨a,us,A5,ea,h1,h2,n7,j10⟩:=j9.push
        cases ea
        split at ki
        · rename_i hl
          exact ⟨us,h1,by rw [h2]; exact sz_lt hl,A5,acc ++ [frz y],wipeD δ4 ns,(hit'.step (n6.weak hb2)).step n7,(ni.trans (n6.weak hb2)).trans n7,Zeh _ _,j10,ki⟩
        · exact ki.elim
  · have ed:its.drop i = []:=List.drop_eq_nil_of_le (by omega)
    rw [ed] at ki
    exact .inl ⟨tf.2.1 i (by omega),ki Ai Hi ni ji wi'⟩
theorem ZhW {wi:TI} {di:DA} {g:TG} {tg:D → Sl → Option Sl} {tst:DT} {elt:DE} {ns:List Nat} (hi:SI cl xf W p wi di) (hg:SG cl (fun i=>ns.contains i) g tg) (hin:TgIn ns tg) (ht:SB cl xf W0 p tt tst) (he:SE cl xf W0 p te elt)
    {Q:VK} (j:Jt p cl A L B H [] [] δ σ) (k:match di δ with
      | .ok its δ1=>(match comp ns tg tst elt its [] (wipeD δ1 ns) with
        | .ok acc δ2=>∀ D0 A' H',Nx A B H A' H' → Jt p cl A' L B H' [.n .lst .own acc] [.ref D0] δ2 (L2.wipe σ ns) → wipeD δ2 ns = δ2 → Q (.ref D0) H'
        | _=>False)
      | .exc c xs δ'=>PostX cl xf W p c xs δ' A L B H σ
      | .bad=>False):tLc wi g tt te ns σ H Q:=by
  unfold tLc
  refine hi.run A L B H δ σ _ j ?_
  cases e:di δ with
  | bad=>rw [e] at k; exact k
  | exc c xs s=>rw [e] at k; exact k
  | ok its δ1 =>
    rw [e] at k
    simp only at k
    intro J A1 H1 B1 n1 hb1 j1 hit
    exact Zjt (wi:=fun _ _ R=>R J H1) (A:=A) (B:=B) (H:=H) (δ1:=δ1) (its:=its) (fun R h=>h J A1 H1 B1 n1 hb1 j1 hit) j.lb hg hin ht he k
theorem Jt.ofPure2 {d:List D} {v:List V} {δ2:Sl} {σ2:L2.St} (j0:Jt p cl A L B H [] [] δ σ) (x:Nx A A H A' H') (j:Jt true cl A' L A H' d v δ2 σ2):Jt p cl A' L B H' d v δ σ:=by
  obtain ⟨f0,g,h1,h2,h3,h4,h5⟩:=j0.ex
  obtain ⟨f2,g2,k1,k2,k3,k4,k5⟩:=j.ex
  have nd2:=List.nodup_append.mp k3
  have nd:=List.nodup_append.mp h3
  have gA:∀ a ∈ g,A a:=fun a ha=>(h2.inA a ha).1
  refine ⟨⟨f2,g,k1,h2.step x.both (fun a ha=>x.prot a (gA a ha)) (fun a h=>⟨(x.prot a (j0.ba a (j0.lb a h))).1,h⟩),List.nodup_append.mpr ⟨nd2.1,nd.2.1,fun a ha c hc e=>?_⟩,fun a ha q=>k4 a ha (j0.ba a q),fun hp a ha=>h5 hp a ha⟩,j0.lb,fun a h=>(x.prot a (j0.ba a h)).2,j.ad,j.tb⟩
  subst e
  exact k4 a ha (gA a hc)
theorem ZkP {wi:TI} {di:DA} {g:TG} {tg:D → Sl → Option Sl} {tst:DT} {elt:DE} {ns:List Nat} (hi:SI cl xf W false wi di) (hg:SG cl (fun i=>ns.contains i) g tg) (hin:TgIn ns tg) (ht:SB cl xf W0 false tt tst) (he:SE cl xf W0 false te elt) :
    SE cl xf W false (tLc wi g tt te ns) (dComp false ns di tg tst elt):=by
  refine ⟨fun z=>(by cases z),fun A L B H δ σ Q j k=>ZhW hi hg hin ht he j ?_⟩
  unfold dComp at k
  cases e:di δ with
  | bad=>rw [e] at k; exact k
  | exc c xs s=>rw [e] at k; exact k
  | ok its δ1 =>
    rw [e] at k
    simp only [Out.bind] at k ⊢
    revert k
    cases e2:comp ns tg tst elt its [] (wipeD δ1 ns) with
    | bad=>exact id
    | exc c xs s=>exact fun k=>absurd e2 (Zer _ _ _ _ _ _)
    | ok acc δ2=>exact fun k D0 A' H' n' j' w'=>k [.ref D0] A' H' n' (j'.unwipe w') _ rfl
theorem ZhC {wi:TI} {di:DA} {g:TG} {tg:D → Sl → Option Sl} {tst:DT} {elt:DE} {ns:List Nat} (hi:SI cl xf W true wi di) (hg:SG cl (fun i=>ns.contains i) g tg) (hin:TgIn ns tg) (ht:SB cl xf W0 true tt tst) (he:SE cl xf W0 true te elt) :
    SE cl xf W true (tLc wi g tt te ns) (dComp true ns di tg tst elt):=by
  refine ⟨fun _ δ=>Out.same_bind (hi.pure rfl δ) fun its=>?_,fun A L B H δ σ Q j k=>ZhW hi hg hin ht he j.toPure ?_⟩
  · cases e2:comp ns tg tst elt its [] (wipeD δ ns) with
    | bad=>trivial
    | exc c xs s =>
      exact absurd e2 (Zer _ _ _ _ _ _)
    | ok acc δ2=>rfl
  · unfold dComp at k
    have hs:=hi.pure rfl δ
    cases e:di δ with
    | bad=>rw [e] at k; exact k
    | exc c xs s =>
      rw [e] at k hs
      cases (show s = δ from hs)
      exact fun d vs A' H' n x j2=>k d vs A' H' (n.weak j.ba) x (j.ofPure n j2)
    | ok its δ1 =>
      rw [e] at k hs
      cases (show δ1 = δ from hs)
      simp only [Out.bind] at k ⊢
      revert k
      cases e2:comp ns tg tst elt its [] (wipeD δ ns) with
      | bad=>exact id
      | exc c xs s=>exact fun k=>absurd e2 (Zer _ _ _ _ _ _)
      | ok acc δ2=>exact fun k D0 A' H' n' j' w'=>k [.ref D0] A' H' (n'.weak j.ba) (j.ofPure2 n' j') _ rfl
end
end Fs
set_option maxHeartbeats 2000000
namespace Fs
open PySem PySem.Spec PyProof.Rows L2
structure RoomG (k:Nat) (A:Around):Prop where
  r:Room k A
  g:A.guards = some []
theorem RoomG.mono {j k:Nat} {A:Around} (x:RoomG k A) (h:j ≤ k):RoomG j A:=⟨x.r.mono h,x.g⟩
theorem RoomG.units {k:Nat} {A:Around} (x:RoomG k A):A.units + 64 < cLine:=x.r.units
theorem RoomG.un {k:Nat} {A:Around} (x:RoomG k A):A.units + 16 * k + 200 < cLine:=x.r.un
theorem RoomG.make {k:Nat} {A:Around} (x:RoomG (k + 1) A) (C:Addr) (us:List Value) (kw:List (Str × Value)):RoomG k (A.under (.builtin "type.__call__" ⟨.ref C :: us,kw⟩)):=⟨x.r.make C us kw,by
  have e:(Code.builtin "type.__call__" ⟨.ref C :: us,kw⟩).guards = []:=rfl
  simp [Around.under,e,pushGuards,x.g]⟩
theorem huG {k:Nat} {A:Around} (x:RoomG k A):A.units + 1 < cLine:=by have:=x.r.un; omega
structure FnG (P:Program) (w:World) (K:PySem.W.Frag) (mg:Str → Option Value) (base:Heap) (CX:CXT) (k:Nat) (f:Addr) (fd:FuncData) (ps:List Str) (sp:Sp):Prop where
  len:∀ xs H Q E,sp xs H Q E → xs.length = ps.length
  go:∀ A outer s H args us xs Q E,RoomG k A → Env0 P w K mg base A outer s H → BindsTo s fd args (ps.zip us) → Vals xs us → sp xs H Q E → codeAny (model P w) A (.call (.ref f) args) (CR CX outer P w H s Q E) s
theorem fnG {P:Program} {w:World} {K:PySem.W.Frag} {mg:Str → Option Value} {base:Heap} {x qual:Str} {params:Arguments} {body:List Stmt} {scope:Scope} {dvs:List V} {kws:List (Str × V)} {f:Addr} {fd:FuncData} {CX:CXT} {N ps:List Str} {k:Nat} {sp:Sp} (D:FunD K x qual params body scope dvs kws f fd) (S:FnScope N ps scope) (ln:∀ xs H Q E,sp xs H Q E → xs.length = ps.length)
    (bd:∀ cdv A outer s H xs Q E,RoomG k (A.deeper (envOfC qual scope s.heap.objs.size f cdv)) → sp xs H Q E → ∃ t,PSs (cxOf CX P w K mg base N qual scope f cdv A outer s H E) body t ∧ t { nx:=fun _ G=>Q .non G,rt:=Q } (start N xs) H):FnG P w K mg base CX (k + 1) f fd ps sp:=by
  obtain ⟨oc,od,dV,kV,doc,pm,an,cdv,ct,osl,rfl,lk,hcd,_,_⟩:=D.ex
  refine ⟨ln,fun A outer s H args us xs Q E room at0 bnd rel want=>?_⟩
  have inK:K.In s.heap:=at0.mod.kin.keeps fun c u z=>(at0.bs c u z).1
  have noL:s.heap.NoLimit:=at0.mod.nolimit.keeps fun c u z=>(at0.bs c u z).1
  have kinds:∀ y ∈ ps.zip us,scope.names.lookup y.1 = some .local ∨ (scope.names.lookup y.1 = some .cell ∧ ((cellsFrom (s.heap.objs.size + 1) scope.names []).lookup y.1).isSome = true):=by
    rintro ⟨n,v⟩ hy
    rcases S.par n (List.of_mem_zip hy).1 with z | z
    · left; exact z
    · right; exact ⟨z,PySem.W.cellsFrom_some _ _ _ (.inl z)⟩
  refine codeAny_call_function room.r.depth (inK _ _ lk) rfl S.co S.gen rfl (PySem.W.codeRec_of inK hcd) (bnd _ _ _ _ (wpAny_newFunctionEnv_cells S.kind kinds fun env he s1 cal=>?_))
  subst he
  obtain ⟨t,pt,wt⟩:=bd cdv A outer s H xs Q E ⟨room.r.deeper _,room.g⟩ want
  have J:=inv_start (CX:=CX) (P:=P) (w:=w) (mg:=mg) (base:=base) (qual:=qual) (f:=f) (cd:=cdv) (E:=E) S room.r.hd at0 (ln _ _ _ _ want) rel cal
  refine ⟨noL.keeps cal.toInCall.keep,codeAny_func (wpAny_mono (pt.run [] s1 (start N xs) H _ J wt) (fun fl s' got=>?_) fun _ _ z=>z)⟩
  cases fl with
  | ret u=>obtain ⟨v,τ,G,J',rv,q⟩:=got; exact ⟨v,G,J'.os,J'.bare,J'.base,J'.hok,rv,q⟩
  | next=>obtain ⟨τ,G,J',q⟩:=got; exact ⟨.non,G,J'.os,J'.bare,J'.base,J'.hok,rfl,q⟩
  | brk=>obtain ⟨_,_,_,q⟩:=got; cases q
  | cont=>obtain ⟨_,_,_,q⟩:=got; cases q
section
variable {X:Cx} {CX:CXT} {k:Nat} {f C:Addr} {fd:FuncData} {ps:List Str} {sp:Sp} {E:L2.St → XK} {x m:Str} {p pos apos:Pos} {e o:Expr} {es:List Expr} {ta:TE} {t:TA}
theorem runG {pins:List (Addr × Obj)} {σ:L2.St} {H:Hp} {s:Shared} {Q:VK} {us:List Value} {xs:List V} (F:FnG X.prog X.w X.K X.mg X.base CX k f fd ps sp) (room:RoomG k X.A) (hb:Binds X.K fd ps []) (hx:PassesAt CX X σ (E σ)) (I:Inv X pins σ H s) (rel:Vals xs us) (want:sp xs H Q (E σ)) :
    wpAny (model X.prog X.w) X.A (call (.ref f) us) (EP X pins σ Q) X.xe s:=by
  have n:(us ++ []).length = ps.length:=by rw [List.append_nil,← rel.length]; exact F.len _ _ _ _ want
  have b0:=hb s us I.kIn n
  rw [List.append_nil] at b0
  refine wpAny_call (codeAny_mono (F.go X.A X.stack s H ⟨us,[]⟩ us xs Q (E σ) room I.env0 b0 rel want) fun res s2 got=>?_)
  match res,got with
  | .error u,got=>exact hx pins H s u s2 I got
  | .ok (.ret u),got=>exact I.after got
  | .ok .next,got=>exact got.elim
  | .ok .brk,got=>exact got.elim
  | .ok .cont,got=>exact got.elim
theorem pe_callG (F:FnG X.prog X.w X.K X.mg X.base CX k f fd ps sp) (room:RoomG k X.A) (hg:Gl X x) (hm:X.mg x = some (.ref f)) (hk:PySem.W.keepIn X.K (.ref f) = true) (hb:Binds X.K fd ps []) (hx:∀ σ,PassesAt CX X σ (E σ)) (ha:L2.PA X (e :: es) t) (hdb:(x == ("__debug__":Str)) = false:=by decide)
    (he:starEach (e :: es) X.env = (false,eval e X.env) :: starEach es X.env:=by rfl) (hpl:(backTo pos (starEach es X.env)).any (·.1) = false:=by rfl):PE X (.Call (.Name x p) (e :: es) [] pos) (tCallS sp E t):=⟨fun pins s σ H Q I h=>by
  refine wpAny_Call_Name_kw (ld_glob I hg hm (PySem.W.callWith_K (h₀:=X.base) I.ok.mod.kin hk (thn (ha.run pos pins s σ H _ I h) fun args s2 fin=>?_) he hpl) hdb)
  obtain ⟨xs,G,J,rel,want⟩:=fin
  exact ⟨J.kIn,runG F room hb (hx σ) J rel want⟩⟩
end
end Fs
namespace Fs
open PySem PySem.Spec PyProof.Rows L2
def ioF:List Bool → Sl → Sl
  | [],_=>[]
  | b :: bs,[]=>none :: ioF bs []
  | b :: bs,o :: δ=>(if b then o else none) :: ioF bs δ
def runF (N:Nat) (io:List Bool) (ds:DS):List D → Out D:=fun args=>if args.length = io.length then (match ds (args.map some ++ List.replicate (N - args.length) none) with
  | .ok .nx δ'=>.ok .non (ioF io δ')
  | .ok (.rt d) δ'=>.ok d (ioF io δ')
  | .ok .bk _=>.bad
  | .ok .ct _=>.bad
  | .exc c xs δ'=>.exc c xs (ioF io δ')
  | .bad=>.bad) else .bad
def spF (cl:Ec) (xf:Nat → List Str) (np:Nat) (F:List D → Out D):Sp:=fun vs H Q E=>∃ A L B ds,Jt false cl A L B H [] [] (ds.map some) (vs.map some) ∧ vs.length = np ∧ match F ds with
  | .ok d ios=>∀ v A' H',Nx A B H A' H' → Jt false cl A' L B H' [d] [v] ios (vs.map some) → Q v H'
  | .exc c xs ios=>∀ dx us A' H',Nx A B H A' H' → XAt xf A' H' c us dx → Jt false cl A' L B H' xs us ios (vs.map some) → E (.ref (cl.c c)) dx H'
  | .bad=>False
section
variable {cl:Ec} {xf:Nat → List Str} {W:WX} {ws:Nat → Bool} {A A' L B:Addr → Prop} {H H':Hp} {δ δ':Sl} {σ σ':L2.St} {p q b:Bool} {te ta tb tc:TE} {tA:TA} {tt tu:TT} {t u:TS} {ts:List D} {vs:List V}
theorem Rpo.nones:∀ (n:Nat),Rpo cl A L H (List.replicate n none) (List.replicate n none) []
  | 0=>by simp [Rpo]
  | n + 1=>by rw [List.replicate_succ,List.replicate_succ]; simp only [Rpo]; exact ⟨none,_,rfl,Rpo.nones n⟩
theorem Rpo.append:∀ {δ δ2:Sl} {σ σ2:L2.St} {g g2:List Addr},Rpo cl A L H δ σ g → Rpo cl A L H δ2 σ2 g2 → Rpo cl A L H (δ ++ δ2) (σ ++ σ2) (g ++ g2)
  | [],δ2,σ,σ2,g,g2,h,h2=>by simp only [Rpo] at h; rw [h.1,h.2]; exact h2
  | none :: δ,δ2,σ,σ2,g,g2,h,h2=>by
    simp only [Rpo,List.cons_append] at h ⊢
    obtain ⟨x,σ',rfl,h3⟩:=h
    exact ⟨x,σ' ++ σ2,rfl,h3.append h2⟩
  | some d :: δ,δ2,σ,σ2,g,g2,h,h2=>by
    simp only [Rpo,List.cons_append] at h ⊢
    obtain ⟨v,σ',f1,f2,rfl,rfl,h3,h4⟩:=h
    exact ⟨v,σ' ++ σ2,f1,f2 ++ g2,rfl,by rw [List.append_assoc],h3,h4.append h2⟩
theorem Rpo.io:∀ {io:List Bool} {δ:Sl} {σ σ0:L2.St} {g:List Addr},Rpo cl A L H δ σ g → g.Nodup → io.length = σ0.length → io.length ≤ δ.length → (∀ (i:Nat),io[i]? = some true → σ[i]? = σ0[i]?) → ∃ g',Rpo cl A L H (ioF io δ) σ0 g' ∧ g'.Nodup ∧ ∀ a ∈ g',a ∈ g
  | [],δ,σ,σ0,g,h,nd,hl,_,_=>by
    have:σ0 = []:=List.length_eq_zero_iff.mp hl.symm
    subst this
    exact ⟨[],by simp [ioF,Rpo],List.nodup_nil,by simp⟩
  | b :: bs,[],σ,σ0,g,h,nd,hl,hl2,_=>by simp at hl2
  | b :: bs,o :: δ,σ,[],g,h,nd,hl,_,_=>by simp at hl
  | b :: bs,o :: δ,σ,x0 :: σ0,g,h,nd,hl,hl2,hs=>by
    simp only [List.length_cons,Nat.add_right_cancel_iff] at hl
    simp only [List.length_cons,Nat.add_le_add_iff_right] at hl2
    cases o with
    | none =>
      simp only [Rpo] at h
      obtain ⟨x,σ',rfl,h2⟩:=h
      obtain ⟨g',k1,k2,k3⟩:=Rpo.io (io:=bs) h2 nd hl hl2 (fun i hi=>by simpa using hs (i + 1) (by simpa using hi))
      exact ⟨g',by simp only [ioF,ite_self,Rpo]; exact ⟨x0,σ0,rfl,k1⟩,k2,k3⟩
    | some d =>
      simp only [Rpo] at h
      obtain ⟨v,σ',f1,f2,rfl,rfl,h3,h4⟩:=h
      have nd2:=List.nodup_append.mp nd
      obtain ⟨g',k1,k2,k3⟩:=Rpo.io (io:=bs) h4 nd2.2.1 hl hl2 (fun i hi=>by simpa using hs (i + 1) (by simpa using hi))
      cases b with
      | false=>exact ⟨g',by simp only [ioF,Bool.false_eq_true,if_false,Rpo]; exact ⟨x0,σ0,rfl,k1⟩,k2,fun a ha=>List.mem_append_right _ (k3 a ha)⟩
      | true =>
        have e0:some v = x0:=by simpa using hs 0 (by simp)
        subst e0
        refine ⟨f1 ++ g',by simp only [ioF,if_true,Rpo]; exact ⟨v,σ0,f1,g',rfl,rfl,h3,k1⟩,List.nodup_append.mpr ⟨nd2.1,k2,fun a ha c hc=>nd2.2.2 a ha c (k3 c hc)⟩,fun a ha=>?_⟩
        rcases List.mem_append.mp ha with ha | ha
        · exact List.mem_append_left _ ha
        · exact List.mem_append_right _ (k3 a ha)
theorem Jt.io {io:List Bool} {σ0:L2.St} (j:Jt false cl A L B H ts vs δ σ) (hl:io.length = σ0.length) (hl2:io.length ≤ δ.length) (hs:∀ (i:Nat),io[i]? = some true → σ[i]? = σ0[i]?):Jt false cl A L B H ts vs (ioF io δ) σ0:=by
  obtain ⟨f,g,h1,h2,h3,h4,h5⟩:=j.ex
  have nd:=List.nodup_append.mp h3
  obtain ⟨g',k1,k2,k3⟩:=h2.io nd.2.1 hl hl2 hs
  exact ⟨⟨f,g',h1,k1,List.nodup_append.mpr ⟨nd.1,k2,fun a ha c hc=>nd.2.2 a ha c (k3 c hc)⟩,h4,fun hp a ha=>h5 hp a (k3 a ha)⟩,j.lb,j.ba,j.ad,j.tb⟩
theorem Jt.slots (j:Jt p cl A L B H ts vs δ σ):δ.length = σ.length:=by
  obtain ⟨g,h2,_,_⟩:=j.drop0
  exact h2.length
def PRSs (cl:Ec) (xf:Nat → List Str) (X:Cx) (W:WX) (ws:Nat → Bool) (sts:List Stmt) (ds:DS):Prop:=∃ t,PSs X sts t ∧ SS cl xf W ws t ds
theorem fn_ok {P:Program} {w:World} {K:PySem.W.Frag} {mg:Str → Option Value} {base:Heap} {x qual:Str} {params:Arguments} {body:List Stmt} {scope:Scope} {dvs:List V} {kws:List (Str × V)} {f:Addr} {fd:FuncData} {N ps:List Str} {k:Nat} {ds:DS} {io:List Bool}
    (Fd:FunD K x qual params body scope dvs kws f fd) (S:FnScope N ps scope) (hp:ps.length = io.length) (hN:ps.length ≤ N.length) (hio:∀ (i:Nat),io[i]? = some true → ws i = false)
    (hb:∀ (cdv:Value) (A:Around) (outer:List Env) (s:Shared) (H:Hp) (E:XK),RoomG k (A.deeper (envOfC qual scope s.heap.objs.size f cdv)) →
      PRSs cl xf (cxOf (L2.CX P w) P w K mg base N qual scope f cdv A outer s H E) (fun c d _ H'=>E c d H') ws body ds) :
    FnG P w K mg base (L2.CX P w) (k + 1) f fd ps (spF cl xf io.length (runF N.length io ds)):=by
  refine fnG Fd S (fun vs H Q E h=>?_) (fun cdv A outer s H vs Q E hr h=>?_)
  · obtain ⟨_,_,_,_,_,h,_⟩:=h
    rw [h,hp]
  · obtain ⟨t,ht,hs⟩:=hb cdv A outer s H E hr
    refine ⟨t,ht,?_⟩
    obtain ⟨A0,L0,B0,args,j,hl,k0⟩:=h
    have hla:args.length = vs.length:=by have:=j.slots; simpa using this
    have j0:Jt false cl A0 L0 B0 H [] [] (args.map some ++ List.replicate (N.length - args.length) none) (L2.start N vs):=by
      obtain ⟨f,g,h1,h2,h3,h4,h5⟩:=j.ex
      refine ⟨⟨f,g ++ [],h1,?_,by simpa using h3,h4,by simpa using h5⟩,j.lb,j.ba,j.ad,j.tb⟩
      unfold L2.start
      rw [hla]
      exact h2.append (Rpo.nones _)
    refine hs A0 L0 B0 H _ _ _ j0 ?_
    unfold runF at k0
    rw [if_pos (by rw [hla,hl])] at k0
    have hlen0:(L2.start N vs).length = N.length:=by unfold L2.start; simp; omega
    have hio2:∀ σ':L2.St,Kp ws (L2.start N vs) σ' → ∀ (i:Nat),io[i]? = some true → σ'[i]? = (vs.map some)[i]?:=fun σ' kp i hi=>by
      have hi2:i < io.length:=(List.getElem?_eq_some_iff.mp hi).1
      rw [kp.2 i (hio i hi)]
      unfold L2.start
      rw [List.getElem?_append_left (by simp; omega)]
    revert k0
    cases e:ds (args.map some ++ List.replicate (N.length - args.length) none) with
    | bad=>exact id
    | exc c xs δ' =>
      intro k0 d us A' H' σ' n' kp x j'
      have hlσ:δ'.length = N.length:=by rw [j'.slots,kp.1,hlen0]
      exact k0 d us A' H' n' x (j'.io (by simp; omega) (by omega) (hio2 σ' kp))
    | ok fl δ' =>
      cases fl with
      | bk=>exact fun k0=>k0.elim
      | ct=>exact fun k0=>k0.elim
      | nx =>
        intro k0 A' H' σ' n' kp j'
        have hlσ:δ'.length = N.length:=by rw [j'.slots,kp.1,hlen0]
        exact k0 .non A' H' n' ((j'.io (by simp; omega) (by omega) (hio2 σ' kp)).leaf rfl)
      | rt d =>
        intro k0 v A' H' σ' n' kp j'
        have hlσ:δ'.length = N.length:=by rw [j'.slots,kp.1,hlen0]
        exact k0 v A' H' n' (j'.io (by simp; omega) (by omega) (hio2 σ' kp))
structure SC (cl:Ec) (xf:Nat → List Str) (W:WX) (ta:TA) (da:DA):Prop where
  pure:∀ δ,(da δ).same δ
  run:∀ A L H δ σ g (R:List V → Hp → Prop),Rpo cl A L H δ σ g → g.Nodup → (∀ a,L a → A a) → Ad cl A H → (match da δ with
    | .ok ds _=>∀ us A' H' f,Nx A A H A' H' → Rps cl A' (fun a=>L a ∨ a ∈ g) H' true ds us f → f.Nodup → (∀ a ∈ f,¬ A a) → Ad cl A' H' → R us H'
    | .exc c xs δ'=>PostX cl xf W true c xs δ' A L A H σ
    | .bad=>False) → ta σ H R
theorem sc_nil:SC cl xf W tNil daNil:=⟨fun δ=>rfl,fun A L H δ σ g R h nd la ad k=>k [] A H [] (Nx.refl fun _ h=>h) (by simp [Rps]) List.nodup_nil (by simp) ad⟩
theorem Jt.pure0 {g:List Addr} (h:Rpo cl A L H δ σ g) (nd:g.Nodup) (la:∀ a,L a → A a) (ad:Ad cl A H):Jt true cl A L A H [] [] δ σ:=⟨⟨[],g,by simp [Rps],h,by simpa using nd,by simp,by simp⟩,la,fun _ h=>h,ad.1,ad.2⟩
theorem sc_val {a:DE} {r:DA} (ha:SE cl xf W true te a) (hr:SC cl xf W tA r):SC cl xf W (tCons te tA) (daCons a r):=by
  refine ⟨fun δ=>Out.same_bind (ha.pure rfl δ) fun x=>Out.same_bind (hr.pure δ) fun xs=>rfl,fun A L H δ σ g R h nd la ad k=>?_⟩
  have j:=Jt.pure0 h nd la ad
  have hs:=ha.pure rfl δ
  unfold daCons at k
  refine ha.run A L A H δ σ _ j ?_
  cases e:a δ with
  | bad=>rw [e] at k; exact k.elim
  | exc c xs s=>rw [e] at k; exact k
  | ok x s =>
    rw [e] at k hs
    cases (show s = δ from hs)
    simp only [Out.bind] at k
    intro vs A1 H1 n1 j1 v ev
    subst ev
    obtain ⟨fx,g1,h1,h2,h3,h4,_⟩:=j1.ex
    simp only [Rps] at h1
    obtain ⟨v0,vs0,f1,f2,e0,rfl,h6,rfl,rfl⟩:=h1
    cases e0
    rw [List.append_nil] at h3 h4
    have gA:∀ a ∈ g,A a:=fun a ha=>(h.inA a ha).1
    have hg:=h.step (A':=A1) (L':=L) (H':=H1) n1.both (fun a ha=>n1.prot a (gA a ha)) (fun a hl=>⟨(n1.prot a (la a hl)).1,hl⟩)
    refine hr.run A1 L H1 δ σ g _ hg nd (fun a hl=>(n1.prot a (la a hl)).2) j1.adt ?_
    have hs2:=hr.pure δ
    cases e2:r δ with
    | bad=>rw [e2] at k; exact k.elim
    | exc c xs s =>
      rw [e2] at k hs2
      cases (show s = δ from hs2)
      intro d us A2 H2 n2 x2 j2
      exact k d us A2 H2 (n1.trans (n2.weak fun a ha=>(n1.prot a ha).2)) x2 (j.ofPure2 (n1.trans (n2.weak fun a ha=>(n1.prot a ha).2)) (j2.lower (fun a ha=>(n1.prot a ha).2) la))
    | ok xs s =>
      rw [e2] at k
      simp only [Out.bind] at k
      intro us A2 H2 f n2 r2 nf hf ad2
      have n3:Nx A A H A2 H2:=n1.trans (n2.weak fun a ha=>(n1.prot a ha).2)
      refine k (v :: us) A2 H2 (f1 ++ f) n3 ?_ ?_ ?_ ad2
      · simp only [Rps]
        refine ⟨v,us,f1,f,rfl,rfl,(h6.step n2.both (fun a ha=>n2.prot a (h6.inA a ha).1) (by simp)).weak,r2⟩
      · exact List.nodup_append.mpr ⟨(List.nodup_append.mp h3).1,nf,fun a ha c hc e=>by subst e; exact hf a hc (h6.inA a ha).1⟩
      · intro a ha
        rcases List.mem_append.mp ha with ha | ha
        · exact h4 a ha
        · exact fun q=>hf a ha (n1.prot a q).2
def daLend (a:PP) (r:DA):DA:=fun δ=>match a δ with
  | some d=>(r δ).bind fun xs δ2=>.ok (lend d :: xs) δ2
  | none=>.bad
theorem Zg2 {a:PP} {r:DA} (ha:SP cl te a) (hr:SC cl xf W tA r):SC cl xf W (tCons te tA) (daLend a r):=by
  refine ⟨fun δ=>?_,fun A L H δ σ g R h nd la ad k=>?_⟩
  · unfold daLend
    split
    · exact Out.same_bind (hr.pure δ) fun xs=>rfl
    · trivial
  · unfold daLend at k
    cases e:a δ with
    | none=>rw [e] at k; exact k.elim
    | some d =>
      rw [e] at k
      simp only at k
      refine ha A L H δ σ g d _ h e fun v fp h1 n1=>?_
      refine hr.run A L H δ σ g _ h nd la ad ?_
      cases e2:r δ with
      | bad=>rw [e2] at k; exact k.elim
      | exc c xs s=>rw [e2] at k; exact k
      | ok xs s =>
        rw [e2] at k
        simp only [Out.bind] at k
        intro us A2 H2 f n2 r2 nf hf ad2
        refine k (v :: us) A2 H2 f n2 ?_ nf hf ad2
        simp only [Rps]
        have h2:=(h1.lend (L':=fun a=>L a ∨ a ∈ g) (fun a ha=>.inr (n1 a ha)) (fun a hl=>.inl hl))
        refine ⟨v,us,[],f,rfl,rfl,h2.step n2.both (by simp) (fun _ a hl=>⟨?_,hl⟩),r2⟩
        rcases hl with hl | hl
        · exact (n2.prot a (la a hl)).1
        · exact (n2.prot a (h.inA a hl).1).1
theorem Rps.rpo:∀ {ds:List D} {us:List V} {f:List Addr},Rps cl A L H true ds us f → Rpo cl A L H (ds.map some) (us.map some) f
  | [],us,f,h=>by simp only [Rps] at h; rw [h.1,h.2]; simp [Rpo]
  | d :: ds,us,f,h=>by
    simp only [Rps] at h
    obtain ⟨v,vs',f1,f2,rfl,rfl,h3,h4⟩:=h
    simp only [List.map_cons,Rpo]
    exact ⟨v,_,f1,f2,rfl,rfl,h3,Rps.rpo h4⟩
def dCall (F:List D → Out D) (r:DA):DE:=fun δ=>(r δ).bind fun ds δ1=>match F ds with
  | .ok d _=>.ok d δ1
  | .exc c xs _=>.exc c xs δ1
  | .bad=>.bad
theorem ZhD {r:DA} {F:List D → Out D} {np:Nat} {sp:Sp} (hsp:∀ vs H Q E,spF cl xf np F vs H Q E → sp vs H Q E) (hr:SC cl xf W tA r) (hn:∀ δ ds s,r δ = .ok ds s → ds.length = np):SE cl xf W true (tCallS sp (WE W) tA) (dCall F r):=by
  refine ⟨fun _ δ=>Out.same_bind (hr.pure δ) fun ds=>?_,fun A L B H δ σ Q j k=>?_⟩
  · split <;> first | rfl | trivial
  · obtain ⟨g,hg,nd,_⟩:=j.drop0
    refine hr.run A L H δ σ g _ hg nd (fun a h=>j.ba a (j.lb a h)) j.adt ?_
    unfold dCall at k
    have hs:=hr.pure δ
    cases e:r δ with
    | bad=>rw [e] at k; exact k.elim
    | exc c xs s =>
      rw [e] at k hs
      cases (show s = δ from hs)
      exact fun d us A2 H2 n2 x2 j2=>k d us A2 H2 (n2.weak j.ba) x2 (j.ofPure2 n2 j2)
    | ok ds s =>
      rw [e] at k hs
      cases (show s = δ from hs)
      simp only [Out.bind] at k
      intro us A1 H1 f n1 r1 nf hf ad1
      have gA:∀ a ∈ g,A a:=fun a ha=>(hg.inA a ha).1
      have LgA:∀ a,(L a ∨ a ∈ g) → A a:=fun a h=>h.elim (fun h=>j.ba a (j.lb a h)) (gA a)
      let Bc:Addr → Prop:=fun a=>A1 a ∧ a ∉ f
      have jc:Jt false cl A1 Bc Bc H1 [] [] (ds.map some) (us.map some):=by
        refine ⟨⟨[],f,by simp [Rps],(r1.step (L':=Bc) (fun a o h n _=>⟨h,n⟩) (fun a ha=>⟨rfl,(r1.inA a ha).1⟩) (fun _ a hl=>⟨rfl,(n1.prot a (LgA a hl)).2,fun q=>hf a q (LgA a hl)⟩)).rpo,by simpa using nf,by simp,fun _ a ha q=>q.2 ha⟩,fun _ h=>h,fun a h=>h.1,ad1.1,ad1.2⟩
      refine hsp _ _ _ _ ⟨A1,Bc,Bc,ds,jc,by rw [← r1.length]; exact hn δ ds δ e,?_⟩
      have fin:∀ (d:List D) (v:List V) A2 H2 δ2 σ2,Nx A1 Bc H1 A2 H2 → Jt false cl A2 Bc Bc H2 d v δ2 σ2 → Nx A B H A2 H2 ∧ Jt true cl A2 L B H2 d v δ σ:=by
        intro d v A2 H2 δ2 σ2 n2 j2
        have n3:Nx A A H A2 H2:=n1.trans (n2.weak fun a ha=>⟨(n1.prot a ha).2,fun q=>hf a q ha⟩)
        obtain ⟨f2,g2,k1,k2,k3,k4,k5⟩:=j2.ex
        refine ⟨n3.weak j.ba,j.ofPure2 n3 (δ2:=[]) (σ2:=[]) ⟨⟨f2,[],k1.step (L':=L) (fun a o h n _=>⟨h,n⟩) (fun a ha=>⟨rfl,(k1.inA a ha).1⟩) (by simp),by simp [Rpo],by simpa using (List.nodup_append.mp k3).1,fun a ha q=>k4 a ha ⟨(n1.prot a q).2,fun z=>hf a z q⟩,by simp⟩,fun a h=>j.ba a (j.lb a h),fun a h=>(n3.prot a h).2,j2.ad,j2.tb⟩⟩
      cases e2:F ds with
      | bad=>rw [e2] at k; exact k.elim
      | exc c xs ios =>
        rw [e2] at k
        intro dx ws A2 H2 n2 x2 j2
        obtain ⟨n3,j3⟩:=fin _ _ _ _ _ _ n2 j2
        exact k dx ws A2 H2 n3 x2 j3
      | ok d ios =>
        rw [e2] at k
        intro v A2 H2 n2 j2
        obtain ⟨n3,j3⟩:=fin _ _ _ _ _ _ n2 j2
        exact k [v] A2 H2 n3 j3 v rfl
theorem ZfP {r:DA} {F:List D → Out D} {np:Nat} (hr:SC cl xf W tA r) (hn:∀ δ ds s,r δ = .ok ds s → ds.length = np):SE cl xf W true (tCallS (spF cl xf np F) (WE W) tA) (dCall F r):=ZhD (fun _ _ _ _ h=>h) hr hn
end
end Fs
namespace Fs
open PySem PySem.Spec PyProof.Rows L2
inductive AK | v (e:DE) | l (i:Nat) | o (i:Nat)
def dArgs:List AK → Sl → Out (List D)
  | [],δ=>.ok [] δ
  | .v e :: ks,δ=>(e δ).bind fun x δ1=>(dArgs ks δ1).bind fun xs δ2=>.ok (x :: xs) δ2
  | .l i :: ks,δ=>if (δ[i]?).join.isSome then dArgs ks δ else .bad
  | .o i :: ks,δ=>if (δ[i]?).join.isSome then dArgs ks δ else .bad
def WV (σ:L2.St):List AK → List V → List V → Prop
  | [],tv,vs=>tv = [] ∧ vs = []
  | .v _ :: ks,tv,vs=>∃ t tv' vs',tv = t :: tv' ∧ vs = t :: vs' ∧ WV σ ks tv' vs'
  | .l i :: ks,tv,vs=>∃ v vs',σ[i]? = some (some v) ∧ vs = v :: vs' ∧ WV σ ks tv vs'
  | .o i :: ks,tv,vs=>∃ v vs',σ[i]? = some (some v) ∧ vs = v :: vs' ∧ WV σ ks tv vs'
def tk:List AK → List D → Sl → Option (List (Option D × Nat) × Sl)
  | [],[],δ=>some ([],δ)
  | .v _ :: ks,t :: ts,δ=>(tk ks ts δ).map fun r=>((some t,0) :: r.1,r.2)
  | .l i :: ks,ts,δ=>(tk ks ts δ).map fun r=>((none,i) :: r.1,r.2)
  | .o i :: ks,ts,δ=>((δ[i]?).join).bind fun d=>if d.free then (tk ks ts (δ.set i none)).map fun r=>((some d,0) :: r.1,r.2) else none
  | _,_,_=>none
def res (δ:Sl):List (Option D × Nat) → Option (List D)
  | []=>some []
  | (some d,_) :: r=>(res δ r).map fun ds=>d :: ds
  | (none,i) :: r=>((δ[i]?).join).bind fun d=>(res δ r).map fun ds=>lend d :: ds
def putB:List AK → Sl → Sl → Option Sl
  | [],[],δ=>some δ
  | .o i :: ks,some d :: ios,δ=>if d.free then putB ks ios (δ.set i (some d)) else none
  | _ :: ks,_ :: ios,δ=>putB ks ios δ
  | _,_,_=>none
section
variable {cl:Ec} {xf:Nat → List Str} {W:WX} {ws:Nat → Bool} {A A' L L' B:Addr → Prop} {H H':Hp} {δ δ':Sl} {σ σ':L2.St} {p q b:Bool} {te ta tb tc:TE} {tA:TA} {tt tu:TT} {t u:TS} {ts:List D} {vs:List V}
def SQ (cl:Ec) (xf:Nat → List Str) (W:WX) (ta:TA) (ks:List AK):Prop:=∀ A L B H δ σ R,Jt false cl A L B H [] [] δ σ → (match dArgs ks δ with
  | .ok ts δ1=>∀ tv vs A' H',Nx A B H A' H' → Jt false cl A' L B H' ts tv δ1 σ → WV σ ks tv vs → R vs H'
  | .exc c xs δ'=>PostX cl xf W false c xs δ' A L B H σ
  | .bad=>False) → ta σ H R
theorem sq_nil:SQ cl xf W tNil []:=fun A L B H δ σ R j k=>k [] [] A H (Nx.refl j.ba) j ⟨rfl,rfl⟩
theorem sq_val {a:DE} {ks:List AK} (ha:SE cl xf W false te a) (hr:SQ cl xf W tA ks):SQ cl xf W (tCons te tA) (.v a :: ks):=fun A L B H δ σ R j k=>by
  unfold dArgs at k
  refine ha.run A L B H δ σ _ j ?_
  cases e:a δ with
  | bad=>rw [e] at k; exact k.elim
  | exc c xs s=>rw [e] at k; exact k
  | ok x s =>
    rw [e] at k
    simp only [Out.bind] at k
    intro vs A1 H1 n1 j1 v ev
    subst ev
    obtain ⟨B',j2,hb,hj⟩:=j1.seq
    refine hr A1 L B' H1 s σ _ j2 ?_
    cases e2:dArgs ks s with
    | bad=>rw [e2] at k; exact k.elim
    | exc c xs s2=>rw [e2] at k; exact (PostX.step (show PostX cl xf W false c xs s2 A L B H σ from k) n1).under hb j1.lb
    | ok xs s2 =>
      rw [e2] at k
      simp only [Out.bind] at k
      intro tv us A2 H2 n2 j3 w
      exact k (v :: tv) (v :: us) A2 H2 (n1.trans (n2.weak hb)) (hj A2 H2 _ _ _ (by simp) n2 j3) ⟨v,tv,us,rfl,rfl,w⟩
theorem Zgi {i:Nat} (j:Jt p cl A L B H ts vs δ σ) (h:(δ[i]?).join.isSome = true):∃ v,σ[i]? = some (some v):=by
  obtain ⟨d,e⟩:=Option.isSome_iff_exists.mp h
  obtain ⟨g,h2,_⟩:=j.drop0
  obtain ⟨v,f1,g1,_⟩:=h2.get (join_some e)
  exact ⟨v,g1⟩
theorem sq_l {i:Nat} {ks:List AK} (hr:SQ cl xf W tA ks):SQ cl xf W (tCons (tVar i) tA) (.l i :: ks):=fun A L B H δ σ R j k=>by
  unfold dArgs at k
  by_cases h:(δ[i]?).join.isSome = true
  · rw [if_pos h] at k
    obtain ⟨v,hv⟩:=Zgi j h
    refine ⟨v,hv,hr A L B H δ σ _ j ?_⟩
    cases e2:dArgs ks δ with
    | bad=>rw [e2] at k; exact k.elim
    | exc c xs s2=>rw [e2] at k; exact k
    | ok xs s2 =>
      rw [e2] at k
      intro tv us A2 H2 n2 j3 w
      exact k tv (v :: us) A2 H2 n2 j3 ⟨v,us,hv,rfl,w⟩
  · rw [if_neg h] at k
    exact k.elim
theorem sq_o {i:Nat} {ks:List AK} (hr:SQ cl xf W tA ks):SQ cl xf W (tCons (tVar i) tA) (.o i :: ks):=fun A L B H δ σ R j k=>by
  unfold dArgs at k
  by_cases h:(δ[i]?).join.isSome = true
  · rw [if_pos h] at k
    obtain ⟨v,hv⟩:=Zgi j h
    refine ⟨v,hv,hr A L B H δ σ _ j ?_⟩
    cases e2:dArgs ks δ with
    | bad=>rw [e2] at k; exact k.elim
    | exc c xs s2=>rw [e2] at k; exact k
    | ok xs s2 =>
      rw [e2] at k
      intro tv us A2 H2 n2 j3 w
      exact k tv (v :: us) A2 H2 n2 j3 ⟨v,us,hv,rfl,w⟩
  · rw [if_neg h] at k
    exact k.elim
def PA (cl:Ec) (A L:Addr → Prop) (H:Hp) (σ:L2.St):List (Option D × Nat) → List V → List Addr → Prop
  | [],vs,f=>vs = [] ∧ f = []
  | (some d,_) :: r,vs,f=>∃ v vs' f1 f2,vs = v :: vs' ∧ f = f1 ++ f2 ∧ Rp cl A L H false d v f1 ∧ PA cl A L H σ r vs' f2
  | (none,i) :: r,vs,f=>∃ v vs',vs = v :: vs' ∧ σ[i]? = some (some v) ∧ PA cl A L H σ r vs' f
theorem ZiO {α:Type} {a b c:List α}:(a ++ (b ++ c)).Nodup → (b ++ (a ++ c)).Nodup:=fun h=>by
  have h1:=List.nodup_append.mp h
  have h2:=List.nodup_append.mp h1.2.1
  refine List.nodup_append.mpr ⟨h2.1,List.nodup_append.mpr ⟨h1.1,h2.2.1,fun x hx y hy=>h1.2.2 x hx y (List.mem_append_right _ hy)⟩,fun x hx y hy e=>?_⟩
  subst e
  rcases List.mem_append.mp hy with hy | hy
  · exact h1.2.2 x hy x (List.mem_append_left _ hx) rfl
  · exact h2.2.2 x hx x hy rfl
theorem tk_ok:∀ {ks:List AK} {ts:List D} {tv vs:List V} {δ δr:Sl} {f g:List Addr} {es:List (Option D × Nat)},Rps cl A L H false ts tv f → Rpo cl A L H δ σ g → (f ++ g).Nodup → WV σ ks tv vs → tk ks ts δ = some (es,δr) →
    ∃ f' gr,PA cl A L H σ es vs f' ∧ Rpo cl A L H δr σ gr ∧ (f' ++ gr).Nodup ∧ ∀ a ∈ f' ++ gr,a ∈ f ++ g
  | [],[],tv,vs,δ,δr,f,g,es,h1,h2,nd,w,e=>by
    simp only [tk,Option.some.injEq,Prod.mk.injEq] at e
    obtain ⟨rfl,rfl⟩:=e
    simp only [Rps] at h1
    simp only [WV] at w
    obtain ⟨_,rfl⟩:=h1
    exact ⟨[],g,by simp only [PA]; exact ⟨w.2,trivial⟩,h2,nd,fun a ha=>ha⟩
  | [],t :: ts,tv,vs,δ,δr,f,g,es,h1,h2,nd,w,e=>by simp [tk] at e
  | .v x :: ks,[],tv,vs,δ,δr,f,g,es,h1,h2,nd,w,e=>by simp [tk] at e
  | .v x :: ks,t :: ts,tv,vs,δ,δr,f,g,es,h1,h2,nd,w,e=>by
    simp only [tk] at e
    obtain ⟨⟨es',δr'⟩,e1,e2⟩:=Option.map_eq_some_iff.mp e
    simp only [Prod.mk.injEq] at e2
    obtain ⟨rfl,rfl⟩:=e2
    simp only [Rps] at h1
    obtain ⟨v,tv',f1,f2,rfl,rfl,h3,h4⟩:=h1
    simp only [WV] at w
    obtain ⟨t0,tv0,vs',e3,rfl,w⟩:=w
    cases e3
    rw [List.append_assoc] at nd
    have nd2:=List.nodup_append.mp nd
    obtain ⟨f',gr,k1,k2,k3,k4⟩:=tk_ok h4 h2 nd2.2.1 w e1
    refine ⟨f1 ++ f',gr,by simp only [PA]; exact ⟨v,vs',f1,f',rfl,rfl,h3,k1⟩,k2,?_,fun a ha=>?_⟩
    · rw [List.append_assoc]
      exact List.nodup_append.mpr ⟨nd2.1,k3,fun a ha c hc=>nd2.2.2 a ha c (k4 c hc)⟩
    · rw [List.append_assoc] at ha ⊢
      rcases List.mem_append.mp ha with ha | ha
      · exact List.mem_append_left _ ha
      · exact List.mem_append_right _ (k4 a ha)
  | .l i :: ks,ts,tv,vs,δ,δr,f,g,es,h1,h2,nd,w,e=>by
    simp only [tk] at e
    obtain ⟨⟨es',δr'⟩,e1,e2⟩:=Option.map_eq_some_iff.mp e
    simp only [Prod.mk.injEq] at e2
    obtain ⟨rfl,rfl⟩:=e2
    simp only [WV] at w
    obtain ⟨v,vs',e3,rfl,w⟩:=w
    obtain ⟨f',gr,k1,k2,k3,k4⟩:=tk_ok h1 h2 nd w e1
    exact ⟨f',gr,by simp only [PA]; exact ⟨v,vs',rfl,e3,k1⟩,k2,k3,k4⟩
  | .o i :: ks,ts,tv,vs,δ,δr,f,g,es,h1,h2,nd,w,e=>by
    simp only [tk] at e
    obtain ⟨d,e0,e⟩:=Option.bind_eq_some_iff.mp e
    split at e
    · rename_i hf
      obtain ⟨⟨es',δr'⟩,e1,e2⟩:=Option.map_eq_some_iff.mp e
      simp only [Prod.mk.injEq] at e2
      obtain ⟨rfl,rfl⟩:=e2
      simp only [WV] at w
      obtain ⟨v,vs',e3,rfl,w⟩:=w
      have nd1:=List.nodup_append.mp nd
      obtain ⟨v2,g1,g2,q1,q2,q3,q4,q5⟩:=h2.take (join_some e0) nd1.2.1
      rw [e3] at q1
      cases q1
      have q4':=List.nodup_append.mp q4
      have nd2:(f ++ g2).Nodup:=List.nodup_append.mpr ⟨nd1.1,q4'.2.1,fun a ha c hc=>nd1.2.2 a ha c ((q5 c).mp (List.mem_append_right _ hc))⟩
      obtain ⟨f',gr,k1,k2,k3,k4⟩:=tk_ok h1 q3 nd2 w e1
      refine ⟨g1 ++ f',gr,by simp only [PA]; exact ⟨v,vs',g1,f',rfl,rfl,q2.free hf,k1⟩,k2,?_,fun a ha=>?_⟩
      · rw [List.append_assoc]
        refine List.nodup_append.mpr ⟨q4'.1,k3,fun a ha c hc e=>?_⟩
        subst e
        rcases List.mem_append.mp (k4 a hc) with z | z
        · exact nd1.2.2 a z a ((q5 a).mp (List.mem_append_left _ ha)) rfl
        · exact q4'.2.2 a ha a z rfl
      · rw [List.append_assoc] at ha
        rcases List.mem_append.mp ha with ha | ha
        · exact List.mem_append_right _ ((q5 a).mp (List.mem_append_left _ ha))
        · rcases List.mem_append.mp (k4 a ha) with z | z
          · exact List.mem_append_left _ z
          · exact List.mem_append_right _ ((q5 a).mp (List.mem_append_right _ z))
    · cases e
theorem res_ok:∀ {es:List (Option D × Nat)} {vs:List V} {f gr:List Addr} {δr:Sl} {ds:List D},PA cl A L H σ es vs f → Rpo cl A L H δr σ gr → res δr es = some ds → Rps cl A (fun a=>L a ∨ a ∈ gr) H true ds vs f
  | [],vs,f,gr,δr,ds,h,h2,e=>by
    simp only [res,Option.some.injEq] at e
    subst e
    simp only [PA] at h
    simp only [Rps]
    exact h
  | (some d,n) :: es,vs,f,gr,δr,ds,h,h2,e=>by
    simp only [res] at e
    obtain ⟨ds',e1,rfl⟩:=Option.map_eq_some_iff.mp e
    simp only [PA] at h
    obtain ⟨v,vs',f1,f2,rfl,rfl,h3,h4⟩:=h
    simp only [Rps]
    exact ⟨v,vs',f1,f2,rfl,rfl,(h3.step (fun a o q n _=>⟨q,n⟩) (fun a ha=>⟨rfl,(h3.inA a ha).1⟩) (by simp)).weak,res_ok h4 h2 e1⟩
  | (none,i) :: es,vs,f,gr,δr,ds,h,h2,e=>by
    simp only [res] at e
    obtain ⟨d,e0,e⟩:=Option.bind_eq_some_iff.mp e
    obtain ⟨ds',e1,rfl⟩:=Option.map_eq_some_iff.mp e
    simp only [PA] at h
    obtain ⟨v,vs',rfl,e2,h4⟩:=h
    obtain ⟨v2,f1,g1,g2,g3⟩:=h2.get (join_some e0)
    rw [e2] at g1
    cases g1
    simp only [Rps]
    exact ⟨v,vs',[],f,rfl,rfl,g2.lend (fun a ha=>.inr (g3 a ha)) (fun a hl=>.inl hl),res_ok h4 h2 e1⟩
theorem ZeU:∀ {ks:List AK} {tv vs:List V} {ios δr δ2:Sl} {gi gr:List Addr},WV σ ks tv vs → Rpo cl A L' H ios (vs.map some) gi → Rpo cl A L H δr σ gr → (gi ++ gr).Nodup → putB ks ios δr = some δ2 → ∃ g2,Rpo cl A L H δ2 σ g2 ∧ g2.Nodup ∧ ∀ a ∈ g2,a ∈ gi ++ gr
  | [],tv,vs,[],δr,δ2,gi,gr,w,h1,h2,nd,e=>by
    simp only [putB,Option.some.injEq] at e
    subst e
    exact ⟨gr,h2,(List.nodup_append.mp nd).2.1,fun a ha=>List.mem_append_right _ ha⟩
  | [],tv,vs,_ :: _,δr,δ2,gi,gr,w,h1,h2,nd,e=>by simp [putB] at e
  | .v x :: ks,tv,vs,[],δr,δ2,gi,gr,w,h1,h2,nd,e=>by simp [putB] at e
  | .l i :: ks,tv,vs,[],δr,δ2,gi,gr,w,h1,h2,nd,e=>by simp [putB] at e
  | .o i :: ks,tv,vs,[],δr,δ2,gi,gr,w,h1,h2,nd,e=>by simp [putB] at e
  | .v x :: ks,tv,vs,o :: ios,δr,δ2,gi,gr,w,h1,h2,nd,e=>by
    simp only [putB] at e
    simp only [WV] at w
    obtain ⟨t0,tv0,vs',rfl,rfl,w⟩:=w
    obtain ⟨g',q1,q2⟩:∃ g',Rpo cl A L' H ios (vs'.map some) g' ∧ (g' ++ gr).Nodup ∧ ∀ a ∈ g',a ∈ gi:=by
      cases o with
      | none=>simp only [List.map_cons,Rpo] at h1; obtain ⟨x,σ',e,h⟩:=h1; cases e; exact ⟨gi,h,nd,fun a ha=>ha⟩
      | some d =>
        simp only [List.map_cons,Rpo] at h1
        obtain ⟨v,σ',f1,f2,e,rfl,h3,h4⟩:=h1
        cases e
        rw [List.append_assoc] at nd
        exact ⟨f2,h4,(List.nodup_append.mp nd).2.1,fun a ha=>List.mem_append_right _ ha⟩
    obtain ⟨g2,k1,k2,k3⟩:=ZeU w q1 h2 q2.1 e
    exact ⟨g2,k1,k2,fun a ha=>(List.mem_append.mp (k3 a ha)).elim (fun z=>List.mem_append_left _ (q2.2 a z)) (fun z=>List.mem_append_right _ z)⟩
  | .l i :: ks,tv,vs,o :: ios,δr,δ2,gi,gr,w,h1,h2,nd,e=>by
    simp only [putB] at e
    simp only [WV] at w
    obtain ⟨v0,vs',e0,rfl,w⟩:=w
    obtain ⟨g',q1,q2⟩:∃ g',Rpo cl A L' H ios (vs'.map some) g' ∧ (g' ++ gr).Nodup ∧ ∀ a ∈ g',a ∈ gi:=by
      cases o with
      | none=>simp only [List.map_cons,Rpo] at h1; obtain ⟨x,σ',e,h⟩:=h1; cases e; exact ⟨gi,h,nd,fun a ha=>ha⟩
      | some d =>
        simp only [List.map_cons,Rpo] at h1
        obtain ⟨v,σ',f1,f2,e,rfl,h3,h4⟩:=h1
        cases e
        rw [List.append_assoc] at nd
        exact ⟨f2,h4,(List.nodup_append.mp nd).2.1,fun a ha=>List.mem_append_right _ ha⟩
    obtain ⟨g2,k1,k2,k3⟩:=ZeU w q1 h2 q2.1 e
    exact ⟨g2,k1,k2,fun a ha=>(List.mem_append.mp (k3 a ha)).elim (fun z=>List.mem_append_left _ (q2.2 a z)) (fun z=>List.mem_append_right _ z)⟩
  | .o i :: ks,tv,vs,none :: ios,δr,δ2,gi,gr,w,h1,h2,nd,e=>by
    simp only [putB] at e
    simp only [WV] at w
    obtain ⟨v0,vs',e0,rfl,w⟩:=w
    simp only [List.map_cons,Rpo] at h1
    obtain ⟨x,σ',e3,h⟩:=h1
    cases e3
    exact ZeU w h h2 nd e
  | .o i :: ks,tv,vs,some d :: ios,δr,δ2,gi,gr,w,h1,h2,nd,e=>by
    simp only [putB] at e
    by_cases hfr:d.free = true
    case neg=>rw [if_neg hfr] at e; cases e
    rw [if_pos hfr] at e
    simp only [WV] at w
    obtain ⟨v0,vs',e0,rfl,w⟩:=w
    simp only [List.map_cons,Rpo] at h1
    obtain ⟨v,σ',f1,f2,e3,rfl,h3,h4⟩:=h1
    cases e3
    have h3f:=h3.free hfr
    replace h3:=(h3f.step (L':=L) (fun a o q n _=>⟨q,n⟩) (fun a ha=>⟨rfl,(h3f.inA a ha).1⟩) (by simp)).weak (b:=true)
    rw [List.append_assoc] at nd
    have nd1:=List.nodup_append.mp nd
    have nd2:=List.nodup_append.mp nd1.2.1
    have hlen:i < δr.length:=by rw [h2.length]; exact (List.getElem?_eq_some_iff.mp e0).1
    obtain ⟨g3,q1,q2,q3⟩:=h2.put hlen h3 (List.nodup_append.mpr ⟨nd1.1,nd2.2.1,fun a ha c hc=>nd1.2.2 a ha c (List.mem_append_right _ hc)⟩)
    rw [ZcG e0] at q1
    have nd3:(f2 ++ g3).Nodup:=List.nodup_append.mpr ⟨nd2.1,q2,fun a ha c hc e=>by
      subst e
      rcases List.mem_append.mp (q3 a hc) with z | z
      · exact nd1.2.2 a z a (List.mem_append_left _ ha) rfl
      · exact nd2.2.2 a ha a z rfl⟩
    obtain ⟨g2,k1,k2,k3⟩:=ZeU w h4 q1 nd3 e
    refine ⟨g2,k1,k2,fun a ha=>?_⟩
    rw [List.append_assoc]
    rcases List.mem_append.mp (k3 a ha) with z | z
    · exact List.mem_append_right _ (List.mem_append_left _ z)
    · rcases List.mem_append.mp (q3 a z) with z | z
      · exact List.mem_append_left _ z
      · exact List.mem_append_right _ (List.mem_append_right _ z)
def Ze (F:List D → Out D) (ks:List AK):DE:=fun δ=>(dArgs ks δ).bind fun ts δ1=>match tk ks ts δ1 with
  | none=>.bad
  | some r=>match res r.2 r.1 with
    | none=>.bad
    | some ds=>match F ds with
      | .ok d ios=>(match putB ks ios r.2 with | some δ2=>.ok d δ2 | none=>.bad)
      | .exc c xs ios=>(match putB ks ios r.2 with | some δ2=>.exc c xs δ2 | none=>.bad)
      | .bad=>.bad
theorem WV.len:∀ {ks:List AK} {tv vs:List V},WV σ ks tv vs → vs.length = ks.length
  | [],tv,vs,w=>by simp only [WV] at w; simp [w.2]
  | .v x :: ks,tv,vs,w=>by simp only [WV] at w; obtain ⟨_,_,vs',_,rfl,w⟩:=w; simp [WV.len w]
  | .l i :: ks,tv,vs,w=>by simp only [WV] at w; obtain ⟨_,vs',_,rfl,w⟩:=w; simp [WV.len w]
  | .o i :: ks,tv,vs,w=>by simp only [WV] at w; obtain ⟨_,vs',_,rfl,w⟩:=w; simp [WV.len w]
def dG (g:Sl → Bool) (e:DE):DE:=fun δ=>if g δ then e δ else .bad
def SQg (cl:Ec) (xf:Nat → List Str) (W:WX) (g:Sl → Bool) (ta:TA) (ks:List AK):Prop:=∀ A L B H δ σ R,g δ = true → Jt false cl A L B H [] [] δ σ → (match dArgs ks δ with
  | .ok ts δ1=>∀ tv vs A' H',Nx A B H A' H' → Jt false cl A' L B H' ts tv δ1 σ → WV σ ks tv vs → R vs H'
  | .exc c xs δ'=>PostX cl xf W false c xs δ' A L B H σ
  | .bad=>False) → ta σ H R
theorem Zh7 {ks:List AK} {F:List D → Out D} {np:Nat} {g:Sl → Bool} {sp:Sp} (hsp:∀ vs H Q E,spF cl xf np F vs H Q E → sp vs H Q E) (hr:SQg cl xf W g tA ks) (hn:ks.length = np):SE cl xf W false (tCallS sp (WE W) tA) (dG g (Ze F ks)):=by
  refine ⟨fun z=>(by cases z),fun A L B H δ σ Q j k=>?_⟩
  unfold dG at k
  by_cases hgd:g δ = true
  case neg=>rw [if_neg hgd] at k; exact k.elim
  rw [if_pos hgd] at k
  refine hr A L B H δ σ _ hgd j ?_
  unfold Ze at k
  cases e:dArgs ks δ with
  | bad=>rw [e] at k; exact k.elim
  | exc c xs s=>rw [e] at k; exact k
  | ok ts s =>
    rw [e] at k
    simp only [Out.bind] at k
    intro tv vs A1 H1 n1 j1 w
    cases e1:tk ks ts s with
    | none=>rw [e1] at k; exact k.elim
    | some r =>
      obtain ⟨es,δr⟩:=r
      rw [e1] at k
      simp only at k
      cases e2:res δr es with
      | none=>rw [e2] at k; exact k.elim
      | some ds =>
        rw [e2] at k
        simp only at k
        obtain ⟨f0,g0,h1,h2,h3,h4,h5⟩:=j1.ex
        obtain ⟨f,gr,q1,q2,q3,q4⟩:=tk_ok h1 h2 h3 w e1
        have r1:=res_ok q1 q2 e2
        have nB:∀ a ∈ f ++ gr,¬ B a:=fun a ha=>(List.mem_append.mp (q4 a ha)).elim (h4 a) (h5 rfl a)
        have nd:=List.nodup_append.mp q3
        have grA:∀ a ∈ gr,A1 a:=fun a ha=>(q2.inA a ha).1
        let Bc:Addr → Prop:=fun a=>A1 a ∧ a ∉ f
        have grB:∀ a ∈ gr,Bc a:=fun a ha=>⟨grA a ha,fun z=>nd.2.2 a z a ha rfl⟩
        have bB:∀ a,B a → Bc a:=fun a h=>⟨j1.ba a h,fun z=>nB a (List.mem_append_left _ z) h⟩
        have jc:Jt false cl A1 Bc Bc H1 [] [] (ds.map some) (vs.map some):=by
          refine ⟨⟨[],f,by simp [Rps],(r1.step (L':=Bc) (fun a o h n _=>⟨h,n⟩) (fun a ha=>⟨rfl,(r1.inA a ha).1⟩) (fun _ a hl=>⟨rfl,hl.elim (fun h=>bB a (j1.lb a h)) (grB a)⟩)).rpo,by simpa using nd.1,by simp,fun _ a ha q=>q.2 ha⟩,fun _ h=>h,fun a h=>h.1,j1.ad,j1.tb⟩
        refine hsp _ _ _ _ ⟨A1,Bc,Bc,ds,jc,by rw [w.len,hn],?_⟩
        have fin:∀ (d:List D) (v:List V) A2 H2 ios δ2,Nx A1 Bc H1 A2 H2 → Jt false cl A2 Bc Bc H2 d v ios (vs.map some) → putB ks ios δr = some δ2 → Nx A B H A2 H2 ∧ Jt false cl A2 L B H2 d v δ2 σ:=by
          intro d v A2 H2 ios δ2 n2 j2 ep
          obtain ⟨f2,gi,k1,k2,k3,k4,k5⟩:=j2.ex
          have k3':=List.nodup_append.mp k3
          have hgr:=q2.step (A':=A2) (L':=L) (H':=H2) n2.both (fun a ha=>n2.prot a (grB a ha)) (fun a hl=>⟨(n2.prot a (bB a (j1.lb a hl))).1,hl⟩)
          have ndg:(gi ++ gr).Nodup:=List.nodup_append.mpr ⟨k3'.2.1,nd.2.1,fun a ha c hc e=>by subst e; exact k5 rfl a ha (grB a hc)⟩
          obtain ⟨g2,m1,m2,m3⟩:=ZeU w k2 hgr ndg ep
          refine ⟨n1.trans (n2.weak bB),⟨⟨f2,g2,k1.step (L':=L) (fun a o h n _=>⟨h,n⟩) (fun a ha=>⟨rfl,(k1.inA a ha).1⟩) (by simp),m1,List.nodup_append.mpr ⟨k3'.1,m2,fun a ha c hc e=>?_⟩,fun a ha q=>k4 a ha (bB a q),fun _ a ha q=>?_⟩,j1.lb,fun a h=>(n2.prot a (bB a h)).2,j2.ad,j2.tb⟩⟩
          · subst e
            rcases List.mem_append.mp (m3 a hc) with z | z
            · exact k3'.2.2 a ha a z rfl
            · exact k4 a ha (grB a z)
          · rcases List.mem_append.mp (m3 a ha) with z | z
            · exact k5 rfl a z (bB a q)
            · exact nB a (List.mem_append_right _ z) q
        cases e3:F ds with
        | bad=>rw [e3] at k; exact k.elim
        | exc c xs ios =>
          rw [e3] at k
          simp only at k
          intro dx us A2 H2 n2 x2 j2
          cases e4:putB ks ios δr with
          | none=>rw [e4] at k; exact k.elim
          | some δ2 =>
            rw [e4] at k
            obtain ⟨n3,j3⟩:=fin _ _ _ _ _ _ n2 j2 e4
            exact k dx us A2 H2 n3 x2 j3
        | ok d ios =>
          rw [e3] at k
          simp only at k
          intro v A2 H2 n2 j2
          cases e4:putB ks ios δr with
          | none=>rw [e4] at k; exact k.elim
          | some δ2 =>
            rw [e4] at k
            obtain ⟨n3,j3⟩:=fin _ _ _ _ _ _ n2 j2 e4
            exact k [v] A2 H2 n3 j3 v rfl
theorem ZiE {ks:List AK} {F:List D → Out D} {np:Nat} (hr:SQ cl xf W tA ks) (hn:ks.length = np):SE cl xf W false (tCallS (spF cl xf np F) (WE W) tA) (Ze F ks):=by
  have h:=Zh7 (g:=fun _=>true) (sp:=spF cl xf np F) (fun _ _ _ _ h=>h) (fun A L B H δ σ R _=>hr A L B H δ σ R) hn
  exact ⟨fun z=>(by cases z),fun A L B H δ σ Q j k=>h.run A L B H δ σ Q j k⟩
end
end Fs
namespace Fs
open PySem PySem.Spec PyProof.Rows L2
section
variable {cl:Ec} {xf:Nat → List Str} {W:WX} {ws:Nat → Bool} {A A' L B:Addr → Prop} {H H':Hp} {δ δ':Sl} {σ σ':L2.St} {p q b:Bool} {te ta tb tc:TE} {tA:TA} {tt tu:TT} {t u:TS} {ts:List D} {vs:List V}
def GOp (cl:Ec) (r:R2) (f:D → D → Option D):Prop:=∀ p A L B H ts ws δ σ x y u w f1 f2 z Q,Jt p cl A L B H ts ws δ σ → Rp cl A L H true x u f1 → Rp cl A L H true y w f2 → f x y = some z → (∀ v A' H',Nx A B H A' H' → Jt p cl A' L B H' [z] [v] δ σ → Q v H') → r u w H Q
def GUn (cl:Ec) (r:V → Hp → VK → Prop) (f:D → Option D):Prop:=∀ p A L B H ts ws δ σ x u f1 z Q,Jt p cl A L B H ts ws δ σ → Rp cl A L H true x u f1 → f x = some z → (∀ v A' H',Nx A B H A' H' → Jt p cl A' L B H' [z] [v] δ σ → Q v H') → r u H Q
theorem POp.g {r:R2} {f:D → D → Option D} (ho:POp cl r f):GOp cl r (fun x y=>(f x y).filter D.kept):=by
  intro p A L B H ts ws δ σ x y u w f1 f2 z Q j h1 h2 e k
  obtain ⟨e1,e2⟩:=Option.filter_eq_some_iff.mp e
  exact ho A L H x y u w f1 f2 z Q h1 h2 e1 fun v fp h7 _=>k v A H (Nx.refl j.ba) (j.kept e2 h7)
theorem POp.gs {r:R2} {f:D → D → Option D} (ho:POp cl r f) (hk:∀ x y z,f x y = some z → z.kept = true):GOp cl r f:=by
  intro p A L B H ts ws δ σ x y u w f1 f2 z Q j h1 h2 e k
  exact ho A L H x y u w f1 f2 z Q h1 h2 e fun v fp h7 _=>k v A H (Nx.refl j.ba) (j.kept (hk x y z e) h7)
theorem PUn.g {r:V → Hp → VK → Prop} {f:D → Option D} (ho:PUn cl r f) (hk:∀ x z,f x = some z → z.kept = true):GUn cl r f:=by
  intro p A L B H ts ws δ σ x u f1 z Q j h1 e k
  exact ho A L H x u f1 z Q h1 e fun v fp h7 _=>k v A H (Nx.refl j.ba) (j.kept (hk x z e) h7)
theorem GOp.r {r:R2} {f:D → D → Option D} (ho:GOp cl r f):ROp cl r f:=by
  intro p A L B H δ σ x y u w z Q j e k
  obtain ⟨u',w',f1,f2,e0,h1,h2⟩:=j.pair
  cases e0
  exact ho p A L B H _ _ δ σ x y u w f1 f2 z Q j h1.weak h2.weak e k
theorem GUn.r {r:V → Hp → VK → Prop} {f:D → Option D} (ho:GUn cl r f):RUn cl r f:=by
  intro p A L B H δ σ x u z Q j e k
  obtain ⟨u',f1,e0,h1⟩:=j.one
  cases e0
  exact ho p A L B H _ _ δ σ x u f1 z Q j h1.weak e k
def rLenA (K:PySem.W.Frag):V → Hp → VK → Prop:=fun x H Q=>(∃ x' n,[x] = [x'] ∧ LenV K x' H n ∧ Q (.int n) H) ∨ ∃ a kvs,[x] = [V.ref a] ∧ L2.Rd H a (.dK kvs) ∧ Q (.int kvs.length) H
theorem Zju {X:Cx}:CallR X (.builtin "len") (fun xs H Q=>∃ a kvs,xs = [V.ref a] ∧ L2.Rd H a (.dK kvs) ∧ Q (.int kvs.length) H):=fun pins s σ H xs us Q J rv=>by
  rintro ⟨a,kvs,rfl,rd,q⟩
  obtain ⟨u,rfl,e⟩:=vals1 rv
  cases e
  exact d_len J rd fun t _ J2=>⟨V.int kvs.length,_,J2,⟨t,rfl⟩,q⟩
def lenD:D → Option D
  | .v (.str s)=>if s.length ≤ 100000 then some (.int s.length) else none
  | .n .lst _ xs=>some (.int xs.length)
  | .s ns=>some (.int ns.length)
  | .n .tup _ xs=>some (.int xs.length)
  | .n (.dct ks) _ xs=>some (.int xs.length)
  | _=>none
theorem Zi4:∀ x z,lenD x = some z → z.kept = true:=by
  intro x z e
  unfold lenD at e
  split at e
  · split at e
    · cases e; rfl
    · cases e
  all_goals (cases e; try rfl)
theorem pun_len:PUn cl (rLenA cl.K) lenD:=by
  intro A L H x u f1 z Q h1 e k
  unfold lenD at e
  split at e
  · rename_i s
    split at e
    · rename_i hl
      cases e
      obtain ⟨rfl,rfl,_⟩:=h1.leafv
      exact .inl ⟨_,s.length,rfl,⟨sz_of hl,rfl⟩,k _ [] (Rp.leaf rfl) (by simp)⟩
    · cases e
  · rename_i w xs
    cases e
    obtain ⟨a,o,vs,fp',rfl,ho,hs,hr,hf⟩:=h1.node
    cases hs
    exact .inl ⟨_,xs.length,rfl,.inl ⟨vs,SqL.of ho,hr.length⟩,k _ [] (Rp.leaf rfl) (by simp)⟩
  · rename_i ns
    cases e
    obtain ⟨a,rfl,hs,rfl,_⟩:=h1.scr
    exact .inl ⟨_,ns.length,rfl,.inl ⟨ns.map V.int,hs,by simp⟩,k _ [] (Rp.leaf rfl) (by simp)⟩
  · rename_i w xs
    cases e
    obtain ⟨a,o,vs,fp',rfl,ho,hs,hr,hf⟩:=h1.node
    cases hs
    exact .inl ⟨_,xs.length,rfl,.inr ⟨vs,SqT.of ho,hr.length⟩,k _ [] (Rp.leaf rfl) (by simp)⟩
  · rename_i ks w xs
    cases e
    obtain ⟨a,vs,fp',rfl,ho,hl,hr,hf⟩:=h1.nodeD
    have e1:(ks.zip vs).length = xs.length:=by rw [List.length_zip,hl,Nat.min_self,hr.length]
    exact .inr ⟨a,_,rfl,ho,by rw [e1]; exact k _ [] (Rp.leaf rfl) (by simp)⟩
  · cases e
def tyD:D → Option String
  | .v .non=>some "NoneType"
  | .v (.bl _)=>some "bool"
  | .v (.int _)=>some "int"
  | .v (.str _)=>some "str"
  | .n .lst _ _=>some "list"
  | .n .tup _ _=>some "tuple"
  | .n (.dct _) _ _=>some "dict"
  | _=>none
theorem Rp.ty {K:PySem.W.Frag} {x:D} {v:V} {fp:List Addr} {s:String} (h:Rp cl A L H true x v fp) (e:tyD x = some s):TyX K H v (.type s):=by
  unfold tyD at e
  split at e
  · obtain ⟨rfl,_,_⟩:=h.leafv; cases e; exact .base .non
  · obtain ⟨rfl,_,_⟩:=h.leafv; cases e; exact .base (.bl _)
  · obtain ⟨rfl,_,_⟩:=h.leafv; cases e; exact .base (.int _)
  · obtain ⟨rfl,_,_⟩:=h.leafv; cases e; exact .base (.str _)
  · obtain ⟨a,o,vs,fp',rfl,ho,hs,_⟩:=h.node; cases hs; cases e; exact .base (.lst ho)
  · obtain ⟨a,o,vs,fp',rfl,ho,hs,_⟩:=h.node; cases hs; cases e; exact .base (.tup ho)
  · obtain ⟨a,vs,fp',rfl,ho,_⟩:=h.nodeD
    cases e
    rcases ho with ho | ⟨ob,ho⟩
    · exact .base (.dK ho)
    · exact .fDict ho
  · cases e
def isTy (s c:String):Bool:=s == c || (s == "bool" && c == "int")
def isiD (c:String) (x:D):Option D:=(tyD x).map fun s=>.bl (isTy s c)
theorem ZgV {x:D} {s:String} (e:tyD x = some s):s ∈ tyNames:=by
  unfold tyD at e
  split at e <;> first | (cases e; decide) | cases e
theorem Zhm:∀ c ∈ ["bool","int","str","list","tuple","dict"],∀ s ∈ tyNames,kitB s c = some (isTy s c):=by decide +kernel
theorem Zk3 {K:PySem.W.Frag} {c:String} (hc:c ∈ ["bool","int","str","list","tuple","dict"]):PUn cl (fun x H Q=>rIsi K [x,.ty c] H Q) (isiD c):=by
  intro A L H x u f1 z Q h1 e k
  unfold isiD at e
  obtain ⟨s,e1,rfl⟩:=Option.map_eq_some_iff.mp e
  exact ⟨u,.ty c,.type s,.type c,isTy s c,rfl,.ty c,h1.ty e1,kit_ty (Zhm c hc s (ZgV e1)),k _ [] (Rp.leaf rfl) (by simp)⟩
theorem Zji {c:String}:∀ x z,isiD c x = some z → z.kept = true:=by
  intro x z e
  unfold isiD at e
  obtain ⟨s,e1,rfl⟩:=Option.map_eq_some_iff.mp e
  rfl
abbrev maxD:=f2I fun i j=>some (.int (if j > i then j else i))
abbrev minD:=f2I fun i j=>some (.int (if j < i then j else i))
theorem pop_2 {g:Int → Int → V} {r:R2} (hr:∀ i j H Q,Q (g i j) H → r (.int i) (.int j) H Q) (hg:∀ i j,sc (g i j) = true):POp cl r (f2I fun i j=>some (g i j)):=by
  intro A L H x y u w f1 f2 z Q h1 h2 e k
  unfold f2I at e
  split at e
  · rename_i i j
    cases e
    obtain ⟨rfl,rfl,_⟩:=h1.leafv
    obtain ⟨rfl,rfl,_⟩:=h2.leafv
    exact hr i j H Q (k _ [] (Rp.leaf (hg i j)) (by simp))
  · cases e
def allB:List D → Option Bool
  | []=>some true
  | .v (.bl b) :: ds=>(allB ds).map fun c=>b && c
  | _=>none
theorem ZjE:∀ {ds:List D} {vs:List V} {fp:List Addr} {c:Bool},Rps cl A L H true ds vs fp → allB ds = some c → ∃ bs:List Bool,vs = bs.map V.bl ∧ c = bs.all id
  | [],vs,fp,c,h,e=>by
    simp only [Rps] at h
    simp only [allB,Option.some.injEq] at e
    exact ⟨[],by simp [h.1],by simp [← e]⟩
  | .v (.bl x) :: ds,vs,fp,c,h,e=>by
    simp only [Rps] at h
    obtain ⟨v,vs',f1,f2,rfl,rfl,h3,h4⟩:=h
    simp only [allB] at e
    obtain ⟨c',e1,rfl⟩:=Option.map_eq_some_iff.mp e
    obtain ⟨bs,rfl,rfl⟩:=ZjE h4 e1
    obtain ⟨rfl,_,_⟩:=h3.leafv
    exact ⟨x :: bs,by simp,by simp⟩
  | .v .non :: ds,vs,fp,c,h,e=>by simp [allB] at e
  | .v (.int _) :: ds,vs,fp,c,h,e=>by simp [allB] at e
  | .v (.str _) :: ds,vs,fp,c,h,e=>by simp [allB] at e
  | .v (.byt _) :: ds,vs,fp,c,h,e=>by simp [allB] at e
  | .v (.flt _) :: ds,vs,fp,c,h,e=>by simp [allB] at e
  | .v (.ref _) :: ds,vs,fp,c,h,e=>by simp [allB] at e
  | .v (.ty _) :: ds,vs,fp,c,h,e=>by simp [allB] at e
  | .s _ :: ds,vs,fp,c,h,e=>by simp [allB] at e
  | .n _ _ _ :: ds,vs,fp,c,h,e=>by simp [allB] at e
def allD:D → Option D | .n .lst _ xs=>(allB xs).map fun c=>.bl c | _=>none
theorem pun_all {K:PySem.W.Frag}:PUn cl (fun x H Q=>rAll K [x] H Q) allD:=by
  intro A L H x u f1 z Q h1 e k
  unfold allD at e
  split at e
  · obtain ⟨c,e1,rfl⟩:=Option.map_eq_some_iff.mp e
    obtain ⟨a,o,vs,fp',rfl,ho,hs,hr,hf⟩:=h1.node
    cases hs
    obtain ⟨bs,rfl,rfl⟩:=ZjE hr e1
    exact ⟨a,bs,rfl,SqL.of ho,k _ [] (Rp.leaf rfl) (by simp)⟩
  · cases e
theorem ZjD:∀ x z,allD x = some z → z.kept = true:=by
  intro x z e
  unfold allD at e
  split at e
  · obtain ⟨c,_,rfl⟩:=Option.map_eq_some_iff.mp e; rfl
  · cases e
def txts:List D → Option (List Str)
  | []=>some []
  | .v (.str s) :: ds=>(txts ds).map fun r=>s :: r
  | _=>none
theorem ZgW:∀ {ds:List D} {vs:List V} {fp:List Addr} {ss:List Str},Rps cl A L H true ds vs fp → txts ds = some ss → vs = ss.map V.str
  | [],vs,fp,ss,h,e=>by
    simp only [Rps] at h
    simp only [txts,Option.some.injEq] at e
    simp [h.1,← e]
  | .v (.str x) :: ds,vs,fp,c,h,e=>by
    simp only [Rps] at h
    obtain ⟨v,vs',f1,f2,rfl,rfl,h3,h4⟩:=h
    simp only [txts] at e
    obtain ⟨c',e1,rfl⟩:=Option.map_eq_some_iff.mp e
    obtain ⟨rfl,_,_⟩:=h3.leafv
    rw [ZgW h4 e1]
    rfl
  | .v .non :: ds,vs,fp,c,h,e=>by simp [txts] at e
  | .v (.int _) :: ds,vs,fp,c,h,e=>by simp [txts] at e
  | .v (.bl _) :: ds,vs,fp,c,h,e=>by simp [txts] at e
  | .v (.byt _) :: ds,vs,fp,c,h,e=>by simp [txts] at e
  | .v (.flt _) :: ds,vs,fp,c,h,e=>by simp [txts] at e
  | .v (.ref _) :: ds,vs,fp,c,h,e=>by simp [txts] at e
  | .v (.ty _) :: ds,vs,fp,c,h,e=>by simp [txts] at e
  | .s _ :: ds,vs,fp,c,h,e=>by simp [txts] at e
  | .n _ _ _ :: ds,vs,fp,c,h,e=>by simp [txts] at e
def joinD (a:Str):D → Option D
  | .n .lst _ xs=>(txts xs).bind fun ss=>if (ss.map (·.length)).sum + ss.length * a.length ≤ 100000 then some (.str (Txt.join a ss)) else none
  | _=>none
theorem pun_join {K:PySem.W.Frag} {a:Str}:PUn cl (fun y H Q=>∃ a' p,∃ ys:List Str,V.str a = .str a' ∧ [y] = [V.ref p] ∧ (SqL K H p (ys.map V.str) ∨ SqT K H p (ys.map V.str)) ∧ (ys.map (·.length)).sum + ys.length * a'.length ≤ 16777216 ∧ Q (.str (Txt.join a' ys)) H) (joinD a):=by
  intro A L H x u f1 z Q h1 e k
  unfold joinD at e
  split at e
  · obtain ⟨ss,e1,e⟩:=Option.bind_eq_some_iff.mp e
    split at e
    · rename_i hl
      cases e
      obtain ⟨p,o,vs,fp',rfl,ho,hs,hr,hf⟩:=h1.node
      cases hs
      have:=ZgW hr e1
      subst this
      exact ⟨a,p,ss,rfl,rfl,.inl (SqL.of ho),Nat.le_trans hl (by decide),k _ [] (Rp.leaf rfl) (by simp)⟩
    · cases e
  · cases e
theorem Zid {a:Str}:∀ x z,joinD a x = some z → z.kept = true:=by
  intro x z e
  unfold joinD at e
  split at e
  · obtain ⟨ss,_,e⟩:=Option.bind_eq_some_iff.mp e
    split at e
    · cases e; rfl
    · cases e
  · cases e
theorem Zib:∀ x z,notND x = some z → z.kept = true:=by
  intro x z e
  unfold notND isND at e
  split at e <;> (simp [notD] at e; subst e; rfl)
end
end Fs
namespace Fs
open PySem PySem.Spec PyProof.Rows L2
section
variable {cl:Ec} {xf:Nat → List Str} {W:WX} {ws:Nat → Bool} {A A' L B:Addr → Prop} {H H':Hp} {δ δ':Sl} {σ σ':L2.St} {p q b:Bool} {te ta tb tc:TE} {tA:TA} {tt tu:TT} {t u:TS} {ts:List D} {vs:List V}
theorem Zjc {K:PySem.W.Frag} {a:Addr} {us:List V} {ds:List D} {fp:List Addr} (lb:∀ a,L a → B a) (hst:∀ A1 H1,Nx A B H A1 H1 → SqL K H1 a us) (hr:Rps cl A L H b ds us fp) (hk:ds.all D.kept = true):ItOk cl L B (Itl K a) ds A H:=by
  intro A1 H1 n1
  have hs:=hst A1 H1 n1
  have hl:=hr.length
  refine ⟨fun i hi=>⟨us,us[i]'(by omega),hs,List.getElem?_eq_getElem (by omega)⟩,fun i hi=>⟨us,hs,by omega⟩,fun i x H2 d e hy p B1 δ σ hb j=>?_⟩
  obtain ⟨rfl,hy⟩:=hy
  obtain ⟨v,f1,g1,g2,_⟩:=(hr.keptS hk).get e
  rw [hy us hs] at g1
  cases g1
  have hkd:d.kept = true:=List.all_eq_true.mp hk d (List.mem_of_getElem? e)
  have g3:=(g2.strong hkd)
  obtain ⟨g3,rfl⟩:=g3
  exact ⟨A1,Nx.refl j.ba,j.kept hkd (g3.step (L':=L) n1.both (by simp) (by simp))⟩
theorem it_tup {K:PySem.W.Frag} {a:Addr} {us:List V} {ds:List D} {fp:List Addr} (lb:∀ a,L a → B a) (hst:∀ A1 H1,Nx A B H A1 H1 → SqT K H1 a us) (hr:Rps cl A L H b ds us fp) (hk:ds.all D.kept = true):ItOk cl L B (Itt K a) ds A H:=by
  intro A1 H1 n1
  have hs:=hst A1 H1 n1
  have hl:=hr.length
  refine ⟨fun i hi=>⟨us,us[i]'(by omega),hs,List.getElem?_eq_getElem (by omega)⟩,fun i hi=>⟨us,hs,by omega⟩,fun i x H2 d e hy p B1 δ σ hb j=>?_⟩
  obtain ⟨rfl,hy⟩:=hy
  obtain ⟨v,f1,g1,g2,_⟩:=(hr.keptS hk).get e
  rw [hy us hs] at g1
  cases g1
  have hkd:d.kept = true:=List.all_eq_true.mp hk d (List.mem_of_getElem? e)
  have g3:=(g2.strong hkd)
  obtain ⟨g3,rfl⟩:=g3
  exact ⟨A1,Nx.refl j.ba,j.kept hkd (g3.step (L':=L) n1.both (by simp) (by simp))⟩
theorem Rps.ints:∀ {ns:List Int},Rps cl A L H b (ns.map D.int) (ns.map V.int) []
  | []=>by simp [Rps]
  | n :: ns=>by simp only [List.map_cons,Rps]; exact ⟨_,_,[],[],rfl,rfl,Rp.leaf rfl,Rps.ints⟩
theorem it_scr {a:Addr} {ns:List Int} (h:(∃ ob,H a = some (.frz ob (.lst (ns.map V.int))) ∧ ¬ A a) ∨ cl.Wr a (ns.map V.int)) (lb:∀ a,L a → B a:=by assumption):ItOk cl L B (Itl cl.K a) (ns.map D.int) A H:=by
  refine Zjc lb (fun A1 H1 n=>?_) (Rps.ints (b:=true)) (by simp [List.all_eq_true,D.kept])
  rcases h with ⟨ob,h1,h2⟩ | h
  · exact .inl (.inr ⟨ob,n.keep a _ h1 h2 NT.frz⟩)
  · exact .inr h
def diP (f:D → Option (List D)) (a:PP):DA:=fun δ=>Out.ofO ((a δ).bind f) δ
theorem Rp.stands {k:Kd} {w:Fl} {ds:List D} {v:V} {fp:List Addr} (lb:∀ a,L a → B a) (hw:w = .own → ∀ a ∈ fp,B a) (h:Rp cl A L H true (.n k w ds) v fp) (hk:∀ ks,k ≠ .dct ks:=by intro _ z; cases z):∃ a o us fp',v = .ref a ∧ Shape cl k a us o ∧ (∀ A1 H1,Nx A B H A1 H1 → H1 a = some o) ∧ Rps cl A L H true ds us fp':=by
  have sh:∀ {a us o},Shp cl w k a us o → Shape cl k a us o:=fun h=>by
    rcases h with ⟨h,_⟩ | ⟨_,ks,_,e,_⟩
    · exact h
    · exact absurd e (hk ks)
  cases w with
  | shr =>
    simp only [Rp] at h
    obtain ⟨a,o,vs,h1,h2,h3,h4,h5,h6⟩:=h
    exact ⟨a,o,vs,[],h1,sh h3,fun A1 H1 n=>n.keep a o h2 h4 h3.nt,h6.weak⟩
  | own =>
    simp only [Rp] at h
    obtain ⟨a,o,vs,h1,h2,h3,h4,fp',h5,h6⟩:=h
    exact ⟨a,o,vs,fp',h1,sh h3,fun A1 H1 n=>(n.prot a (hw rfl a (by rw [h5]; exact List.mem_cons_self))).1.trans h2,h6.weak⟩
  | bor =>
    simp only [Rp] at h
    obtain ⟨a,o,vs,h1,h2,h3,h4,h5,h6,h7⟩:=h
    exact ⟨a,o,vs,[],h1,sh h3,fun A1 H1 n=>(n.prot a (lb a h5)).1.trans h2,h7⟩
def itR:D → Option (List D)
  | .v (.int n)=>if n.natAbs < 2 ^ 62 then some ((List.range n.toNat).map fun (k:Nat)=>D.int (k:Int)) else none
  | _=>none
def diD (f:D → Option (List D)) (a:DE):DA:=fun δ=>(a δ).bind fun d δ1=>Out.ofO (f d) δ1
theorem ZeI {lo:Int} {n:Nat}:ItOk cl L B (Itr lo n) ((List.range n).map fun (k:Nat)=>D.int (lo + (k:Int))) A H:=by
  intro A1 H1 n1
  refine ⟨fun i hi=>by simpa [Itr] using hi,fun i hi=>by simpa [Itr] using hi,fun i x H2 d e hy p B1 δ σ hb j=>?_⟩
  obtain ⟨rfl,rfl⟩:=hy
  have ed:d = D.int (lo + (i:Int)):=by
    rw [List.getElem?_map] at e
    obtain ⟨k,hk,rfl⟩:=Option.map_eq_some_iff.mp e
    obtain ⟨_,hk⟩:=List.getElem?_eq_some_iff.mp hk
    rw [List.getElem_range] at hk
    rw [hk]
  subst ed
  exact ⟨A1,Nx.refl j.ba,j.leaf rfl⟩
theorem ZiA {a:DE} (ha:SE cl xf W p ta a):SI cl xf W p (iRng1 (tCons ta tNil)) (diD itR a):=by
  refine ⟨fun hp δ=>Out.same_bind (ha.pure hp δ) fun x=>Out.same_ofO,fun A L B H δ σ R j k=>?_⟩
  unfold diD at k
  refine ha.run A L B H δ σ _ j ?_
  cases e:a δ with
  | bad=>rw [e] at k; exact k
  | exc c xs s=>rw [e] at k; exact k
  | ok d s =>
    rw [e] at k
    simp only [Out.bind] at k
    intro us A1 H1 n1 j1 v ev
    subst ev
    cases e2:itR d with
    | none=>rw [e2] at k; exact k.elim
    | some its =>
      rw [e2] at k
      unfold itR at e2
      split at e2
      · rename_i n
        split at e2
        · rename_i hn
          cases e2
          obtain ⟨v',f1,e0,h1⟩:=j1.one
          cases e0
          obtain ⟨rfl,_,_⟩:=h1.leafv
          refine ⟨n,rfl,by omega,by omega,k _ A1 H1 B n1 (fun _ h=>h) j1.drop ?_⟩
          have h:=ZeI (cl:=cl) (L:=L) (B:=B) (A:=A1) (H:=H1) (lo:=0) (n:=n.toNat)
          simpa using h
        · cases e2
      · cases e2
def dApp (i:Nat) (a:DE):DE:=fun δ=>match (δ[i]?).join with
  | some (.n .lst _ _)=>(a δ).bind fun y δ1=>(match (δ1[i]?).join with
    | some (.n .lst .own xs)=>if xs.length < 100000 then .ok .non (δ1.set i (some (.n .lst .own (xs ++ [frz y])))) else .bad
    | _=>.bad)
  | _=>.bad
theorem Jt.take {i:Nat} {d:D} (j:Jt false cl A L B H ts vs δ σ) (e:(δ[i]?).join = some d) (hf:d.free = true):∃ v,σ[i]? = some (some v) ∧ Jt false cl A L B H (d :: ts) (v :: vs) (δ.set i none) σ:=by
  obtain ⟨f,g,h1,h2,h3,h4,h5⟩:=j.ex
  have nd:=List.nodup_append.mp h3
  obtain ⟨v,f1,f2,k1,k2,k3,k4,k5⟩:=h2.take (join_some e) nd.2.1
  have k4':=List.nodup_append.mp k4
  refine ⟨v,k1,⟨⟨f1 ++ f,f2,by simp only [Rps]; exact ⟨v,vs,f1,f,rfl,rfl,k2.free hf,h1⟩,k3,?_,fun a ha=>?_,fun _ a ha=>h5 rfl a ((k5 a).mp (List.mem_append_right _ ha))⟩,j.lb,j.ba,j.ad,j.tb⟩⟩
  · rw [List.append_assoc]
    refine ZiO (List.nodup_append.mpr ⟨nd.1,k4,fun a ha c hc=>nd.2.2 a ha c ((k5 c).mp hc)⟩)
  · rcases List.mem_append.mp ha with ha | ha
    · exact h5 rfl a ((k5 a).mp (List.mem_append_left _ ha))
    · exact h4 a ha
theorem se_app {K:PySem.W.Frag} {i:Nat} {a:DE} (ha:SE cl xf W false ta a):SE cl xf W false (tBM K "list" rAppend (tVar i) (tCons ta tNil)) (dApp i a):=by
  refine ⟨fun z=>(by cases z),fun A L B H δ σ Q j k=>?_⟩
  unfold dApp at k
  split at k
  · rename_i w0 xs0 e0
    obtain ⟨g,hg,_,_⟩:=j.drop0
    obtain ⟨v0,f0,q1,q2,_⟩:=hg.get (join_some e0)
    obtain ⟨a0,o0,us0,fp0,rfl,ho0,hs0,_⟩:=q2.node
    cases hs0
    refine ⟨_,q1,.inl ⟨rfl,_,SqL.of ho0⟩,ha.run A L B H δ σ _ j (Post.bind (γ:=D) k fun y δ1 vs A1 H1 e1 n1 j1 k1 w ev=>?_)⟩
    subst ev
    split at k1
    · rename_i xs e2
      split at k1
      · rename_i hl
        obtain ⟨v,hv,j2⟩:=j1.take e2 rfl
        rw [q1] at hv
        cases hv
        obtain ⟨D0,us,A2,ev,hD,hlen,n2,j3⟩:=j2.push
        cases ev
        have j4:=j3.put (i:=i)
        rw [ZcG q1,List.set_set] at j4
        exact ⟨a0,us,w,rfl,rfl,hD,by rw [hlen]; exact sz_lt hl,k1 _ A2 _ (n1.trans n2) (j4.leaf rfl) _ rfl⟩
      · exact k1.elim
    · exact k1.elim
  · exact k.elim
end
end Fs
namespace Fs
open PySem PySem.Spec PyProof.Rows L2
section
variable (cl:Ec) (xf:Nat → List Str) (X:Cx) (W:WX) (ws:Nat → Bool)
def Rd (p:Bool) (e:Expr) (de:DE):Prop:=∃ te,PE X e te ∧ SE cl xf W p te de
def Rk (e:Expr) (pp:PP):Prop:=∃ te,PE X e te ∧ SP cl te pp
def Rt (p:Bool) (e:Expr) (dt:DT):Prop:=∃ tt,L2.PT X e tt ∧ SB cl xf W p tt dt
def Rw (p:Bool) (e:Expr) (dt:DT):Prop:=∃ tt,PW X e tt ∧ SB cl xf W p tt dt
def Ra (p:Bool) (es:List Expr) (da:DA):Prop:=∃ ta,L2.PA X es ta ∧ SA cl xf W p ta da
def Rc (es:List Expr) (da:DA):Prop:=∃ ta,L2.PA X es ta ∧ SC cl xf W ta da
def Rq (es:List Expr) (ks:List AK):Prop:=∃ ta,L2.PA X es ta ∧ SQ cl xf W ta ks
def Ri (p:Bool) (tg e:Expr) (di:DA):Prop:=∃ wi,PI X tg e wi ∧ SI cl xf W p wi di
def Rg (tg:Expr) (t:D → Sl → Option Sl):Prop:=∃ g,PG X tg g ∧ SG cl ws g t
def Rgs (tg:List Expr) (t:List (D → Sl → Option Sl)):Prop:=∃ g,PGs X tg g ∧ SGs cl ws g t
def Rs (st:Stmt) (ds:DS):Prop:=∃ t,PS X st t ∧ SS cl xf W ws t ds
def Rb (sts:List Stmt) (ds:DS):Prop:=∃ t,PSs X sts t ∧ SS cl xf W ws t ds
def B2 (e a b:Expr) (r:R2):Prop:=∀ ta tb,PE X a ta → PE X b tb → PE X e (tOp r ta tb)
def B1 (e a:Expr) (r:V → Hp → VK → Prop):Prop:=∀ ta,PE X a ta → PE X e (tUn r ta)
end
section
variable {cl:Ec} {xf:Nat → List Str} {X:Cx} {W:WX} {ws:Nat → Bool} {p:Bool} {e a b c:Expr} {es:List Expr} {da db dc:DE} {pa pb:PP} {r:R2} {r1:V → Hp → VK → Prop} {f:D → D → Option D} {f1:D → Option D} {pos pos':Pos}
theorem k_var (i:Nat) {x:Str} (hN:X.N[i]? = some x:=by rfl) (hv:Vis X.env.scope x:=by first | exact Or.inl rfl | exact Or.inr (Or.inl rfl) | exact Or.inr (Or.inr rfl)) (hd:(x == ("__debug__":Str)) = false:=by decide) (hcd:(x == ("__classdict__":Str)) = false:=by decide):Rk cl X (.Name x pos) (pVar i):=⟨_,pe_var hN hv hd hcd,sp_var⟩
theorem k_int {i:Int} {j:Nat}:Rk cl X (.Constant (.int i) j pos) (pC (.int i)):=⟨_,pe_int,sp_c rfl⟩
theorem k_bl {i:Bool} {j:Nat}:Rk cl X (.Constant (.bool i) j pos) (pC (.bl i)):=⟨_,pe_bl,sp_c rfl⟩
theorem k_non {j:Nat}:Rk cl X (.Constant .none j pos) (pC .non):=⟨_,pe_non,sp_c rfl⟩
theorem k_str {s:Str} {j:Nat}:Rk cl X (.Constant (.str s) j pos) (pC (.str s)):=⟨_,pe_str,sp_c rfl⟩
theorem k_glob {x:Str} {v:V} {u:Value} (hm:X.mg x = some u) (rv:RelV v u) (hs:sc v = true:=by rfl) (hg:Gl X x:=by rfl) (hd:(x == ("__debug__":Str)) = false:=by decide):Rk cl X (.Name x pos) (pC v):=⟨_,pe_glob hg hm rv hd,sp_c hs⟩
theorem k_op (o:B2 X e a b r) (h:POp cl r f) (ha:Rk cl X a pa) (hb:Rk cl X b pb):Rk cl X e (pOp f pa pb):=by
  obtain ⟨ta,h1,h2⟩:=ha
  obtain ⟨tb,h3,h4⟩:=hb
  exact ⟨_,o _ _ h1 h3,sp_op h h2 h4⟩
theorem k_un (o:B1 X e a r1) (h:PUn cl r1 f1) (ha:Rk cl X a pa):Rk cl X e (pUn f1 pa):=by
  obtain ⟨ta,h1,h2⟩:=ha
  exact ⟨_,o _ h1,sp_un h h2⟩
theorem d_p (ha:Rk cl X a pa):Rd cl xf X W p a (dP pa):=by obtain ⟨ta,h1,h2⟩:=ha; exact ⟨_,h1,se_p h2⟩
theorem d_mv (i:Nat) {x:Str} (hN:X.N[i]? = some x:=by rfl) (hv:Vis X.env.scope x:=by first | exact Or.inl rfl | exact Or.inr (Or.inl rfl) | exact Or.inr (Or.inr rfl)) (hd:(x == ("__debug__":Str)) = false:=by decide) (hcd:(x == ("__classdict__":Str)) = false:=by decide):Rd cl xf X W false (.Name x pos) (dMv i):=⟨_,pe_var hN hv hd hcd,se_mv⟩
theorem a_nil:Ra cl xf X W p [] daNil:=⟨_,pa_nil,sa_nil⟩
theorem a_cons {da':DA} (ha:Rd cl xf X W p e da) (hr:Ra cl xf X W p es da') (hs:starEach (e :: es) X.env = (false,eval e X.env) :: starEach es X.env:=by rfl):Ra cl xf X W p (e :: es) (daCons da da'):=by
  obtain ⟨ta,h1,h2⟩:=ha
  obtain ⟨tb,h3,h4⟩:=hr
  exact ⟨_,pa_cons h1 h3 hs,ZkR h2 h4⟩
theorem d_lst {da':DA} (h:Ra cl xf X W p es da'):Rd cl xf X W p (.List es pos) (dF mkLst da'):=by obtain ⟨ta,h1,h2⟩:=h; exact ⟨_,pe_lst h1,se_lst h2⟩
theorem d_tup {x1} {da':DA} (h:Ra cl xf X W p es da'):Rd cl xf X W p (.Tuple es x1 pos) (dF mkTup da'):=by obtain ⟨ta,h1,h2⟩:=h; exact ⟨_,pe_tup h1,se_tup h2⟩
theorem d_and {rest:List Expr} (ha:Rd cl xf X W p a da) (hb:Rd cl xf X W p (.BoolOp .And (b :: rest) pos) db):Rd cl xf X W p (.BoolOp .And (a :: b :: rest) pos) (dAnd da db):=by
  obtain ⟨ta,h1,h2⟩:=ha
  obtain ⟨tb,h3,h4⟩:=hb
  exact ⟨_,pe_and h1 h3,se_and h2 h4⟩
theorem d_one {op} (ha:Rd cl xf X W p a da):Rd cl xf X W p (.BoolOp op [a] pos) da:=by obtain ⟨ta,h1,h2⟩:=ha; exact ⟨_,pe_one h1,h2⟩
theorem d_not (ha:Rd cl xf X W p a da):Rd cl xf X W p (.UnaryOp .Not a pos) (d1S notD da):=by obtain ⟨ta,h1,h2⟩:=ha; exact ⟨_,pe_not h1,se_not h2⟩
theorem d_ch {op op':CmpOp} {r r':R2} {f g:D → D → Option D} (ho:OpR X (compareOp op) r) (ho':OpR X (compareOp op') r') (hf:POp cl r f) (hg:POp cl r' g) (ha:Rd cl xf X W p a da) (hb:Rd cl xf X W p b db) (hc:Rd cl xf X W p c dc) (hm:lastMarks [op,op'] [b,c] = false:=by with_unfolding_all rfl) :
    Rd cl xf X W p (.Compare a [op,op'] [b,c] pos) (dCh f g da db dc):=by
  obtain ⟨ta,h1,h2⟩:=ha
  obtain ⟨tb,h3,h4⟩:=hb
  obtain ⟨tc,h5,h6⟩:=hc
  exact ⟨_,pe_chain ho ho' h1 h3 h5 hm,se_ch hf hg h2 h4 h6⟩
theorem t_v (ha:Rd cl xf X W p a da) (he:∀ whole,isTrue a X.env whole = (do let v ← whole; standAt a.pos; holding [v] (truthy v)):=by intro _; rfl):Rt cl xf X W p a (dtV da):=by obtain ⟨ta,h1,h2⟩:=ha; exact ⟨_,pt_val h1 he,sb_v h2⟩
def C2 (X:Cx) (e a b:Expr) (r:R2):Prop:=∀ ta tb,PE X a ta → PE X b tb → L2.PT X e (tTest (tOp r ta tb))
theorem t_ch {op op':CmpOp} {r r':R2} {f g:D → D → Option D} (ho:OpR X (compareOp op) r) (ho':OpR X (compareOp op') r') (hf:POp cl r f) (hg:POp cl r' g) (ha:Rd cl xf X W p a da) (hb:Rd cl xf X W p b db) (hc:Rd cl xf X W p c dc) (hm:lastMarks [op,op'] [b,c] = false:=by with_unfolding_all rfl) :
    Rt cl xf X W p (.Compare a [op,op'] [b,c] pos) (dtV (dCh f g da db dc)):=by
  obtain ⟨ta,h1,h2⟩:=ha
  obtain ⟨tb,h3,h4⟩:=hb
  obtain ⟨tc,h5,h6⟩:=hc
  exact ⟨_,pt_chain ho ho' h1 h3 h5 hm,sb_v (se_ch hf hg h2 h4 h6)⟩
theorem t_not {dt:DT} (ha:Rt cl xf X W p a dt):Rt cl xf X W p (.UnaryOp .Not a pos) (dtNot dt):=by obtain ⟨ta,h1,h2⟩:=ha; exact ⟨_,pt_not h1,sb_not h2⟩
theorem t_w {dt:DT} (ha:Rw cl xf X W p a dt):Rt cl xf X W p a dt:=by obtain ⟨ta,h1,h2⟩:=ha; exact ⟨_,PW.pt h1,h2⟩
theorem w_and1 {dt:DT} (ha:Rt cl xf X W p a dt):Rw cl xf X W p (.BoolOp .And [a] pos) dt:=by obtain ⟨ta,h1,h2⟩:=ha; exact ⟨_,pw_and1 h1,h2⟩
theorem w_or1 {dt:DT} (ha:Rt cl xf X W p a dt):Rw cl xf X W p (.BoolOp .Or [a] pos) dt:=by obtain ⟨ta,h1,h2⟩:=ha; exact ⟨_,pw_or1 h1,h2⟩
theorem w_and {rest:List Expr} {dt du:DT} (ha:Rt cl xf X W p a dt) (hb:Rw cl xf X W p (.BoolOp .And (b :: rest) pos) du):Rw cl xf X W p (.BoolOp .And (a :: b :: rest) pos) (dtAnd dt du):=by
  obtain ⟨ta,h1,h2⟩:=ha
  obtain ⟨tb,h3,h4⟩:=hb
  exact ⟨_,pw_and h1 h3,sb_and h2 h4⟩
theorem w_or {rest:List Expr} {dt du:DT} (ha:Rt cl xf X W p a dt) (hb:Rw cl xf X W p (.BoolOp .Or (b :: rest) pos) du):Rw cl xf X W p (.BoolOp .Or (a :: b :: rest) pos) (dtOr dt du):=by
  obtain ⟨ta,h1,h2⟩:=ha
  obtain ⟨tb,h3,h4⟩:=hb
  exact ⟨_,pw_or h1 h3,sb_or h2 h4⟩
structure Fn (cl:Ec) (xf:Nat → List Str) (P:Program) (w:World) (K:PySem.W.Frag) (mg:Str → Option Value) (base:Heap) (x:Str) (k np:Nat) (F:List D → Out D):Prop where
  ex:∃ f fd ps,FnG P w K mg base (L2.CX P w) k f fd ps (spF cl xf np F) ∧ mg x = some (.ref f) ∧ PySem.W.keepIn K (.ref f) = true ∧ Binds K fd ps []
theorem c_nil:Rc cl xf X W [] daNil:=⟨_,pa_nil,sc_nil⟩
theorem c_val {da':DA} (ha:Rd cl xf X W true e da) (hr:Rc cl xf X W es da') (hs:starEach (e :: es) X.env = (false,eval e X.env) :: starEach es X.env:=by rfl):Rc cl xf X W (e :: es) (daCons da da'):=by
  obtain ⟨ta,h1,h2⟩:=ha
  obtain ⟨tb,h3,h4⟩:=hr
  exact ⟨_,pa_cons h1 h3 hs,sc_val h2 h4⟩
theorem c_lend {da':DA} (ha:Rk cl X e pa) (hr:Rc cl xf X W es da') (hs:starEach (e :: es) X.env = (false,eval e X.env) :: starEach es X.env:=by rfl):Rc cl xf X W (e :: es) (daLend pa da'):=by
  obtain ⟨ta,h1,h2⟩:=ha
  obtain ⟨tb,h3,h4⟩:=hr
  exact ⟨_,pa_cons h1 h3 hs,Zg2 h2 h4⟩
def DL (n:Nat) (da:DA):Prop:=∀ δ ds s,da δ = .ok ds s → ds.length = n
theorem dl_nil:DL 0 daNil:=fun δ ds s e=>by cases e; rfl
theorem ZbZ {n:Nat} {da':DA} (h:DL n da'):DL (n + 1) (daCons da da'):=fun δ ds s e=>by
  unfold daCons at e
  cases e1:da δ with
  | bad=>rw [e1] at e; cases e
  | exc c xs s=>rw [e1] at e; cases e
  | ok x s1 =>
    rw [e1] at e
    simp only [Out.bind] at e
    cases e2:da' s1 with
    | bad=>rw [e2] at e; cases e
    | exc c xs s=>rw [e2] at e; cases e
    | ok xs s2=>rw [e2] at e; cases e; simp [h _ _ _ e2]
theorem Zk {n:Nat} {da':DA} (h:DL n da'):DL (n + 1) (daLend pa da'):=fun δ ds s e=>by
  unfold daLend at e
  split at e
  · cases e2:da' δ with
    | bad=>rw [e2] at e; cases e
    | exc c xs s=>rw [e2] at e; cases e
    | ok xs s2=>rw [e2] at e; cases e; simp [h _ _ _ e2]
  · cases e
theorem d_call {F:List D → Out D} {x:Str} {k m np:Nat} {da':DA} {pp:Pos} (Fk:Fn cl xf X.prog X.w X.K X.mg X.base x k np F) (hr:RoomG m X.A) (hkm:k ≤ m) (tk:Takes X W) (ha:Rc cl xf X W (e :: es) da') (hn:DL np da') (hg:Gl X x:=by rfl)
    (hdb:(x == ("__debug__":Str)) = false:=by decide) (he:starEach (e :: es) X.env = (false,eval e X.env) :: starEach es X.env:=by rfl) (hpl:(backTo pos (starEach es X.env)).any (·.1) = false:=by rfl):Rd cl xf X W p (.Call (.Name x pp) (e :: es) [] pos) (dCall F da'):=by
  obtain ⟨ta,h1,h2⟩:=ha
  obtain ⟨f,fd,ps,hF,hm,hk,hb⟩:=Fk.ex
  exact ⟨_,pe_callG hF (hr.mono hkm) hg hm hk hb (fun σ=>passAt tk σ) h1 hdb he hpl,(ZfP h2 hn).to⟩
theorem q_nil:Rq cl xf X W [] []:=⟨_,pa_nil,sq_nil⟩
theorem q_val {ks:List AK} (ha:Rd cl xf X W false e da) (hr:Rq cl xf X W es ks) (hs:starEach (e :: es) X.env = (false,eval e X.env) :: starEach es X.env:=by rfl):Rq cl xf X W (e :: es) (.v da :: ks):=by
  obtain ⟨ta,h1,h2⟩:=ha
  obtain ⟨tb,h3,h4⟩:=hr
  exact ⟨_,pa_cons h1 h3 hs,sq_val h2 h4⟩
theorem q_l (i:Nat) {x:Str} {ks:List AK} (hr:Rq cl xf X W es ks) (hN:X.N[i]? = some x:=by rfl) (hv:Vis X.env.scope x:=by first | exact Or.inl rfl | exact Or.inr (Or.inl rfl) | exact Or.inr (Or.inr rfl)) (hd:(x == ("__debug__":Str)) = false:=by decide) (hcd:(x == ("__classdict__":Str)) = false:=by decide)
    (hs:starEach (.Name x pos :: es) X.env = (false,eval (.Name x pos) X.env) :: starEach es X.env:=by rfl):Rq cl xf X W (.Name x pos :: es) (.l i :: ks):=by
  obtain ⟨tb,h3,h4⟩:=hr
  exact ⟨_,pa_cons (pe_var hN hv hd hcd) h3 hs,sq_l h4⟩
theorem q_o (i:Nat) {x:Str} {ks:List AK} (hr:Rq cl xf X W es ks) (hN:X.N[i]? = some x:=by rfl) (hv:Vis X.env.scope x:=by first | exact Or.inl rfl | exact Or.inr (Or.inl rfl) | exact Or.inr (Or.inr rfl)) (hd:(x == ("__debug__":Str)) = false:=by decide) (hcd:(x == ("__classdict__":Str)) = false:=by decide)
    (hs:starEach (.Name x pos :: es) X.env = (false,eval (.Name x pos) X.env) :: starEach es X.env:=by rfl):Rq cl xf X W (.Name x pos :: es) (.o i :: ks):=by
  obtain ⟨tb,h3,h4⟩:=hr
  exact ⟨_,pa_cons (pe_var hN hv hd hcd) h3 hs,sq_o h4⟩
theorem d_io {F:List D → Out D} {x:Str} {k m np:Nat} {ks:List AK} {pp:Pos} (Fk:Fn cl xf X.prog X.w X.K X.mg X.base x k np F) (hr:RoomG m X.A) (hkm:k ≤ m) (tk:Takes X W) (ha:Rq cl xf X W (e :: es) ks) (hn:ks.length = np) (hg:Gl X x:=by rfl)
    (hdb:(x == ("__debug__":Str)) = false:=by decide) (he:starEach (e :: es) X.env = (false,eval e X.env) :: starEach es X.env:=by rfl) (hpl:(backTo pos (starEach es X.env)).any (·.1) = false:=by rfl):Rd cl xf X W false (.Call (.Name x pp) (e :: es) [] pos) (Ze F ks):=by
  obtain ⟨ta,h1,h2⟩:=ha
  obtain ⟨f,fd,ps,hF,hm,hk,hb⟩:=Fk.ex
  exact ⟨_,pe_callG hF (hr.mono hkm) hg hm hk hb (fun σ=>passAt tk σ) h1 hdb he hpl,ZiE h2 hn⟩
theorem Zcf {tg:Expr} {pp:Pos} (hm:X.mg "range" = none) (ha:Rd cl xf X W p a da) (hg:Gl X "range":=by rfl) (hs:starEach [a] X.env = [(false,eval a X.env)]:=by rfl) (hs2:starEach (a :: []) X.env = (false,eval a X.env) :: starEach [] X.env:=by rfl):Ri cl xf X W p tg (.Call (.Name "range" pp) [a] [] pos) (diD itR da):=by
  obtain ⟨ta,h1,h2⟩:=ha
  exact ⟨_,pi_range1 hg hm (pa_cons h1 pa_nil hs2) hs,ZiA h2⟩
theorem g_name (i:Nat) {x:Str} (hN:X.N.Nodup) (hw:ws i = true:=by rfl) (hi:X.N[i]? = some x:=by rfl) (hx:Loc X.env.scope x:=by first | exact Or.inl rfl | exact Or.inr rfl) (hf:X.fn x = true ∨ X.env.scope.names.lookup x = some .local:=by first | exact .inl rfl | exact .inr rfl):Rg cl X ws (.Name x pos) (tgN i):=⟨_,pg_name hN hi hx hf,ZfO hw⟩
theorem gs_nil:Rgs cl X ws [] []:=⟨_,pgs_nil,ZkN⟩
end
end Fs
namespace Fs
open PySem PySem.Spec PyProof.Rows L2
section
variable {cl:Ec} {xf:Nat → List Str} {X:Cx} {W:WX} {ws:Nat → Bool} {p:Bool} {e a b c tg:Expr} {es:List Expr} {da db dc:DE} {pa pb:PP} {r:R2} {r1:V → Hp → VK → Prop} {f:D → D → Option D} {f1:D → Option D} {pos pos' pp:Pos}
theorem Zbf {tgs':List (D → Sl → Option Sl)} {t:D → Sl → Option Sl} (h1:Rg cl X ws e t) (h2:Rgs cl X ws es tgs') (hs:(assignEach (e :: es) X.env).map (·.2) = assign e X.env :: (assignEach es X.env).map (·.2):=by rfl):Rgs cl X ws (e :: es) (t :: tgs'):=by
  obtain ⟨g,q1,q2⟩:=h1
  obtain ⟨g',q3,q4⟩:=h2
  exact ⟨_,pgs_cons q1 q3 hs,ZjX q2 q4⟩
theorem g_tup {k:Nat} {tgs':List (D → Sl → Option Sl)} (h:Rgs cl X ws es tgs') (hc:X.calm = true:=by rfl) (hn:(assignEach es X.env).length = tgs'.length:=by rfl) (hst:(assignEach es X.env).findIdx? (·.1) = none:=by rfl):Rg cl X ws (.Tuple es k pos) (tgT tgs'):=by
  obtain ⟨g,q1,q2⟩:=h
  exact ⟨_,pg_tup hc q1 hn hst,sg_tup rfl q2⟩
theorem d_lcP {elt iter:Expr} {ifs:List Expr} {scope:Scope} {own:List (Str × Nat)} {di:DA} {t:D → Sl → Option Sl} {tst:DT} {elt':DE} (hi:Ri cl xf X W true tg iter di) (ok:BlkOk X.N X.env.scope scope own) (hin:TgIn (own.map (·.2)) t)
    (hg:∃ g,(∀ (s:Shared) (H:Hp) (C:Addr) (cl':List (Str × Addr)) (fp:List Addr),PG (X.blk s H scope (compEnvC scope cl' C X.env) fp) tg g) ∧ SG cl (fun i=>(own.map (·.2)).contains i) g t)
    (ht:∃ tt,(∀ (s:Shared) (H:Hp) (C:Addr) (cl':List (Str × Addr)) (fp:List Addr),PTs (X.blk s H scope (compEnvC scope cl' C X.env) fp) ifs tt) ∧ SB cl xf W0 true tt tst)
    (he:∃ te,(∀ (s:Shared) (H:Hp) (C:Addr) (cl':List (Str × Addr)) (fp:List Addr),PE (X.blk s H scope (compEnvC scope cl' C X.env) fp) elt te) ∧ SE cl xf W0 true te elt')
    (hN:X.N.Nodup) (hc:X.calm = true:=by rfl) (hs:∀ x,foldedSetIterable iter X.env x = pure x:=by intro _; rfl) :
    Rd cl xf X W p (.ListComp elt [⟨tg,iter,ifs,0⟩] scope pos) (dComp true (own.map (·.2)) di t tst elt'):=by
  obtain ⟨wi,q1,q2⟩:=hi
  obtain ⟨g,q3,q4⟩:=hg
  obtain ⟨tt,q5,q6⟩:=ht
  obtain ⟨te,q7,q8⟩:=he
  exact ⟨_,pe_lc hc hN q1 ok q3 q5 q7 hs,(ZhC q2 q4 hin q6 q8).to⟩
theorem d_lc {elt iter:Expr} {ifs:List Expr} {scope:Scope} {own:List (Str × Nat)} {di:DA} {t:D → Sl → Option Sl} {tst:DT} {elt':DE} (hi:Ri cl xf X W false tg iter di) (ok:BlkOk X.N X.env.scope scope own) (hin:TgIn (own.map (·.2)) t)
    (hg:∃ g,(∀ (s:Shared) (H:Hp) (C:Addr) (cl':List (Str × Addr)) (fp:List Addr),PG (X.blk s H scope (compEnvC scope cl' C X.env) fp) tg g) ∧ SG cl (fun i=>(own.map (·.2)).contains i) g t)
    (ht:∃ tt,(∀ (s:Shared) (H:Hp) (C:Addr) (cl':List (Str × Addr)) (fp:List Addr),PTs (X.blk s H scope (compEnvC scope cl' C X.env) fp) ifs tt) ∧ SB cl xf W0 false tt tst)
    (he:∃ te,(∀ (s:Shared) (H:Hp) (C:Addr) (cl':List (Str × Addr)) (fp:List Addr),PE (X.blk s H scope (compEnvC scope cl' C X.env) fp) elt te) ∧ SE cl xf W0 false te elt')
    (hN:X.N.Nodup) (hc:X.calm = true:=by rfl) (hs:∀ x,foldedSetIterable iter X.env x = pure x:=by intro _; rfl) :
    Rd cl xf X W false (.ListComp elt [⟨tg,iter,ifs,0⟩] scope pos) (dComp false (own.map (·.2)) di t tst elt'):=by
  obtain ⟨wi,q1,q2⟩:=hi
  obtain ⟨g,q3,q4⟩:=hg
  obtain ⟨tt,q5,q6⟩:=ht
  obtain ⟨te,q7,q8⟩:=he
  exact ⟨_,pe_lc hc hN q1 ok q3 q5 q7 hs,ZkP q2 q4 hin q6 q8⟩
theorem s_lcP (i:Nat) {y:Str} {py:Pos} {elt iter:Expr} {ifs:List Expr} {scope:Scope} {own:List (Str × Nat)} {di:DA} {t:D → Sl → Option Sl} {tst:DT} {elt':DE} (hi:Ri cl xf X W true tg iter di) (ok:BlkOk X.N X.env.scope scope own) (hin:TgIn (own.map (·.2)) t)
    (hg:∃ g,(∀ (s:Shared) (H:Hp) (C:Addr) (cl':List (Str × Addr)) (fp:List Addr),PG (X.blk s H scope (compEnvC scope cl' C X.env) fp) tg g) ∧ SG cl (fun i=>(own.map (·.2)).contains i) g t)
    (ht:∃ tt,(∀ (s:Shared) (H:Hp) (C:Addr) (cl':List (Str × Addr)) (fp:List Addr),PTs (X.blk s H scope (compEnvC scope cl' C X.env) fp) ifs tt) ∧ SB cl xf W0 true tt tst)
    (he:∃ te,(∀ (s:Shared) (H:Hp) (C:Addr) (cl':List (Str × Addr)) (fp:List Addr),PE (X.blk s H scope (compEnvC scope cl' C X.env) fp) elt te) ∧ SE cl xf W0 true te elt')
    (hN:X.N.Nodup) (hsw:swapsWith (.ListComp elt [⟨tg,iter,ifs,0⟩] scope pos) (some (.Name y py)) pos'.line X.env = pure true) (hw:ws i = true:=by rfl) (hy:X.N[i]? = some y:=by rfl) (hyl:X.env.scope.names.lookup y = some .local:=by rfl) (hc:X.calm = true:=by rfl) (hs:∀ x,foldedSetIterable iter X.env x = pure x:=by intro _; rfl) :
    Rs cl xf X W ws (.Assign [.Name y py] (.ListComp elt [⟨tg,iter,ifs,0⟩] scope pos) pos') (dsAsg (dComp true (own.map (·.2)) di t tst elt') (tgN i)):=by
  obtain ⟨wi,q1,q2⟩:=hi
  obtain ⟨g,q3,q4⟩:=hg
  obtain ⟨tt,q5,q6⟩:=ht
  obtain ⟨te,q7,q8⟩:=he
  exact ⟨_,ps_setLc hc hN hy hyl hsw q1 ok q3 q5 q7 hs,ss_asg (ZhC q2 q4 hin q6 q8).to (ZfO hw)⟩
def dtYes:DT:=fun δ=>.ok true δ
theorem sb_yes:SB cl xf W p tYes dtYes:=⟨fun _ δ=>rfl,fun A L B H δ σ Q j k=>k [] A H (Nx.refl j.ba) j⟩
theorem b_nil:Rb cl xf X W ws [] dsNext:=⟨_,pss_nil,ZkA⟩
theorem b_cons {st:Stmt} {sts:List Stmt} {d d':DS} (h:Rs cl xf X W ws st d) (h':Rb cl xf X W ws sts d'):Rb cl xf X W ws (st :: sts) (dsSeq d d'):=by
  obtain ⟨t,q1,q2⟩:=h
  obtain ⟨t',q3,q4⟩:=h'
  exact ⟨_,pss_cons q1 q3,ss_seq q2 q4⟩
theorem b_one {st:Stmt} {d:DS} (h:Rs cl xf X W ws st d):Rb cl xf X W ws [st] d:=by obtain ⟨t,q1,q2⟩:=h; exact ⟨_,pss_one q1,q2⟩
theorem s_set (i:Nat) {x:Str} (h:Rd cl xf X W false e da) (hN:X.N.Nodup) (hw:ws i = true:=by rfl) (hi:X.N[i]? = some x:=by rfl) (hx:Loc X.env.scope x:=by first | exact Or.inl rfl | exact Or.inr rfl) (hs:swapsWith e (some (.Name x pos')) pos.line X.env = pure false:=by rfl) (hf:X.fn x = true ∨ X.env.scope.names.lookup x = some .local:=by first | exact .inl rfl | exact .inr rfl) :
    Rs cl xf X W ws (.Assign [.Name x pos'] e pos) (dsAsg da (tgN i)):=by
  obtain ⟨te,q1,q2⟩:=h
  exact ⟨_,ps_set hN hi hx q1 hs hf,ss_asg q2 (ZfO hw)⟩
theorem s_asg {t:D → Sl → Option Sl} (h:Rd cl xf X W false e da) (hg:Rg cl X ws tg t) (hs:swapsWithSole [tg] e pos.line X.env = pure false:=by rfl) (hw:swappedStores [tg] e X.env = pure none:=by rfl) (h1:(assignEach [tg] X.env).map (·.2) = [assign tg X.env]:=by rfl):Rs cl xf X W ws (.Assign [tg] e pos) (dsAsg da t):=by
  obtain ⟨te,q1,q2⟩:=h
  obtain ⟨g,q3,q4⟩:=hg
  exact ⟨_,ps_asg q1 q3 hs hw h1,ss_asg q2 q4⟩
theorem s_ret (h:Rd cl xf X W false e da):Rs cl xf X W ws (.Return (some e) pos) (dsRet da):=by obtain ⟨te,q1,q2⟩:=h; exact ⟨_,ps_ret q1,ss_ret q2⟩
theorem s_expr (h:Rd cl xf X W false e da) (hs:swapsWith e none pos.line X.env = pure false:=by rfl):Rs cl xf X W ws (.Expr e pos) (dsDrop da):=by obtain ⟨te,q1,q2⟩:=h; exact ⟨_,ps_expr q1 hs,ZkD q2⟩
theorem s_if {dt:DT} {d d':DS} {st st':List Stmt} (hc:Rt cl xf X W false c dt) (h:Rb cl xf X W ws st d) (h':Rb cl xf X W ws st' d'):Rs cl xf X W ws (.If c st st' pos) (dsIf dt d d'):=by
  obtain ⟨t,q1,q2⟩:=h
  obtain ⟨t',q3,q4⟩:=h'
  obtain ⟨tc,q5,q6⟩:=hc
  exact ⟨_,ps_if q5 q1 q3,ss_if q6 q2 q4⟩
theorem s_for {iter:Expr} {body:List Stmt} {di:DA} {t:D → Sl → Option Sl} {d:DS} (hi:Ri cl xf X W false tg iter di) (hg:Rg cl X ws tg t) (hb:Rb cl xf X W ws body d) (hp:PassesOwn (model X.prog X.w) X.A X.env X.xe) (hc:X.calm = true:=by rfl) (hs:∀ x,foldedSetIterable iter X.env x = pure x:=by intro _; rfl) :
    Rs cl xf X W ws (.For tg iter body [] pos) (dsFor di t d):=by
  obtain ⟨wi,q1,q2⟩:=hi
  obtain ⟨g,q3,q4⟩:=hg
  obtain ⟨tb,q5,q6⟩:=hb
  exact ⟨_,ps_for hp hc q1 q3 q5 hs,ss_for q2 q4 q6⟩
theorem d_app (i:Nat) {x:Str} {apos:Pos} (h:Rd cl xf X W false e da) (hN:X.N[i]? = some x:=by rfl) (hv:Vis X.env.scope x:=by first | exact Or.inl rfl | exact Or.inr (Or.inl rfl) | exact Or.inr (Or.inr rfl)) (hd:(x == ("__debug__":Str)) = false:=by decide) (hcd:(x == ("__classdict__":Str)) = false:=by decide)
    (hq:∀ ta,PE X e ta → PE X (.Call (.Attribute (.Name x pp) "append" apos) [e] [] pos) (tBM X.K "list" rAppend (tVar i) (tCons ta tNil))):Rd cl xf X W false (.Call (.Attribute (.Name x pp) "append" apos) [e] [] pos) (dApp i da):=by
  obtain ⟨te,q1,q2⟩:=h
  exact ⟨_,hq _ q1,se_app q2⟩
theorem o_sub:B2 X (.BinOp a .Sub b pos) a b (rI0 fun i j=>.int (i - j)):=fun _ _ ha hb=>pe_op op_sub ha hb
theorem o_div:B2 X (.BinOp a .FloorDiv b pos) a b (rI CDivW fun i j=>.int (i / j)):=fun _ _ ha hb=>pe_op op_fdivW ha hb
theorem o_mod:B2 X (.BinOp a .Mod b pos) a b (rI (fun _ j=>0 < j) fun i j=>.int (i % j)):=fun _ _ ha hb=>pe_op op_mod ha hb
theorem o_pow:B2 X (.BinOp a .Pow b pos) a b (rI CPow fun i j=>.int (i ^ j.toNat)):=fun _ _ ha hb=>pe_op op_pow ha hb
theorem o_cmp {op:CmpOp} (h:OpR X (compareOp op) r) (hm:behindInMarks op b = false):B2 X (.Compare a [op] [b] pos) a b r:=fun _ _ ha hb=>pe_cmpR h ha hb hm
theorem c_cmp {op:CmpOp} (h:OpR X (compareOp op) r) (hm:behindInMarks op b = false):C2 X (.Compare a [op] [b] pos) a b r:=fun _ _ ha hb=>pt_cmpR h ha hb hm
theorem Zls (hu:X.A.units + 1 < cLine):IxR X (fun x y H Q=>∃ a v,x = .ref a ∧ DGet H a y (some v) ∧ Q v H):=by
  intro value slice pins s σ H x y v u Q I rx ry ⟨a,w,ex,g,q⟩ hs
  subst ex
  obtain rfl:v = Value.ref a:=rx
  have hT:=dict_typeIs I g
  unfold subscriptTail
  refine wpAny_bind ?_
  rw [getitemInPython_of_ne hT.not_modules]
  refine wpAny_bind (wpAny_specialOf hT PySem.F.slot_dict_getitem.lookup ?_)
  have fin:wpAny (model X.prog X.w) X.A (subscripted slice false (.ref a) u) (fun r s₃=>wpAny (model X.prog X.w) X.A (letTemporaryGo value (.ref a) r >>= fun _=>pure r) (EP X pins σ Q) X.xe s₃) X.xe s:=by
    rw [hs]
    exact wpAny_operating (d_getItem hu I g ry fun w' s3 I3 rw'=>wpAny_bind (wpAny_letTemporaryGo (wpAny_pure ⟨w,H,I3,rw',q⟩)))
  first
    | exact wpAny_pure (wpAny_bind fin)
    | exact wpAny_bind (wpAny_pure (wpAny_bind fin))
    | exact wpAny_bind fin
theorem o_ix (hK:X.K = cl.K) (hu:X.A.units + 1 < cLine) (hs:PlainIx b):B2 X (.Subscript a b pos) a b (rIxA cl.K):=by rw [← hK]; exact fun _ _ ha hb=>pe_ix (ix_seq.or (Zls hu)) ha hb hs
theorem o_len (hK:X.K = cl.K) (hm:X.mg "len" = none) (hg:Gl X "len":=by rfl) (h1:starEach [a] X.env = (false,eval a X.env) :: starEach [] X.env:=by rfl) (h2:(backTo pos (starEach [] X.env)).any (·.1) = false:=by rfl):B1 X (.Call (.Name "len" pp) [a] [] pos) a (rLenA cl.K):=by rw [← hK]; exact fun _ ha=>pe_callB (call_len.or Zju) hg hm PySem.boot_len (pa_cons ha pa_nil h1) (by decide) (by decide) h1 h2
theorem o_isi {T:String} {tn:Str} {pt:Pos} (hm:X.mg "isinstance" = none) (ht:X.mg tn = none) (hv:bootBuiltins tn = some (.type T)) (hg:Gl X "isinstance":=by rfl) (hgt:Gl X tn:=by rfl) (hn:tn ≠ "__name__":=by decide) (hd:(tn == ("__debug__":Str)) = false:=by decide)
    (h1:starEach [a,.Name tn pt] X.env = (false,eval a X.env) :: starEach [.Name tn pt] X.env:=by rfl) (h0:starEach [.Name tn pt] X.env = (false,eval (.Name tn pt) X.env) :: starEach [] X.env:=by rfl) (h2:(backTo pos (starEach [.Name tn pt] X.env)).any (·.1) = false:=by rfl):B1 X (.Call (.Name "isinstance" pp) [a,.Name tn pt] [] pos) a (fun x H Q=>rIsi X.K [x,.ty T] H Q) :=
  fun _ ha=>pe_callB call_isi hg hm PyProof.Rows.boot_isinstance (pa_cons ha (pa_cons (pe_bltn (v:=.ty T) hgt ht hv rfl hn hd) pa_nil h0) h1) (by decide) (by decide) h1 h2
theorem o_max (hm:X.mg "max" = none) (hc:X.calm = true:=by rfl) (hg:Gl X "max":=by rfl) (h1:starEach [a,b] X.env = (false,eval a X.env) :: starEach [b] X.env:=by rfl) (h0:starEach [b] X.env = (false,eval b X.env) :: starEach [] X.env:=by rfl) (h2:(backTo pos (starEach [b] X.env)).any (·.1) = false:=by rfl):B2 X (.Call (.Name "max" pp) [a,b] [] pos) a b (fun x y H Q=>∃ i j,[x,y] = [.int i,.int j] ∧ Q (.int (if j > i then j else i)) H) :=
  fun _ _ ha hb=>pe_callB (call_max2 hc) hg hm PyProof.Rows.boot_max (pa_cons ha (pa_cons hb pa_nil h0) h1) (by decide) (by decide) h1 h2
theorem Zjy:bootBuiltins "min" = some (.builtin "min"):=by decide +kernel
theorem Zjz:bootBuiltins "all" = some (.builtin "all"):=by decide +kernel
theorem o_min (hm:X.mg "min" = none) (hc:X.calm = true:=by rfl) (hg:Gl X "min":=by rfl) (h1:starEach [a,b] X.env = (false,eval a X.env) :: starEach [b] X.env:=by rfl) (h0:starEach [b] X.env = (false,eval b X.env) :: starEach [] X.env:=by rfl) (h2:(backTo pos (starEach [b] X.env)).any (·.1) = false:=by rfl):B2 X (.Call (.Name "min" pp) [a,b] [] pos) a b (fun x y H Q=>∃ i j,[x,y] = [.int i,.int j] ∧ Q (.int (if j < i then j else i)) H) :=
  fun _ _ ha hb=>pe_callB (call_min2 hc) hg hm Zjy (pa_cons ha (pa_cons hb pa_nil h0) h1) (by decide) (by decide) h1 h2
theorem o_all (hm:X.mg "all" = none) (hc:X.calm = true:=by rfl) (hg:Gl X "all":=by rfl) (h1:starEach [a] X.env = (false,eval a X.env) :: starEach [] X.env:=by rfl) (h2:(backTo pos (starEach [] X.env)).any (·.1) = false:=by rfl):B1 X (.Call (.Name "all" pp) [a] [] pos) a (fun x H Q=>rAll X.K [x] H Q):=fun _ ha=>pe_callB (cr_all hc) hg hm Zjz (pa_cons ha pa_nil h1) (by decide) (by decide) h1 h2
theorem o_join {s:Str} {j:Nat} {cp apos:Pos} (hs:starEach [a] X.env = [(false,eval a X.env)]:=by rfl) (hbase:attributeBase (.Constant (.str s) j cp) "join" X.env (eval (.Constant (.str s) j cp) X.env) = eval (.Constant (.str s) j cp) X.env:=by rfl) (hline:(apos.endLine == pos.line) = true:=by rfl) :
    B1 X (.Call (.Attribute (.Constant (.str s) j cp) "join" apos) [a] [] pos) a (fun y H Q=>∃ a' p,∃ ys:List Str,V.str s = .str a' ∧ [y] = [V.ref p] ∧ (SqL X.K H p (ys.map V.str) ∨ SqT X.K H p (ys.map V.str)) ∧ (ys.map (·.length)).sum + ys.length * a'.length ≤ 16777216 ∧ Q (.str (Txt.join a' ys)) H):=fun ta ha=>by
  have h:=pe_join (X:=X) (o:=.Constant (.str s) j cp) (to:=tC (.str s)) pe_str ha hs hbase hline
  refine ⟨fun pins s' σ H Q I hw=>h.run pins s' σ H Q I ?_⟩
  exact ⟨⟨s,rfl⟩,hw⟩
end
end Fs
namespace Fs
open PySem PySem.Spec PyProof.Rows L2
section
variable {cl:Ec} {xf:Nat → List Str} {X:Cx} {W:WX} {ws:Nat → Bool} {p:Bool} {scope:Scope}
theorem uni_e {elt:Expr} {de:DE} (h:∀ (s:Shared) (H:Hp) (C:Addr) (cl':List (Str × Addr)) (fp:List Addr),Rd cl xf (X.blk s H scope (compEnvC scope cl' C X.env) fp) W0 p elt de) :
    ∃ te,(∀ (s:Shared) (H:Hp) (C:Addr) (cl':List (Str × Addr)) (fp:List Addr),PE (X.blk s H scope (compEnvC scope cl' C X.env) fp) elt te) ∧ SE cl xf W0 p te de:=by
  refine ⟨fun σ H Q=>∀ te,SE cl xf W0 p te de → te σ H Q,fun s H C cl' fp=>⟨fun pins s' σ H' Q I hw=>?_⟩,⟨?_,fun A L B H δ σ Q j k te hte=>hte.run A L B H δ σ Q j k⟩⟩
  · obtain ⟨te,h1,h2⟩:=h s H C cl' fp
    exact h1.run pins s' σ H' Q I (hw te h2)
  · obtain ⟨te,h1,h2⟩:=h X.s_0 X.H_0 0 [] []
    exact h2.pure
theorem uni_g {tg:Expr} {t:D → Sl → Option Sl} (h:∀ (s:Shared) (H:Hp) (C:Addr) (cl':List (Str × Addr)) (fp:List Addr),Rg cl (X.blk s H scope (compEnvC scope cl' C X.env) fp) ws tg t) :
    ∃ g,(∀ (s:Shared) (H:Hp) (C:Addr) (cl':List (Str × Addr)) (fp:List Addr),PG (X.blk s H scope (compEnvC scope cl' C X.env) fp) tg g) ∧ SG cl ws g t:=by
  refine ⟨fun v σ H Q=>∀ g,SG cl ws g t → g v σ H Q,fun s H C cl' fp=>⟨fun pins s' σ H' v u Q I rv hw=>?_⟩,fun p A L B H δ δ' σ d v Q j e k g hg=>hg p A L B H δ δ' σ d v Q j e k⟩
  obtain ⟨g,h1,h2⟩:=h s H C cl' fp
  exact h1.run pins s' σ H' v u Q I rv (hw g h2)
theorem uni_t {c:Expr} {dt:DT} (h:∀ (s:Shared) (H:Hp) (C:Addr) (cl':List (Str × Addr)) (fp:List Addr),Rt cl xf (X.blk s H scope (compEnvC scope cl' C X.env) fp) W0 p c dt) :
    ∃ tt,(∀ (s:Shared) (H:Hp) (C:Addr) (cl':List (Str × Addr)) (fp:List Addr),PTs (X.blk s H scope (compEnvC scope cl' C X.env) fp) [c] tt) ∧ SB cl xf W0 p tt dt:=by
  refine ⟨fun σ H Q=>∀ tt,SB cl xf W0 p tt dt → tt σ H Q,fun s H C cl' fp=>⟨fun pins s' σ H' Q I hw=>?_⟩,⟨?_,fun A L B H δ σ Q j k tt ht=>ht.run A L B H δ σ Q j k⟩⟩
  · obtain ⟨tt,h1,h2⟩:=h s H C cl' fp
    exact (pts_one h1).run pins s' σ H' Q I (hw tt h2)
  · obtain ⟨tt,h1,h2⟩:=h X.s_0 X.H_0 0 [] []
    exact h2.pure
theorem uni_y:∃ tt,(∀ (s:Shared) (H:Hp) (C:Addr) (cl':List (Str × Addr)) (fp:List Addr),PTs (X.blk s H scope (compEnvC scope cl' C X.env) fp) [] tt) ∧ SB cl xf W0 p tt dtYes:=⟨tYes,fun _ _ _ _ _=>pts_nil,sb_yes⟩
end
end Fs
namespace Fs
open PySem PySem.Spec PyProof.Rows L2
section
variable {cl:Ec} {xf:Nat → List Str} {X:Cx} {W:WX} {ws:Nat → Bool} {p:Bool} {e a b:Expr} {pos pp apos:Pos} {da:DE}
theorem g_sub:GOp cl (rI0 fun i j=>.int (i - j)) subD:=(pop_I0 fun _ _=>rfl).gs Zco
theorem g_div:GOp cl (rI CDivW fun i j=>.int (i / j)) divD:=(pop_I ZlS fun _ _=>rfl).gs Zco
theorem g_mod:GOp cl (rI (fun _ j=>0 < j) fun i j=>.int (i % j)) modD:=(pop_I ZlR fun _ _=>rfl).gs Zco
theorem g_pow:GOp cl (rI CPow fun i j=>.int (i ^ j.toNat)) powD:=(pop_I ZlP fun _ _=>rfl).gs Zco
theorem p_lt:POp cl (rI0 fun i j=>.bl (decide (i < j))) ltD:=pop_I0 fun _ _=>rfl
theorem p_le:POp cl (rI0 fun i j=>.bl (decide (i ≤ j))) leD:=pop_I0 fun _ _=>rfl
theorem p_gt:POp cl (rI0 fun i j=>.bl (decide (j < i))) gtD:=pop_I0 fun _ _=>rfl
theorem g_lt:GOp cl (rI0 fun i j=>.bl (decide (i < j))) ltD:=p_lt.gs Zco
theorem g_gt:GOp cl (rI0 fun i j=>.bl (decide (j < i))) gtD:=p_gt.gs Zco
theorem g_eq {K:PySem.W.Frag}:GOp cl (rEqD K) eqD:=pop_eq.gs ZhV
theorem g_ne {K:PySem.W.Frag}:GOp cl (rNeD K) neD:=pop_ne.gs ZhK
def ixK (x y:D):Option D:=(ixD x y).filter D.kept
theorem g_ix:GOp cl (rIxA cl.K) ixK:=pop_ix.g
theorem g_max:GOp cl (fun x y H Q=>∃ i j,[x,y] = [.int i,.int j] ∧ Q (.int (if j > i then j else i)) H) maxD:=(pop_2 (fun i j H Q q=>⟨i,j,rfl,q⟩) fun _ _=>rfl).gs Zco
theorem g_min:GOp cl (fun x y H Q=>∃ i j,[x,y] = [.int i,.int j] ∧ Q (.int (if j < i then j else i)) H) minD:=(pop_2 (fun i j H Q q=>⟨i,j,rfl,q⟩) fun _ _=>rfl).gs Zco
theorem g_len:GUn cl (rLenA cl.K) lenD:=pun_len.g Zi4
theorem g_isi {K:PySem.W.Frag} {c:String} (hc:c ∈ ["bool","int","str","list","tuple","dict"]:=by decide):GUn cl (fun x H Q=>rIsi K [x,.ty c] H Q) (isiD c):=(Zk3 hc).g Zji
theorem g_all {K:PySem.W.Frag}:GUn cl (fun x H Q=>rAll K [x] H Q) allD:=pun_all.g ZjD
theorem g_join {K:PySem.W.Frag} {s:Str}:GUn cl (fun y H Q=>∃ a' p,∃ ys:List Str,V.str s = .str a' ∧ [y] = [V.ref p] ∧ (SqL K H p (ys.map V.str) ∨ SqT K H p (ys.map V.str)) ∧ (ys.map (·.length)).sum + ys.length * a'.length ≤ 16777216 ∧ Q (.str (Txt.join a' ys)) H) (joinD s):=pun_join.g Zid
theorem g_notN:GUn cl (fun x H Q=>Q (.bl (!decide (x = .non))) H) notND:=pun_notN.g Zib
theorem o_neg:B1 X (.UnaryOp .USub a pos) a (rU fun i=>.int (-i)):=fun _ ha=>pe_un un_neg ha
def negD:D → Option D | .v (.int i)=>some (.int (-i)) | _=>none
theorem g_neg:GUn cl (rU fun i=>.int (-i)) negD:=by
  intro p A L B H ts ws δ σ x u f1 z Q j h1 e k
  unfold negD at e
  split at e
  · cases e
    obtain ⟨rfl,rfl,_⟩:=h1.leafv
    exact ⟨_,rfl,k _ A H (Nx.refl j.ba) (j.leaf rfl)⟩
  · cases e
theorem ZbO {x:Str} {v:V} {pa:Nat} (h:∃ u,X.mg x = some u ∧ RelV v u) (hs:sc v = true:=by rfl) (hg:Gl X x:=by rfl) (hd:(x == ("__debug__":Str)) = false:=by decide):Rk cl X (.Name x pos) (pC v):=by
  obtain ⟨u,h1,h2⟩:=h
  exact k_glob h1 h2 hs hg hd
end
end Fs
namespace Fs
open PySem PySem.Spec PyProof.Rows L2
section
variable {cl:Ec} {xf:Nat → List Str} {W:WX} {ws:Nat → Bool} {A A' L B:Addr → Prop} {H H':Hp} {δ δ':Sl} {σ σ':L2.St} {p q b:Bool} {te ta tb tc:TE} {tA:TA} {tt tu:TT} {t u:TS} {ts:List D} {vs:List V} {X:Cx} {e a:Expr} {pos pp apos cp:Pos}
theorem Jt.fill {k k':Kd} {a:Addr} {ws:List V} {o':HO} (j:Jt p cl A L B H (.n k .own [] :: ts) (.ref a :: ws) δ σ) (hs':Shape cl k' a ws o') (hm':k'.mut = true:=by rfl):Nx A B H A (upd H a o') ∧ Jt p cl A L B (upd H a o') [.n k' .own ts] [.ref a] δ σ:=by
  obtain ⟨f,g,h1,h2,h3,h4,h5⟩:=j.ex
  simp only [Rps,Rp] at h1
  obtain ⟨v0,vs',f1,f2,e,rfl,⟨a',o,us,e',ho,hs,hA,fp',rfl,hr⟩,h6⟩:=h1
  cases e
  cases e'
  obtain ⟨_,rfl⟩:=hr
  obtain ⟨hs,hm⟩:=hs.own
  have nd:=List.nodup_append.mp h3
  have nd2:=List.nodup_append.mp nd.1
  have nB:¬ B a:=h4 a (by simp)
  have nf:∀ c ∈ f2,c ≠ a:=fun c hc e=>by subst e; exact nd2.2.2 c (by simp) c hc rfl
  have ng:∀ c ∈ g,c ≠ a:=fun c hc e=>by subst e; exact nd.2.2 c (by simp) c hc rfl
  have st:∀ c u,H c = some u → ¬ A c → NT u → upd H a o' c = some u ∧ ¬ A c:=fun c u h n _=>⟨by rw [upd_ne (show c ≠ a from fun e=>n (by rw [e]; exact hA))]; exact h,n⟩
  refine ⟨⟨fun c h=>.inl h,fun c u h n t=>(st c u h n t).1,fun c h=>⟨upd_ne (show c ≠ a from fun e=>nB (by rw [← e]; exact h)),j.ba c h⟩,fun c h=>?_⟩,⟨⟨a :: f2,g,?_,h2.step st (fun c hc=>⟨upd_ne (ng c hc),(h2.inA c hc).1⟩) (fun c hc=>⟨upd_ne (show c ≠ a from fun e=>nB (by rw [← e]; exact j.lb c hc)),hc⟩),?_,?_,h5⟩,j.lb,j.ba,fun c h=>?_,Tb.put j.tb ho hs hm⟩⟩
  · by_cases e:c = a
    · subst e; rw [upd_same] at h; cases h
    · rw [upd_ne e] at h; exact h
  · simp only [Rps,Rp]
    exact ⟨.ref a,[],a :: f2,[],rfl,by simp,⟨a,o',ws,rfl,upd_same,.inl ⟨hs',fun _=>hm'⟩,hA,f2,rfl,h6.step st (fun c hc=>⟨upd_ne (nf c hc),(h6.inA c hc).1⟩) (by simp)⟩,rfl,rfl⟩
  · simpa using h3
  · intro c hc
    exact h4 c (by simpa using hc)
  · by_cases e:c = a
    · subst e; rw [upd_same]; simp
    · rw [upd_ne e]; exact j.ad c h
def keyD:D → Option Key
  | .v (.int i)=>some (.inl i)
  | .v (.str s)=>some (.inr s)
  | _=>none
theorem Zhn {d:D} {v:V} {fp:List Addr} {k:Key} (h:Rp cl A L H b d v fp) (e:keyD d = some k):v = kV k:=by
  unfold keyD at e
  split at e
  · cases e; exact h.leafv.1
  · cases e; exact h.leafv.1
  · cases e
def dPairs:List (PP × DE) → Sl → Out (List Key × List D)
  | [],δ=>.ok ([],[]) δ
  | (k,v) :: r,δ=>match (k δ).bind keyD with
    | some kk=>(v δ).bind fun x δ1=>(dPairs r δ1).bind fun s δ2=>.ok (kk :: s.1,x :: s.2) δ2
    | none=>.bad
structure SPr (cl:Ec) (xf:Nat → List Str) (W:WX) (p:Bool) (trs:List (TE × TE)) (ps:List (PP × DE)):Prop where
  pure:p = true → ∀ δ,(dPairs ps δ).same δ
  run:∀ A L B H δ σ Q,Jt p cl A L B H [] [] δ σ → Post cl xf W p (dPairs ps δ) (fun s=>s.2) A L B H σ (fun s vs H'=>s.1.length = vs.length → Q ((s.1.zip vs).map fun kv=>(kV kv.1,kv.2)) H') → tPairs trs σ H Q
theorem ZkG:SPr cl xf W p [] []:=⟨fun _ δ=>rfl,fun A L B H δ σ Q j k=>k [] A H (Nx.refl j.ba) j rfl⟩
theorem ZjW {k:PP} {v:DE} {trs:List (TE × TE)} {ps:List (PP × DE)} (hk:SP cl ta k) (hv:SE cl xf W p te v) (hr:SPr cl xf W p trs ps):SPr cl xf W p ((ta,te) :: trs) ((k,v) :: ps):=by
  refine ⟨fun hp δ=>?_,fun A L B H δ σ Q j kk=>?_⟩
  · unfold dPairs
    split
    · exact Out.same_bind (hv.pure hp δ) fun x=>Out.same_bind (hr.pure hp δ) fun s=>rfl
    · trivial
  · unfold dPairs at kk
    split at kk
    · rename_i key ek
      obtain ⟨d,e1,e2⟩:=Option.bind_eq_some_iff.mp ek
      obtain ⟨g,hg,_,_⟩:=j.drop0
      refine hk A L H δ σ g d _ hg e1 fun w fp h1 _=>?_
      have hw:=Zhn h1 e2
      subst hw
      refine hv.run A L B H δ σ _ j (Post.bind (γ:=D) kk fun x δ1 us A1 H1 e3 n1 j1 k1 y ey=>?_)
      subst ey
      obtain ⟨B',j2,hb,hj⟩:=j1.seq
      refine hr.run A1 L B' H1 δ1 σ _ j2 ?_
      have k2:=Post.step (A':=A1) (H':=H1) (Post.bind (γ:=D) (den0:=fun s=>x :: s.2) (Q0:=fun s us H2=>∀ us',us = y :: us' → s.1.length = us'.length → Q ((kV key,y) :: ((s.1.zip us').map fun kv=>(kV kv.1,kv.2))) H2) k1 fun s δ2 us A2 H2 e4 n2 j3 k3 us' eu hl=>?_) n1
      · exact Post.seq (ts:=[x]) (ws:=[y]) k2 (ZeS hr.pure rfl) j1.lb hb hj (fun a=>rfl) (fun a us H2 q hl=>q us rfl hl)
      · subst eu
        exact k3 (y :: us') A2 H2 n2 j3 (by simp [hl])
    · exact kk.elim
theorem Zev:∀ (kvs:List (Key × V)) (acc:List (Key × V)),((acc ++ kvs).map (·.1)).Nodup → mergeK acc kvs = acc ++ kvs
  | [],acc,_=>by simp [mergeK]
  | kv :: kvs,acc,h=>by
    have hn:valV acc kv.1 = none:=by
      cases hv:valV acc kv.1 with
      | none=>rfl
      | some v =>
        exfalso
        have h2:(acc.any fun x=>decide (x.1 = kv.1)) = true:=by rw [valV_any,hv]; rfl
        obtain ⟨x,hx,hx2⟩:=List.any_eq_true.mp h2
        have hx3:=of_decide_eq_true hx2
        rw [List.map_append,List.map_cons] at h
        have h3:=(List.nodup_append.mp h).2.2 x.1 (List.mem_map.mpr ⟨x,hx,rfl⟩) kv.1 (List.mem_cons_self)
        exact h3 hx3
    show mergeK (putK acc kv.1 kv.2) kvs = acc ++ kv :: kvs
    rw [putK_new _ hn]
    have h4:((acc ++ [(kv.1,kv.2)]) ++ kvs) = acc ++ kv :: kvs:=by simp
    rw [Zev kvs _ (by rw [h4]; exact h),h4]
def dDisp (ps:List (PP × DE)):DE:=fun δ=>(dPairs ps δ).bind fun s δ1=>if s.1.Nodup ∧ s.1.length ≤ 15 then .ok (.n (.dct s.1) .own s.2) δ1 else .bad
theorem ZkO {trs:List (TE × TE)} {ps:List (PP × DE)} (h:SPr cl xf W p trs ps):SE cl xf W p (tDisp trs) (dDisp ps):=by
  refine ⟨fun hp δ=>Out.same_bind (h.pure hp δ) fun s=>?_,fun A L B H δ σ Q j k p0 hp0=>?_⟩
  · split <;> first | rfl | trivial
  · obtain ⟨n1,j1⟩:=j.alloc (k:=.dct []) (o:=.dK []) hp0 ⟨rfl,rfl⟩
    obtain ⟨B',j2,hb,hj⟩:=j1.seq
    refine h.run _ L B' _ δ σ _ j2 ?_
    have k2:=Post.step (Post.bind (γ:=D) (den0:=fun (s:List Key × List D)=>.n (.dct []) .own [] :: s.2) (Q0:=fun s us H2=>∀ us',us = .ref p0 :: us' → s.1.length = us'.length → H2 p0 = some (.dK []) ∧ ∃ kvs:List (Key × V),((s.1.zip us').map fun kv=>(kV kv.1,kv.2)) = kvs.map (fun kv=>(kV kv.1,kv.2)) ∧ kvs.length ≤ 15 ∧ Q (.ref p0) (upd H2 p0 (.dK (mergeK [] kvs)))) k fun s δ2 us A2 H2 e4 n2 j3 k3 us' eu hl=>?_) n1
    · exact Post.seq (ts:=[.n (.dct []) .own []]) (ws:=[.ref p0]) k2 (ZeS h.pure rfl) j1.lb hb hj (fun a=>rfl) (fun a us H2 q hl=>q us rfl hl)
    · subst eu
      split at k3
      · rename_i hk
        have hH:H2 p0 = some (.dK []):=by
          obtain ⟨f,g,h1,_⟩:=j3.ex
          simp only [Rps,Rp] at h1
          obtain ⟨v0,vs',f1,f2,e,rfl,⟨a',o,us,e',ho,hs,_⟩,_⟩:=h1
          cases e
          cases e'
          obtain ⟨⟨_,hs⟩,_⟩:=hs.own
          rw [ho,hs]
          simp
        refine ⟨hH,s.1.zip us',rfl,?_,?_⟩
        · rw [List.length_zip,← hl,Nat.min_self]; exact hk.2
        · have hm:mergeK [] (s.1.zip us') = s.1.zip us':=by
            have:=Zev (s.1.zip us') [] (by
              rw [List.nil_append,List.map_fst_zip (by omega)]
              exact hk.1)
            simpa using this
          rw [hm]
          obtain ⟨n3,j4⟩:=j3.fill (k':=.dct s.1) (o':=.dK (s.1.zip us')) ⟨hl,rfl⟩
          exact k3 [.ref p0] A2 _ (n2.trans n3) j4 _ rfl
      · exact k3.elim
def dDict0:DE:=fun δ=>.ok (.n (.dct []) .own []) δ
theorem Zgd:Rd cl xf X W p (.Dict [] [] pos) dDict0:=⟨_,pe_dnewK,⟨fun _ δ=>rfl,fun A L B H δ σ Q j k p0 hp0=>by
  obtain ⟨n1,j1⟩:=j.alloc (k:=.dct []) (o:=.dK []) hp0 ⟨rfl,rfl⟩
  exact k [.ref p0] _ _ n1 j1 _ rfl⟩⟩
def Rpr (cl:Ec) (xf:Nat → List Str) (X:Cx) (W:WX) (p:Bool) (pos:Pos) (ks:List (Option Expr)) (vs:List Expr) (ps:List (PP × DE)):Prop:=∃ trs,PPs X pos ks vs trs ∧ SPr cl xf W p trs ps
theorem pr_nil:Rpr cl xf X W p pos [] [] []:=⟨_,pps_nil,ZkG⟩
theorem Zk4 {k v:Expr} {ks:List (Option Expr)} {es:List Expr} {kp:PP} {dv:DE} {ps:List (PP × DE)} (hk:Rk cl X k kp) (hv:Rd cl xf X W p v dv) (hr:Rpr cl xf X W p pos ks es ps):Rpr cl xf X W p pos (some k :: ks) (v :: es) ((kp,dv) :: ps):=by
  obtain ⟨ta,h1,h2⟩:=hk
  obtain ⟨tb,h3,h4⟩:=hv
  obtain ⟨trs,h5,h6⟩:=hr
  exact ⟨_,pps_cons h1 h3 h5,ZjW h2 h4 h6⟩
theorem d_disp {ks:List (Option Expr)} {es:List Expr} {ps:List (PP × DE)} (h:Rpr cl xf X W p pos ks es ps) (hall:ks.all (·.isSome) = true:=by rfl) (hl:ks.length = es.length:=by rfl) (h0:ks ≠ []:=by exact fun z=>by cases z) (h15:ks.length ≤ 15:=by decide):Rd cl xf X W p (.Dict ks es pos) (dDisp ps):=by
  obtain ⟨trs,h1,h2⟩:=h
  exact ⟨_,pe_disp h1 hall hl h0 h15,ZkO h2⟩
theorem ioOk {io:List Bool} {ws:Nat → Bool} (h:(List.range io.length).all (fun i=>!(io.getD i false) || !ws i) = true):∀ (i:Nat),io[i]? = some true → ws i = false:=fun i hi=>by
  have hl:i < io.length:=(List.getElem?_eq_some_iff.mp hi).1
  have h2:=List.all_eq_true.mp h i (List.mem_range.mpr hl)
  have h3:io.getD i false = true:=by rw [List.getD_eq_getElem?_getD,hi]; rfl
  rw [h3] at h2
  simpa using h2
end
end Fs
set_option maxHeartbeats 2000000
namespace Fs
open PySem PySem.Spec PyProof.Rows L2
section
variable {P:Program} {w:World} {K:PySem.W.Frag} {mg mb:Str → Option Value} {CX:CXT} {k:Nat} {fa a:Addr} {fd:FuncData} {x:Str} {sp:Sp} {s:Shared} {us:List Value} {ns:List Int}
theorem Zkn {H:Hp} (KX:K.In s.heap) (hns:s.heap.Ns mainGlobals mg) (hb:s.heap.Ns builtinsNs mb) (hbb:∀ y:Str,y ≠ "__name__" → mb y = bootBuiltins y) (hlim:s.heap.NoLimit) (hg:s.gens = #[])
    (at_a:s.heap.get? a = some { cls:=.type "list",data:=.seq us.toArray }) (room:RoomG k callerA) (F:∀ base:Heap,K.In base → base.Ns mainGlobals mg → FnG P w K mg base CX k fa fd [x] sp) (bnd:∀ (s:Shared) (u:Value),BindsTo s fd ⟨[u],[]⟩ [(x,u)])
    (only:Only H) (want:sp [.ref a] H (fun v _=>v = .bl true) fun _ _ _=>False) (ok:HOk P w H s.heap) (just:∀ c,H c ≠ none → c = a ∧ K.lookup a = none) (out:∀ G u t,CX [] G s (fun _ _ _=>False) u t → False) :
    codeAny (model P w) callerA (.call (.ref fa) ⟨[.ref a],[]⟩) (fun r t=>r = .ok (.ret (.bool true)) ∧ OldK s.heap t.heap ∧ t.os = s.os ∧ AllBare t.gens) s:=by
  have off:∀ {c:Addr} {u:Obj},s.heap.get? c = some u → H c = none → (hidT s.heap H).get? c = some u:=fun z n=>hidT_get z n
  have free:∀ {c:Addr} {u:Obj},s.heap.get? c = some u → (∀ its n,u.data ≠ .seq its n) → H c = none:=by
    intro c u z d
    by_cases q:H c = none
    · exact q
    · obtain ⟨rfl,_⟩:=just c q
      rw [at_a] at z
      cases z
      exact absurd rfl (d _ _)
  have names:∀ {c:Addr} {m:Str → Option Value},s.heap.Ns c m → (hidT s.heap H).Ns c m:=by
    rintro c m ⟨u,es,ep,z,d,r⟩
    exact ⟨u,es,ep,off z (free z fun its n q=>by rw [d] at q; cases q),d,r⟩
  have KB:K.In (hidT s.heap H):=fun c u z=>off (KX c u z) (by
    by_cases q:H c = none
    · exact q
    · obtain ⟨rfl,n⟩:=just c q
      rw [n] at z
      cases z)
  obtain ⟨mc,l1,l2⟩:=hlim
  have E0:Env0 P w K mg (hidT s.heap H) callerA [] s H:=⟨rfl,⟨KB,names hns,⟨mb,names hb,hbb⟩,⟨mc,names l1,l2⟩⟩,fun c u z=>of_hidT z,Nat.le_of_eq (hidT_size _ _),trivial,(fun c hc=>by have hc2:c ∈ ([]:List Addr):=hc; simp at hc2),ok,.of_eq hg⟩
  refine codeAny_mono ((F _ KB (names hns)).go callerA [] s H ⟨[.ref a],[]⟩ [.ref a] [.ref a] _ _ room E0 (bnd s (.ref a)) (.cons rfl .nil) want) fun r t got=>?_
  match r,got with
  | .error u,got=>exact (out H u t got).elim
  | .ok .next,got=>exact got.elim
  | .ok .brk,got=>exact got.elim
  | .ok .cont,got=>exact got.elim
  | .ok (.ret u),got =>
    obtain ⟨v,G,os,bare,un,ok2,rel,q⟩:=got
    cases (show v = .bl true from q)
    cases (show u = Value.bool true from rel)
    refine ⟨rfl,OldK.of_keep fun c o z=>?_,os,bare⟩
    rcases only c with n | ⟨ob,xs,n⟩
    · exact un.keep c o z n (fun y=>by have y2:c ∈ ([]:List Addr):=y; simp at y2) (by simp)
    · have z1:=(ok c _ n).1
      have z2:=(ok2 c _ (un.frzs c ob _ n)).1
      rw [z] at z1
      cases z1
      exact z2
theorem Zi6 (KX:K.In s.heap) (hns:s.heap.Ns mainGlobals mg) (hb:s.heap.Ns builtinsNs mb) (hbb:∀ y:Str,y ≠ "__name__" → mb y = bootBuiltins y) (hlim:s.heap.NoLimit) (hg:s.gens = #[])
    (at_a:s.heap.get? a = some { cls:=.type "list",data:=.seq us.toArray }) (hi:IntsAre us ns) (hl:ns.length ≤ sizeLine) (room:RoomG k callerA) (F:∀ base:Heap,K.In base → base.Ns mainGlobals mg → FnG P w K mg base CX k fa fd [x] sp) (bnd:∀ (s:Shared) (u:Value),BindsTo s fd ⟨[u],[]⟩ [(x,u)])
    (hsp:∀ H:Hp,Only H → SqL K H a (ns.map V.int) → sp [.ref a] H (fun v _=>v = .bl true) fun _ _ _=>False) (out:∀ G u t,CX [] G s (fun _ _ _=>False) u t → False) :
    codeAny (model P w) callerA (.call (.ref fa) ⟨[.ref a],[]⟩) (fun r t=>r = .ok (.ret (.bool true)) ∧ OldK s.heap t.heap ∧ t.os = s.os ∧ AllBare t.gens) s:=by
  have rel:=vals_ints hi
  have n:=hi.length
  have core:=fun {H:Hp}=>Zkn (H:=H) KX hns hb hbb hlim hg at_a room F bnd
  cases hk:K.lookup a with
  | some o =>
    have z:=KX a o hk
    rw [at_a] at z
    cases z
    have only:Only (fun _=>none):=fun _=>.inl rfl
    exact core only (hsp _ only (.inr ⟨_,us.toArray,_,hk,rfl,rfl,rfl,by rw [List.size_toArray,n]; exact hl,by simpa using rel⟩)) (fun c u z=>by cases z) (fun c z=>absurd rfl z) out
  | none =>
    let H:Hp:=fun c=>if c = a then some (.frz { cls:=.type "list",data:=.seq us.toArray } (.lst (ns.map V.int))) else none
    have h1:H a = some (.frz { cls:=.type "list",data:=.seq us.toArray } (.lst (ns.map V.int))):=if_pos rfl
    have h2:∀ c,c ≠ a → H c = none:=fun c z=>if_neg z
    have only:Only H:=fun c=>by
      by_cases z:c = a
      · subst z; exact .inr ⟨_,_,h1⟩
      · exact .inl (h2 c z)
    refine core only (hsp H only (.inl (.inr ⟨_,h1⟩))) (fun c u z=>?_) (fun c z=>?_) out
    · by_cases y:c = a
      · subst y
        rw [h1] at z
        cases z
        exact ⟨at_a,by rw [List.length_map]; exact hl,us,_,rel,at_a⟩
      · rw [h2 c y] at z; cases z
    · by_cases y:c = a
      · exact ⟨y,hk⟩
      · exact absurd (h2 c y) z
end
theorem walk_G {l:PySem.W.OpenLaw} {n k:Nat} {q:Program} {loose:List Str} {XP:(Str → Option Value) → Heap → Prop} {YP:World → Heap → Prop} {d:DefRec} {CX:World → CXT} {x:Str} (hn:l.most = some n) (hn2:n ≤ sizeLine) (hdf:d.params.defaults = []) (hr:RoomG k callerA)
    (F:∀ (w:World) (mg:Str → Option Value) (fa:Addr) (h:Heap),YP w h → h.Ns mainGlobals mg → mg d.name = some (.ref fa) → ∃ (K:PySem.W.Frag) (fd:FuncData) (sp:Sp),K.In h ∧ (∀ (s:Shared) (u:Value),BindsTo s fd ⟨[u],[]⟩ [(x,u)]) ∧
        (∀ (H:Hp) (a:Addr) (ns:List Int),ns.length ≤ n → Only H → SqL K H a (ns.map V.int) → sp [.ref a] H (fun v _=>v = .bl true) fun _ _ _=>False) ∧ ∀ base:Heap,K.In base → base.Ns mainGlobals mg → FnG l.prog w K mg base (CX w) k fa fd [x] sp)
    (hCX:∀ (w:World) (H:Hp) (s:Shared) (e:Value) (s':Shared),CX w [] H s (fun _ _ _=>False) e s' → False):PySem.W.WalkO q loose XP YP l.row.toRowW d [] (fun f vs=>PySem.call f vs):=by
  refine Att.attach_call hn hdf fun w s₀ s₁ mg mb fa o pm cd doc a vs ns G Y ho hd hcd hmg hobj hints hlen hg=>?_
  obtain ⟨K,fd,sp,KX,hb,hsp,hF⟩:=F w mg fa _ Y G.T.g hmg
  exact Zi6 KX G.T.g G.T.b G.T.builtins G.T.nolimit hg hobj hints (Nat.le_trans hlen hn2) hr hF hb (fun H hO hS=>hsp H a ns hlen hO hS) fun H e s'=>hCX w H s₁ e s'
end Fs
namespace Fs
open PySem PySem.Spec PyProof.Rows L2
end Fs
namespace Lw
open PySem PySem.Spec PyProof.Rows L2 Fs
end Lw
set_option maxHeartbeats 2000000
namespace Fs
open PySem PySem.Spec PyProof.Rows L2
structure BaseI (K:PySem.W.Frag) (C:Addr):Prop where
  ga:PySem.W.specialIn K (.ref C) "__getattribute__" = some (some (.builtin "type.__getattribute__"))
  ty:PySem.W.typeIn K (.ref C) = some (.type "type")
  rd:PySem.W.readsIn K C (.type "type") = true
  fi:PySem.W.findCls K (.ref C) (.type "type") "__init__" = some (.val (.builtin "ValueError.__init__"))
section
variable {X:Cx} {e:Expr} {es:List Expr} {ta:TA} {CB:Addr} {x:Str} {p1 p2 pos:Pos}
theorem ZfU {pl:Sem Bool} (B:BaseI X.K CB) (hg:Gl X x) (hm:X.mg x = some (.ref CB)) (ha:L2.PA X (e :: es) ta)
    (hc:eval (.Call (.Attribute (.Name x p1) "__init__" p2) (e :: es) [] pos) X.env = (do
      let b ← eval (.Name x p1) X.env
      standAt p2.atName
      let (g,one) ← holding [b] (getMethod b "__init__" pl)
      callWith pos g one (backTo pos (starEach (e :: es) X.env)) (backToKw pos (keywordEach [] X.env))):=by rfl)
    (he:starEach (e :: es) X.env = (false,eval e X.env) :: starEach es X.env:=by rfl) (hpl:(backTo pos (starEach es X.env)).any (·.1) = false:=by rfl) (hd:(x == ("__debug__":Str)) = false:=by decide) :
    PE X (.Call (.Attribute (.Name x p1) "__init__" p2) (e :: es) [] pos) (tVeI X.K ta):=⟨fun pins s σ H Q I h=>by
  refine PySem.W.methodCall_KW (ld_glob I hg hm ?_ hd) hc
  obtain ⟨m,fr⟩:=I.fr
  refine PySem.W.method_of_cls fr I.ok.mod.kin B.ga (PySem.W.cls_val fr I.ok.mod.kin B.ty B.rd B.fi (by decide +kernel) ?_)
  show wpAny _ _ (callWith pos (Value.builtin "ValueError.__init__") [] (backTo pos (starEach (e :: es) X.env)) []) _ _ _
  refine PyProof.Rows.callWith_method1 (thn (ha.run pos pins _ σ H _ (I.tok _) h) fun vals s1 hv=>?_) he hpl
  obtain ⟨vs,H1,I1,rel,a,C,ws,rfl,hw,T,at1,fin⟩:=hv
  cases rel with
  | @cons _ u0 _ ur ra rest =>
    cases (show u0 = Value.ref a from ra)
    have hz:ur.length ≤ sizeLine:=by rw [sizeLine_eq]; have:=Paired.length rest; omega
    exact oinit_ok T I1 at1 hz fun s2 J=>⟨.non,H1,J,rfl,fin⟩⟩
end
def spIni (K:PySem.W.Frag) (fs:List Str):Sp:=fun vs H Q _=>∃ (a C:Addr) (ws:List V),vs = .ref a :: ws ∧ ws.length = fs.length ∧ OexC K C ∧ (∀ f ∈ fs,PySem.W.findIn K (.ref C) f = some none) ∧ H a = some (exo a C none) ∧
  ∀ dx H',H dx = none → dx ≠ a → H' a = some (exo a C (some dx)) → H' dx = some (exd dx (fs.zip ws).reverse) → (∀ b,b ≠ a → b ≠ dx → H' b = H b) → Q .non H'
abbrev tIni0 (K:PySem.W.Frag) (m:Str):TS:=tDrop (tVeI K (tCons (tVar 0) (tCons (tC (.str m)) tNil)))
theorem Zly {K:PySem.W.Frag} {m f:Str} {D:Ends} {σ:L2.St} {H:Hp} {a C:Addr} {y:V} (h0:σ[0]? = some (some (.ref a))) (h1:σ[1]? = some (some y)) (T:OexC K C) (hf:PySem.W.findIn K (.ref C) f = some none) (ha:H a = some (exo a C none))
    (k:∀ dx H',H dx = none → dx ≠ a → H' a = some (exo a C (some dx)) → H' dx = some (exd dx [(f,y)]) → (∀ b,b ≠ a → b ≠ dx → H' b = H b) → D.nx σ H'):tSeq (tIni0 K m) (tOst K f (tVar 0) (tVar 1)) D σ H:=by
  refine ⟨_,h0,?_⟩
  refine ⟨a,C,[.str m],rfl,by simp,T,ha,y,h1,_,h0,a,C,rfl,T,hf,.inl ⟨ha,fun dx n ne=>k dx _ n ne upd_same ?_ fun b hb hd=>?_⟩⟩
  · rw [upd_ne ne,upd_same]
  · rw [upd_ne hb,upd_ne hd]
theorem Zlx {K:PySem.W.Frag} {m f g:Str} {D:Ends} {σ:L2.St} {H:Hp} {a C:Addr} {y z:V} (h0:σ[0]? = some (some (.ref a))) (h1:σ[1]? = some (some y)) (h2:σ[2]? = some (some z)) (T:OexC K C) (hf:PySem.W.findIn K (.ref C) f = some none) (hg:PySem.W.findIn K (.ref C) g = some none) (ha:H a = some (exo a C none))
    (k:∀ dx H',H dx = none → dx ≠ a → H' a = some (exo a C (some dx)) → H' dx = some (exd dx [(g,z),(f,y)]) → (∀ b,b ≠ a → b ≠ dx → H' b = H b) → D.nx σ H'):tSeq (tIni0 K m) (tSeq (tOst K f (tVar 0) (tVar 1)) (tOst K g (tVar 0) (tVar 2))) D σ H:=by
  refine ⟨_,h0,?_⟩
  refine ⟨a,C,[.str m],rfl,by simp,T,ha,y,h1,_,h0,a,C,rfl,T,hf,.inl ⟨ha,fun dx n ne=>⟨z,h2,_,h0,a,C,rfl,T,hg,.inr ⟨dx,[(f,y)],upd_same,by rw [upd_ne ne,upd_same],by simp,k dx _ n ne ?_ upd_same fun b hb hd=>?_⟩⟩⟩⟩
  · rw [upd_ne ne.symm,upd_same]
  · rw [upd_ne hd,upd_ne hb,upd_ne hd]
section
variable {P:Program} {w:World} {K:PySem.W.Frag} {mg:Str → Option Value} {base:Heap} {x qual:Str} {params:Arguments} {body:List Stmt} {scope:Scope} {dvs:List V} {kws:List (Str × V)} {f:Addr} {fd:FuncData} {N:List Str} {k:Nat} {m g1 g2:Str}
theorem ZlG (Fd:FunD K x qual params body scope dvs kws f fd) (S:FnScope N N scope) (hN:N.length = 2)
    (hb:∀ (cdv:Value) (A:Around) (outer:List Env) (s:Shared) (H:Hp) (E:XK),PSs (cxOf (L2.CX P w) P w K mg base N qual scope f cdv A outer s H E) body (tSeq (tIni0 K m) (tOst K g1 (tVar 0) (tVar 1)))):FnOk P w K mg base (L2.CX P w) (k + 1) f fd N (spIni K [g1]):=by
  refine Fd.ok S (fun vs H Q E h=>?_) (fun cdv A outer s H vs Q E hr h=>⟨_,hb cdv A outer s H E,?_⟩)
  · obtain ⟨a,C,ws,rfl,hl,_⟩:=h
    simp at hl ⊢
    omega
  · obtain ⟨a,C,ws,rfl,hl,T,hf,ha,kk⟩:=h
    match ws,hl with
    | [y],_ =>
      refine Zly (y:=y) rfl rfl T (hf _ List.mem_cons_self) ha fun dx H' n ne e1 e2 e3=>?_
      exact kk dx H' n ne e1 (by simpa using e2) e3
theorem Zjo (Fd:FunD K x qual params body scope dvs kws f fd) (S:FnScope N N scope) (hN:N.length = 3)
    (hb:∀ (cdv:Value) (A:Around) (outer:List Env) (s:Shared) (H:Hp) (E:XK),PSs (cxOf (L2.CX P w) P w K mg base N qual scope f cdv A outer s H E) body (tSeq (tIni0 K m) (tSeq (tOst K g1 (tVar 0) (tVar 1)) (tOst K g2 (tVar 0) (tVar 2))))):FnOk P w K mg base (L2.CX P w) (k + 1) f fd N (spIni K [g1,g2]):=by
  refine Fd.ok S (fun vs H Q E h=>?_) (fun cdv A outer s H vs Q E hr h=>⟨_,hb cdv A outer s H E,?_⟩)
  · obtain ⟨a,C,ws,rfl,hl,_⟩:=h
    simp at hl ⊢
    omega
  · obtain ⟨a,C,ws,rfl,hl,T,hf,ha,kk⟩:=h
    match ws,hl with
    | [y,z],_ =>
      refine Zlx (y:=y) (z:=z) rfl rfl rfl T (hf _ List.mem_cons_self) (hf _ (List.mem_cons_of_mem _ List.mem_cons_self)) ha fun dx H' n ne e1 e2 e3=>?_
      exact kk dx H' n ne e1 (by simpa using e2) e3
end
section
variable {cl:Ec} {xf:Nat → List Str} {W:WX} {ws:Nat → Bool} {A A' L B:Addr → Prop} {H H':Hp} {δ δ':Sl} {σ σ':L2.St} {p:Bool} {tA:TA}
theorem Jt.grow {ts:List D} {vs:List V} {p0:Addr} {o:HO} (j:Jt p cl A L B H ts vs δ σ) (hp:H p0 = none):Nx A B H A (upd H p0 o) ∧ Jt p cl A L B (upd H p0 o) ts vs δ σ:=by
  have ne:∀ a,A a → a ≠ p0:=fun a ha z=>j.ad a ha (by rw [z]; exact hp)
  have n:Nx A B H A (upd H p0 o):=⟨fun a h=>.inl h,fun a u h _ _=>by rw [upd_ne (fun z=>by rw [z,hp] at h; cases h)]; exact h,fun a h=>⟨upd_ne (ne a (j.ba a h)),j.ba a h⟩,fun a h=>by
    by_cases z:a = p0
    · rw [z]; exact hp
    · rw [upd_ne z] at h; exact h⟩
  obtain ⟨f,g,h1,h2,h3,h4,h5⟩:=j.ex
  refine ⟨n,⟨f,g,h1.step n.both (fun a ha=>⟨upd_ne (ne a (h1.inA a ha).1),(h1.inA a ha).1⟩) (by simp),h2.step n.both (fun a ha=>⟨upd_ne (ne a (h2.inA a ha).1),(h2.inA a ha).1⟩) (fun a h=>⟨upd_ne (ne a (j.ba a (j.lb a h))),h⟩),h3,h4,h5⟩,j.lb,j.ba,fun a ha=>by rw [upd_ne (ne a ha)]; exact j.ad a ha,j.tb.grow (Ex.new hp) fun a h=>.inl h⟩
theorem Zgz:∀ {l:List (Str × V)} {n:Str} {v:V},(l.map (·.1)).Nodup → (n,v) ∈ l → l.lookup n = some v
  | [],n,v,_,h=>by cases h
  | (m,u) :: l,n,v,nd,h=>by
    simp only [List.map_cons,List.nodup_cons] at nd
    rcases List.mem_cons.mp h with e | h
    · cases e; simp [List.lookup]
    · have ne:n ≠ m:=fun z=>nd.1 (List.mem_map.mpr ⟨(n,v),h,z⟩)
      have hb:(n == m) = false:=by simpa using ne
      simp only [List.lookup,hb]
      exact Zgz nd.2 h
def ZbP (c n:Nat) (da:DA):DS:=fun δ=>(da δ).bind fun xs δ1=>if xs.length = n then .exc c xs δ1 else .bad
theorem ZjS {c n:Nat} {da:DA} (ha:SA cl xf W false tA da) (T:OexC cl.K (cl.c c)) (hf:∀ f ∈ xf c,PySem.W.findIn cl.K (.ref (cl.c c)) f = some none) (hn:(xf c).length = n) (hn2:n ≤ 1000) (nd:(xf c).Nodup) :
    SS cl xf W ws (fun _ σ H=>tMkO (cl.c c) (spIni cl.K (xf c)) [] tA σ H fun k d H'=>W k d σ H') (ZbP c n da):=fun A L B H δ σ E j k=>by
  refine ha.run A L B H δ σ _ j ?_
  unfold ZbP at k
  refine PostS.bind (den0:=id) k fun xs δ1 vs A1 H1 e n1 j1 k1=>?_
  split at k1
  · rename_i hl
    have hv:vs.length = xs.length:=by
      obtain ⟨f,g,h1,_⟩:=j1.ex
      exact h1.length.symm
    refine ⟨by omega,fun a ha=>⟨a,cl.c c,vs ++ [],rfl,by simp; omega,T,hf,upd_same,fun dx H' hd ne e1 e2 e3=>⟨rfl,dx,_,e1,e2,?_,?_⟩⟩⟩
    · rw [upd_ne ne] at hd; exact hd
    · have hd1:H1 dx = none:=by rw [upd_ne ne] at hd; exact hd
      have eH:upd (del H' a) dx (.xd ((xf c).zip (vs ++ [])).reverse) = upd H1 dx (.xd ((xf c).zip (vs ++ [])).reverse):=by
        funext b
        by_cases hb:b = dx
        · rw [hb,upd_same,upd_same]
        · rw [upd_ne hb,upd_ne hb]
          by_cases hb2:b = a
          · rw [hb2,del_same,ha]
          · rw [del_ne hb2,e3 b hb2 hb,upd_ne hb2]
      rw [eH]
      obtain ⟨n2,j2⟩:=j1.grow (o:=.xd ((xf c).zip (vs ++ [])).reverse) hd1
      refine k1 (some dx) vs A1 _ σ (n1.trans n2) (Kp.refl σ) (.inr ⟨dx,_,rfl,upd_same,fun z=>j1.ad dx z hd1,by omega,fun i nm v q1 q2=>?_⟩) j2
      rw [List.append_nil]
      refine Zgz ?_ ?_
      · rw [List.map_reverse,(List.reverse_perm _).nodup_iff,List.map_fst_zip (by omega)]
        exact nd
      · rw [List.mem_reverse]
        refine List.mem_of_getElem? (i:=i) ?_
        rw [List.getElem?_zip_eq_some]
        exact ⟨q1,q2⟩
  · exact k1.elim
end
end Fs
set_option maxHeartbeats 2000000
namespace Fs
open PySem PySem.Spec PyProof.Rows L2
structure Cl where
  c:Value
  i:Option Nat
  ts:Addr → Value → Option Addr → TS
def Cl.fin (q:Cl) (D:Ends):Ends:=match q.i with
  | none=>D
  | some i=>{ nx:=fun τ G=>D.nx (τ.set i none) G,rt:=D.rt,bk:=fun τ G=>D.bk (τ.set i none) G,ct:=fun τ G=>D.ct (τ.set i none) G }
def Cl.put (q:Cl) (σ:L2.St) (a:Addr):L2.St:=match q.i with
  | none=>σ
  | some i=>σ.set i (some (.ref a))
def wCl (K:PySem.W.Frag) (Wout:WX) (D:Ends):List Cl → WX
  | []=>Wout
  | q :: r=>fun cls d σ H=>∃ b,PySem.W.exmOne K cls q.c = some b ∧ (b = true → ∀ a,H a = none → q.ts a cls d (q.fin D) (q.put σ a) H) ∧ (b = false → wCl K Wout D r cls d σ H)
def Blk (X:Cx) (st:List Stmt) (ts:Addr → Value → Option Addr → TS):Prop:=∀ (a:Addr) (oe:Obj) (cls:Value) (d:Option Addr) (pn:List (Addr × Obj)),Zc cls d oe → (∃ vs,oe.data = .fields vs) → PSs (X.suite a ((a,oe) :: pn)) st (ts a cls d)
inductive ClOk (X:Cx):List ExceptHandler → List Cl → Prop
  | nil:ClOk X [] []
  | bare {x:Str} {c:Value} {ts:Addr → Value → Option Addr → TS} {st:Stmt} {sts:List Stmt} {np q:Pos} {hds:List ExceptHandler} {l:List Cl} (nm:Names X x c) (bl:Blk X (st :: sts) ts) (r:ClOk X hds l):ClOk X (.ExceptHandler (some (.Name x np)) none (st :: sts) q :: hds) (⟨c,none,ts⟩ :: l)
  | named {x n:Str} {c:Value} {i:Nat} {ts:Addr → Value → Option Addr → TS} {st:Stmt} {sts:List Stmt} {np q:Pos} {hds:List ExceptHandler} {l:List Cl} (nm:Names X x c) (hi:X.N[i]? = some n) (hl:X.env.kindOf n = some .local) (bl:Blk X (st :: sts) ts) (r:ClOk X hds l) :
      ClOk X (.ExceptHandler (some (.Name x np)) (some n) (st :: sts) q :: hds) (⟨c,some i,ts⟩ :: l)
section
variable {X:Cx} {body:List Stmt} {h0:ExceptHandler} {hds:List ExceptHandler} {l:List Cl} {pos:Pos} {tb:WX → TS} {Wout:WX}
theorem ZiH (hs:X.stack = X.env :: X.outer) (hf:X.env.frame = some X.env.locals) (hN:X.N.Nodup) (tk:Takes X Wout)
    (hb:∀ (W:WX) (pn:List (Addr × Obj)) (xe:Value → Shared → Prop),Takes (X.tr pn xe) W → PassesOwn (model X.prog X.w) X.A X.env xe → PSs (X.tr pn xe) body (tb W)) (hh:ClOk X (h0 :: hds) l) :
    PS X (.Try body (h0 :: hds) [] [] pos) (fun D σ H=>tb (wCl X.K Wout D l) D σ H):=⟨fun pins s σ H D I h=>by
  have fr:X.A.frames = some (X.env :: X.outer):=by rw [I.ok.frames,hs]
  refine wpAny_Try_except (wpAny_mono ((hb (wCl X.K Wout D l) (X.pn ++ pins) (fun u t1=>wpAny (model X.prog X.w) X.A (noteFrame u X.env) (fun _ t2=>wpAny (model X.prog X.w) X.A (setFlight u none) (fun _ t3=>wpAny (model X.prog X.w) X.A (handleBy u X.env (h0 :: hds)) (L2.SP X pins D) X.xe t3) X.xe t2) X.xe t1) (fun u t1 caught=>?_) PassesOwn.looking).run [] s σ H D (I.toTry _) h) (fun fl t1 out=>?_) (fun _ _ z=>z))
  · obtain ⟨a,G,tI,_,σ1,H1,cls,d,rfl,K0,nb,up,sky,na,os,ag,want⟩:=caught
    have J:=K0.ofTry I.ok
    refine Sky.land Zc.steady fr hf (by rw [← hs]; exact sky) fun g1 fly up1=>?_
    have J1:Inv X pins σ1 H1 { t1 with heap:=g1 }:=J.landed nb fly.1 (up.trans up1) os ag
    obtain ⟨oe,vs,at1,hz,hd⟩:=fly.there
    have out1:a ∉ frs (X.env :: X.outer):=fun m=>by
      obtain ⟨_,o',e',no⟩:=fly.2.2.1.mem m
      rw [at1] at e'
      cases e'
      exact no _ hd
    have nL:a ≠ X.env.locals:=fun z=>out1 (List.mem_filterMap.mpr ⟨X.env,List.mem_cons_self,by rw [hf,z]⟩)
    have nF:a ∉ X.fs:=fun m=>by
      obtain ⟨v,hv,q⟩:=List.mem_filterMap.mp m
      exact out1 (List.mem_filterMap.mpr ⟨v,List.mem_cons_of_mem _ hv,q⟩)
    have S1:=J1.suite at1 hd na nL nF
    have ty:PySem.W.Looks (model X.prog X.w) g1 (typeOf (.ref a)) cls:=fun _ _ _ _ k q=>wpAny_typeOf_ref (k _ _ at1) (by rw [hz.1]; exact q)
    have named:∀ {x:Str} {c:Value} {np:Pos} {Q:Value → Shared → Prop} {E:Value → Shared → Prop},Names X x c → Q c { t1 with heap:=g1 } → wpAny (model X.prog X.w) (X.A.mark (some (.ref a))) (eval (.Name x np) X.env) Q E { t1 with heap:=g1 }:=fun nm q=>by
      obtain ⟨n1,n2,n3 | ⟨n3,n4,n5⟩⟩:=nm
      · exact ld_glob (X:=X.suite a ((a,oe) :: (X.pn ++ pins))) S1 n1 n3 q n2
      · exact ld_blt (X:=X.suite a ((a,oe) :: (X.pn ++ pins))) S1 n1 n3 n4 q n5 n2
    have walk:∀ {hs':List ExceptHandler} {l':List Cl},ClOk X hs' l' → wCl X.K Wout D l' cls d σ1 H1 → wpAny (model X.prog X.w) X.A (handleBy (.ref a) X.env hs') (L2.SP X pins D) X.xe { t1 with heap:=g1 }:=by
      intro hs' l' ok
      induction ok with
      | nil =>
        intro want
        refine wpAny_handleBy_nil ?_
        obtain ⟨_,_,_,oe',vs',T,_,_,at',_,hd',one,_⟩:=id fly
        unfold PySem.passOn
        refine wpAny_bind (wpAny_field at' hd' one ?_)
        rw [if_neg (fun z=>by simp at z)]
        have last:wpAny (model X.prog X.w) X.A (setFlight (.ref a) X.env.frame) (fun _ t4=>wpAny (model X.prog X.w) X.A (throw (.ref a):Sem PySem.Flow) (L2.SP X pins D) X.xe t4) X.xe { t1 with heap:=g1 }:=by
          rw [hf]
          refine HandSPX.setFlight_upZ fly fun g2 held up2=>wpAny_throw (tk _ _ ⟨a,G,tI,pins,σ1,H1,cls,d,rfl,J,nb,(up.trans up1).trans up2,.inr (.inr ?_),na,os,ag,want⟩)
          rw [hs]
          exact held
        first | exact wpAny_bind (wpAny_pure (wpAny_bind last)) | exact wpAny_bind last
      | @bare x c ts st sts np q hds2 l2 nm bl r ih =>
        intro want
        obtain ⟨b,is,yes,no⟩:=want
        refine wpAny_handleBy_cons (codeAny_handlers_test (named nm ((PySem.W.exm_one (M:=model X.prog X.w) J1.kIn ty is).here ?_))) (fun z=>by cases z)
        cases b with
        | false=>exact ih (no rfl)
        | true =>
          refine codeAny_handlers_suite (HandSPX.lands_againZ fly fun g2 fly2 up2=>?_)
          have J2:Inv X pins σ1 H1 { t1 with heap:=g2 }:=J.landed nb fly2.1 ((up.trans up1).trans up2) os ag
          obtain ⟨oe2,vs2,at2,hz2,hd2⟩:=fly2.there
          refine wpAny_mono ((bl a oe2 cls d (X.pn ++ pins) hz2 ⟨_,hd2⟩).run [] _ _ H1 _ (J2.suite at2 hd2 na nL nF) (yes rfl a na)) (fun fl t6 o6=>?_) (fun _ _ z=>False.elim z)
          cases fl with
          | next=>obtain ⟨τ,G6,S6,q6⟩:=o6; exact ⟨_,_,S6.unsuite I.ok,q6⟩
          | brk=>obtain ⟨τ,G6,S6,q6⟩:=o6; exact ⟨_,_,S6.unsuite I.ok,q6⟩
          | cont=>obtain ⟨τ,G6,S6,q6⟩:=o6; exact ⟨_,_,S6.unsuite I.ok,q6⟩
          | ret u=>obtain ⟨v6,τ,G6,S6,r6,q6⟩:=o6; exact ⟨_,_,_,S6.unsuite I.ok,r6,q6⟩
      | @named x n c i ts st sts np q hds2 l2 nm hi hl bl r ih =>
        intro want
        obtain ⟨b,is,yes,no⟩:=want
        refine wpAny_handleBy_cons (codeAny_handlers_test (named nm ((PySem.W.exm_one (M:=model X.prog X.w) J1.kIn ty is).here ?_))) (fun z=>by cases z)
        cases b with
        | false=>exact ih (no rfl)
        | true =>
          refine codeAny_handlers_suite_as (HandSPX.lands_againZ fly fun g2 fly2 up2=>?_)
          have J2:Inv X pins σ1 H1 { t1 with heap:=g2 }:=J.landed nb fly2.1 ((up.trans up1).trans up2) os ag
          obtain ⟨oe2,vs2,at2,hz2,hd2⟩:=fly2.there
          refine store_ok (X:=X.suite a ((a,oe2) :: (X.pn ++ pins))) (v:=.ref a) (J2.suite at2 hd2 na nL nF) hN hi (.inl hl) rfl (fun t5 S5=>?_) (.inr hl)
          refine wpAny_mono ((bl a oe2 cls d (X.pn ++ pins) hz2 ⟨_,hd2⟩).run [] t5 _ H1 _ S5 (yes rfl a na)) (fun fl t6 o6=>?_) (fun _ _ z=>False.elim z)
          cases fl with
          | next=>obtain ⟨τ,G6,S6,q6⟩:=o6; exact gone_ok (S6.unsuite I.ok) hN hi hl fun t7 J7=>⟨_,_,J7,q6⟩
          | brk=>obtain ⟨τ,G6,S6,q6⟩:=o6; exact gone_ok (S6.unsuite I.ok) hN hi hl fun t7 J7=>⟨_,_,J7,q6⟩
          | cont=>obtain ⟨τ,G6,S6,q6⟩:=o6; exact gone_ok (S6.unsuite I.ok) hN hi hl fun t7 J7=>⟨_,_,J7,q6⟩
          | ret u=>obtain ⟨v6,τ,G6,S6,r6,q6⟩:=o6; exact gone_ok (S6.unsuite I.ok) hN hi hl fun t7 J7=>⟨_,_,_,J7,r6,q6⟩
    exact walk hh want
  · cases fl with
    | next=>obtain ⟨τ,G,J,q⟩:=out; exact wpAny_execs_nil ⟨τ,G,J.ofTry I.ok,q⟩
    | brk=>obtain ⟨τ,G,J,q⟩:=out; exact ⟨τ,G,J.ofTry I.ok,q⟩
    | cont=>obtain ⟨τ,G,J,q⟩:=out; exact ⟨τ,G,J.ofTry I.ok,q⟩
    | ret u=>obtain ⟨v,τ,G,J,r,q⟩:=out; exact ⟨v,τ,G,J.ofTry I.ok,r,q⟩⟩
end
end Fs
set_option maxHeartbeats 2000000
namespace Fs
open PySem PySem.Spec PyProof.Rows L2
structure Hld (cl:Ec) (xf:Nat → List Str) (i:Option Nat) (a:Addr) (d:Option Addr) (c:Nat) (xs:List D) (vs:List V) (A L:Addr → Prop) (H:Hp) (σ:L2.St):Prop where
  sl:∀ k,i = some k → σ[k]? = some (some (.ref a))
  xa:XAt xf A H c vs d
  rp:Rps cl A L H false xs vs []
section
variable {cl:Ec} {xf:Nat → List Str} {ws:Nat → Bool} {A A' L B:Addr → Prop} {H H':Hp} {δ δ':Sl} {σ σ':L2.St} {i:Option Nat} {a:Addr} {d:Option Addr} {c:Nat} {xs:List D} {vs:List V} {te ta tb:TE} {tA:TA} {tt tu:TT} {t u:TS}
def HP (cl:Ec) (P:(Addr → Prop) → (Addr → Prop) → Hp → L2.St → Prop) (te:TE) (f:PP):Prop:=∀ A L H δ σ g d Q,Rpo cl A L H δ σ g → P A L H σ → f δ = some d → (∀ v fp,Rp cl A L H true d v fp → (∀ a ∈ fp,a ∈ g) → Q v H) → te σ H Q
def HL (cl:Ec) (P:(Addr → Prop) → (Addr → Prop) → Hp → L2.St → Prop) (ta:TA) (f:Sl → Option (List D)):Prop:=∀ A L H δ σ g ds R,Rpo cl A L H δ σ g → P A L H σ → f δ = some ds → (∀ us,Rps cl A L H false ds us [] → R us H) → ta σ H R
def HE (cl:Ec) (xf:Nat → List Str) (P:(Addr → Prop) → (Addr → Prop) → Hp → L2.St → Prop) (te:TE) (de:DE):Prop:=∀ A L B H δ σ Q,Jt false cl A L B H [] [] δ σ → P A L H σ → PostE cl xf W0 false (de δ) A L B H σ Q → te σ H Q
def HS (cl:Ec) (xf:Nat → List Str) (ws:Nat → Bool) (P:(Addr → Prop) → (Addr → Prop) → Hp → L2.St → Prop) (t:TS) (ds:DS):Prop:=∀ A L B H δ σ E,Jt false cl A L B H [] [] δ σ → P A L H σ → PostS cl xf W0 ws (ds δ) A L B H σ E → t E σ H
variable {P:(Addr → Prop) → (Addr → Prop) → Hp → L2.St → Prop}
theorem hp_of {f:PP} (h:SP cl te f):HP cl P te f:=fun A L H δ σ g d Q r _ e k=>h A L H δ σ g d Q r e k
theorem hp_fld {k n:Nat} {f:Str} (hi:i = some k) (hf:(xf c)[n]? = some f):HP cl (Hld cl xf i a d c xs vs) (tXf a (.ref (cl.c c)) d (cl.c c) f (tVar k)) (fun _=>xs[n]?):=fun A L H δ σ g z Q r hp e kk=>by
  obtain ⟨v,f1,g1,g2,g3⟩:=hp.rp.get e
  refine ⟨_,hp.sl k hi,rfl,rfl,?_⟩
  rcases hp.xa with ⟨q,_⟩ | ⟨dd,fs,e1,e2,_,_,e4⟩
  · rw [q] at hf; cases hf
  · exact ⟨dd,fs,v,e1,e2,e4 n f v hf g1,kk v f1 g2.weak fun b hb=>by have:=g3 b hb; cases this⟩
theorem hl_nil:HL cl P tNil (fun _=>some []):=fun A L H δ σ g ds R r hp e k=>by cases e; exact k [] (by simp [Rps])
def lCons (pa:PP) (r:Sl → Option (List D)):Sl → Option (List D):=fun δ=>((pa δ).filter D.kept).bind fun x=>(r δ).map fun xs=>x :: xs
theorem ZlA {pa:PP} {rs:Sl → Option (List D)} (ha:HP cl P ta pa) (hr:HL cl P tA rs):HL cl P (tCons ta tA) (lCons pa rs):=fun A L H δ σ g ds R r hp e k=>by
  obtain ⟨x,e1,e2⟩:=Option.bind_eq_some_iff.mp e
  obtain ⟨xs,e3,rfl⟩:=Option.map_eq_some_iff.mp e2
  obtain ⟨e4,e5⟩:=Option.filter_eq_some_iff.mp e1
  refine ha A L H δ σ g x _ r hp e4 fun v fp h1 _=>hr A L H δ σ g xs _ r hp e3 fun us h2=>k (v :: us) ?_
  obtain ⟨h3,rfl⟩:=h1.strong e5
  simp only [Rps]
  exact ⟨v,us,[],[],rfl,rfl,h3,h2⟩
def dL (f:Sl → Option (List D)):DA:=fun δ=>Out.ofO (f δ) δ
theorem he_f {rs:Sl → Option (List D)} {R:List V → Hp → VK → Prop} {F:List D → Option D} (ho:FOp cl R F) (hr:HL cl P tA rs):HE cl xf P (tF R tA) (dF F (dL rs)):=fun A L B H δ σ Q j hp k=>by
  unfold dF dL at k
  cases e:rs δ with
  | none=>rw [e] at k; exact k.elim
  | some ds =>
    rw [e] at k
    obtain ⟨z,e2,k2⟩:=Post.ofO (show Post cl xf W0 false (Out.ofO (F ds) δ) d1s A L B H σ _ from k)
    obtain ⟨g,r,nd,hb⟩:=j.drop0
    refine hr A L H δ σ g ds _ r hp e fun us h1=>?_
    have j1:Jt false cl A L B H ds us δ σ:=⟨⟨[],g,h1,r,by simpa using nd,by simp,hb⟩,j.lb,j.ba,j.ad,j.tb⟩
    exact ho false A L B H δ σ ds us z Q j1 e2 fun v A2 H2 n2 j2=>k2 [v] A2 H2 n2 j2 v rfl
theorem hs_asg {e:DE} {g:TG} {tg:D → Sl → Option Sl} (he:HE cl xf P te e) (hg:SG cl ws g tg):HS cl xf ws P (tAsg te g) (dsAsg e tg):=fun A L B H δ σ E j hp k=>by
  refine he A L B H δ σ _ j hp (PostS.bind k fun x δ1 us A1 H1 e1 n1 j1 k1 v ev=>?_)
  subst ev
  split at k1
  · rename_i δ2 e2
    exact hg false A1 L B H1 δ1 δ2 σ x v _ j1 e2 fun σ2 kp j2=>k1 A1 H1 σ2 n1 kp j2
  · exact k1.elim
end
end Fs
set_option maxHeartbeats 2000000
namespace Fs
open PySem PySem.Spec PyProof.Rows L2
structure Hn where
  m:Nat → Bool
  i:Option Nat
  h:List D → DS
def wipeI (i:Option Nat) (δ:Sl):Sl:=match i with | none=>δ | some k=>δ.set k none
def okI (i:Option Nat) (δ:Sl):Bool:=match i with | none=>true | some k=>decide (k < δ.length)
def Out.behind (i:Option Nat):Out Flow → Out Flow
  | .ok f δ=>.ok f (wipeI i δ)
  | .exc _ _ _=>.bad
  | .bad=>.bad
def pick (c:Nat) (xs:List D):List Hn → Sl → Out Flow
  | [],δ=>.exc c xs δ
  | q :: r,δ=>if q.m c then (if okI q.i δ then (q.h xs (wipeI q.i δ)).behind q.i else .bad) else pick c xs r δ
def dsTry (n:Nat → Bool) (body:DS) (hs:List Hn):DS:=fun δ=>match body δ with
  | .exc c xs δ1=>if n c = true ∧ xs.all D.kept = true then pick c xs hs δ1 else .bad
  | o=>o
section
variable {cl:Ec} {xf:Nat → List Str} {W:WX} {ws:Nat → Bool} {A A' L B:Addr → Prop} {H H':Hp} {δ δ':Sl} {σ σ':L2.St} {p:Bool}
def less (ws:Nat → Bool) (i:Option Nat):Nat → Bool:=fun k=>ws k && decide (i ≠ some k)
structure HnOk (cl:Ec) (xf:Nat → List Str) (ws:Nat → Bool) (n:Nat → Bool) (q:Cl) (h:Hn):Prop where
  ei:q.i = h.i
  wi:∀ k,h.i = some k → ws k = true
  is:∀ c,n c = true → PySem.W.exmOne cl.K (.ref (cl.c c)) q.c = some (h.m c)
  run:∀ a d c xs vs,n c = true → h.m c = true → HS cl xf (less ws h.i) (Hld cl xf h.i a d c xs vs) (q.ts a (.ref (cl.c c)) d) (h.h xs)
inductive HnsOk (cl:Ec) (xf:Nat → List Str) (ws:Nat → Bool) (n:Nat → Bool):List Cl → List Hn → Prop
  | nil:HnsOk cl xf ws n [] []
  | cons {q:Cl} {h:Hn} {l:List Cl} {hs:List Hn} (x:HnOk cl xf ws n q h) (r:HnsOk cl xf ws n l hs):HnsOk cl xf ws n (q :: l) (h :: hs)
theorem Jt.gone {ts:List D} {vs:List V} {k:Nat} {x:Option V} (j:Jt p cl A L B H ts vs δ σ):Jt p cl A L B H ts vs (δ.set k none) (σ.set k x):=by
  by_cases hk:k < δ.length
  · exact j.clear.blur (by rw [List.getElem?_set_self hk])
  · have hl:=j.slots
    rw [List.set_eq_of_length_le (by omega),List.set_eq_of_length_le (by omega)]
    exact j
theorem Kp.behind {k:Nat} {τ:L2.St} {x y:Option V} (hw:ws k = true) (k1:Kp ws σ σ') (k2:Kp (less ws (some k)) (σ'.set k x) τ):Kp ws σ (τ.set k y):=by
  refine ⟨by rw [List.length_set,k2.1,List.length_set]; exact k1.1,fun m hm=>?_⟩
  have ne:k ≠ m:=fun z=>by rw [z,hm] at hw; cases hw
  rw [List.getElem?_set_ne ne,k2.2 m (by simp [less,hm]),List.getElem?_set_ne ne]
  exact k1.2 m hm
theorem Kp.weak {ws':Nat → Bool} (k:Kp ws' σ σ') (h:∀ m,ws m = false → ws' m = false):Kp ws σ σ':=⟨k.1,fun m hm=>k.2 m (h m hm)⟩
theorem ZiI {n:Nat → Bool} {c:Nat} {xs:List D} {vs:List V} {d:Option Addr} {E:Ends} (hc:n c = true) (hk:xs.all D.kept = true) (xa:XAt xf A H c vs d) (j:Jt false cl A L B H xs vs δ σ):∀ {l:List Cl} {hs:List Hn},HnsOk cl xf ws n l hs → PostS cl xf W ws (pick c xs hs δ) A L B H σ E → wCl cl.K W E l (.ref (cl.c c)) d σ H
  | _,_,.nil,k=>k d vs A H σ (Nx.refl j.ba) (Kp.refl σ) xa j
  | q :: l,h :: hs,.cons x r,k=>by
    refine ⟨h.m c,x.is c hc,fun hm a ha=>?_,fun hm=>?_⟩
    · unfold pick at k
      rw [if_pos hm] at k
      split at k
      · rename_i hi
        have rp:Rps cl A L H false xs vs []:=by
          obtain ⟨f,g,h1,_⟩:=j.ex
          exact h1.keptS hk
        have j0:=j.drop
        cases e:h.i with
        | none =>
          rw [e] at k hi
          have hq:q.i = none:=x.ei.trans e
          have ep:q.put σ a = σ:=by unfold Cl.put; rw [hq]
          have ef:q.fin E = E:=by unfold Cl.fin; rw [hq]
          rw [ep,ef]
          have run:=x.run a d c xs vs hc hm
          rw [e] at run
          refine run A L B H δ σ E j0 ⟨(fun m z=>by cases z),xa,rp⟩ ?_
          have wk:∀ {τ τ':L2.St},Kp (less ws none) τ τ' → Kp ws τ τ':=fun kp=>kp.weak fun m hm=>by simp [less,hm]
          simp only [wipeI] at k
          cases o:h.h xs δ with
          | bad=>rw [o] at k; exact k
          | exc c' xs' s=>rw [o] at k; exact k.elim
          | ok f s =>
            rw [o] at k
            cases f with
            | nx=>exact fun A2 H2 τ n2 k2 j2=>k A2 H2 τ n2 (wk k2) j2
            | bk=>exact fun A2 H2 τ n2 k2 j2=>k A2 H2 τ n2 (wk k2) j2
            | ct=>exact fun A2 H2 τ n2 k2 j2=>k A2 H2 τ n2 (wk k2) j2
            | rt z=>exact fun v A2 H2 τ n2 k2 j2=>k v A2 H2 τ n2 (wk k2) j2
        | some m =>
          rw [e] at k hi
          have hq:q.i = some m:=x.ei.trans e
          have hw:=x.wi m e
          have hlt:m < σ.length:=by rw [← j.slots]; exact of_decide_eq_true hi
          have ep:q.put σ a = σ.set m (some (.ref a)):=by unfold Cl.put; rw [hq]
          have ef:q.fin E = { nx:=fun τ G=>E.nx (τ.set m none) G,rt:=E.rt,bk:=fun τ G=>E.bk (τ.set m none) G,ct:=fun τ G=>E.ct (τ.set m none) G }:=by unfold Cl.fin; rw [hq]
          rw [ep,ef]
          have run:=x.run a d c xs vs hc hm
          rw [e] at run
          refine run A L B H (δ.set m none) (σ.set m (some (.ref a))) _ j0.gone ⟨(fun m' z=>by cases z; rw [List.getElem?_set_self hlt]),xa,rp⟩ ?_
          simp only [wipeI] at k
          cases o:h.h xs (δ.set m none) with
          | bad=>rw [o] at k; exact k
          | exc c' xs' s=>rw [o] at k; exact k.elim
          | ok f s =>
            rw [o] at k
            cases f with
            | nx=>exact fun A2 H2 τ n2 k2 j2=>k A2 H2 (τ.set m none) n2 (Kp.behind hw (Kp.refl σ) k2) j2.gone
            | bk=>exact fun A2 H2 τ n2 k2 j2=>k A2 H2 (τ.set m none) n2 (Kp.behind hw (Kp.refl σ) k2) j2.gone
            | ct=>exact fun A2 H2 τ n2 k2 j2=>k A2 H2 (τ.set m none) n2 (Kp.behind hw (Kp.refl σ) k2) j2.gone
            | rt z=>exact fun v A2 H2 τ n2 k2 j2=>k v A2 H2 (τ.set m none) n2 (Kp.behind hw (Kp.refl σ) k2) j2.gone
      · exact k.elim
    · unfold pick at k
      rw [if_neg (by rw [hm]; simp)] at k
      exact ZiI hc hk xa j r k
theorem ss_try {n:Nat → Bool} {tb:WX → TS} {body:DS} {l:List Cl} {hs:List Hn} (hb:∀ W',SS cl xf W' ws (tb W') body) (hh:HnsOk cl xf ws n l hs):SS cl xf W ws (fun E σ H=>tb (wCl cl.K W E l) E σ H) (dsTry n body hs):=fun A L B H δ σ E j k=>by
  refine hb _ A L B H δ σ E j ?_
  unfold dsTry at k
  cases e:body δ with
  | bad=>rw [e] at k; exact k
  | exc c xs s =>
    rw [e] at k
    simp only at k
    split at k
    · rename_i hc
      exact fun d vs A1 H1 σ1 n1 k1 x1 j1=>ZiI hc.1 hc.2 x1 j1 hh (PostS.step k n1 k1)
    · exact k.elim
  | ok f s=>rw [e] at k; cases f <;> exact k
end
section
variable {cl:Ec} {xf:Nat → List Str} {X:Cx} {W:WX} {ws:Nat → Bool}
structure Hc (cl:Ec) (xf:Nat → List Str) (X:Cx) (ws:Nat → Bool) (n:Nat → Bool) (eh:ExceptHandler) (h:Hn):Prop where
  ex:∃ q:Cl,HnOk cl xf ws n q h ∧ ∀ {hds:List ExceptHandler} {l:List Cl},ClOk X hds l → ClOk X (eh :: hds) (q :: l)
inductive Hcs (cl:Ec) (xf:Nat → List Str) (X:Cx) (ws:Nat → Bool) (n:Nat → Bool):List ExceptHandler → List Hn → Prop
  | nil:Hcs cl xf X ws n [] []
  | cons {eh:ExceptHandler} {h:Hn} {ehs:List ExceptHandler} {hs:List Hn} (x:Hc cl xf X ws n eh h) (r:Hcs cl xf X ws n ehs hs):Hcs cl xf X ws n (eh :: ehs) (h :: hs)
theorem Hcs.both {n:Nat → Bool}:∀ {ehs:List ExceptHandler} {hs:List Hn},Hcs cl xf X ws n ehs hs → ∃ l,HnsOk cl xf ws n l hs ∧ ClOk X ehs l
  | _,_,.nil=>⟨[],.nil,.nil⟩
  | _,_,.cons x r=>by
    obtain ⟨l,h1,h2⟩:=r.both
    obtain ⟨q,h3,h4⟩:=x.ex
    exact ⟨q :: l,.cons h3 h1,h4 h2⟩
theorem s_try {n:Nat → Bool} {body:List Stmt} {e0:ExceptHandler} {ehs:List ExceptHandler} {db:DS} {hs:List Hn} {pos:Pos} (hK:X.K = cl.K) (tk:Takes X W) (hN:X.N.Nodup)
    (hb:∀ (W':WX) (pn:List (Addr × Obj)) (xe:Value → Shared → Prop),Takes (X.tr pn xe) W' → PassesOwn (model X.prog X.w) X.A X.env xe → Rb cl xf (X.tr pn xe) W' ws body db) (hh:Hcs cl xf X ws n (e0 :: ehs) hs) (hst:X.stack = X.env :: X.outer:=by rfl) (hfr:X.env.frame = some X.env.locals:=by rfl) :
    Rs cl xf X W ws (.Try body (e0 :: ehs) [] [] pos) (dsTry n db hs):=by
  obtain ⟨l,h1,h2⟩:=hh.both
  refine ⟨_,ZiH (tb:=fun W' E σ H=>∀ t,SS cl xf W' ws t db → t E σ H) hst hfr hN tk (fun W' pn xe tk' po=>⟨fun pins s σ H E I h=>?_⟩) h2,?_⟩
  · obtain ⟨t,q1,q2⟩:=hb W' pn xe tk' po
    exact q1.run pins s σ H E I (h t q2)
  · rw [hK]
    exact ss_try (tb:=fun W' E σ H=>∀ t,SS cl xf W' ws t db → t E σ H) (fun W' A L B H δ σ E j k t ht=>ht A L B H δ σ E j k) h1
def Hblk (cl:Ec) (xf:Nat → List Str) (X:Cx) (ws:Nat → Bool) (n:Nat → Bool) (m:Nat → Bool) (i:Option Nat) (sts:List Stmt) (dh:List D → DS):Prop:=∀ (a:Addr) (oe:Obj) (cls:Value) (d:Option Addr) (pn:List (Addr × Obj)),Zc cls d oe → (∃ vs,oe.data = .fields vs) →
  ∃ t,PSs (X.suite a ((a,oe) :: pn)) sts t ∧ ∀ c xs vs,n c = true → m c = true → cls = .ref (cl.c c) → HS cl xf (less ws i) (Hld cl xf i a d c xs vs) t (dh xs)
theorem hblk {n:Nat → Bool} {m:Nat → Bool} {i:Option Nat} {sts:List Stmt} {dh:List D → DS} (h:Hblk cl xf X ws n m i sts dh):∃ ts,Blk X sts ts ∧ ∀ a d c xs vs,n c = true → m c = true → HS cl xf (less ws i) (Hld cl xf i a d c xs vs) (ts a (.ref (cl.c c)) d) (dh xs):=by
  refine ⟨fun a cls d E σ H=>∀ t,(∀ c xs vs,n c = true → m c = true → cls = .ref (cl.c c) → HS cl xf (less ws i) (Hld cl xf i a d c xs vs) t (dh xs)) → t E σ H,fun a oe cls d pn hz hd=>⟨fun pins s σ H E I w=>?_⟩,fun a d c xs vs hc hm A L B H δ σ E j hp k t ht=>?_⟩
  · obtain ⟨t,q1,q2⟩:=h a oe cls d pn hz hd
    exact q1.run pins s σ H E I (w t q2)
  · exact ht c xs vs hc hm rfl A L B H δ σ E j hp k
theorem hc_as {n:Nat → Bool} {k:Nat} {m:Nat → Bool} {x y:Str} {c:Value} {st:Stmt} {sts:List Stmt} {np q:Pos} {dh:List D → DS} (nm:Names X x c) (hk:X.N[k]? = some y) (hl:X.env.kindOf y = some .local) (hw:ws k = true) (is:∀ c',n c' = true → PySem.W.exmOne cl.K (.ref (cl.c c')) c = some (m c')) (h:Hblk cl xf X ws n m (some k) (st :: sts) dh) :
    Hc cl xf X ws n (.ExceptHandler (some (.Name x np)) (some y) (st :: sts) q) ⟨m,some k,dh⟩:=by
  obtain ⟨ts,h1,h2⟩:=hblk h
  exact ⟨⟨c,some k,ts⟩,⟨rfl,(fun k' z=>by cases z; exact hw),is,h2⟩,fun r=>.named nm hk hl h1 r⟩
theorem ZlB {n:Nat → Bool} {m:Nat → Bool} {x:Str} {c:Value} {st:Stmt} {sts:List Stmt} {np q:Pos} {dh:List D → DS} (nm:Names X x c) (is:∀ c',n c' = true → PySem.W.exmOne cl.K (.ref (cl.c c')) c = some (m c')) (h:Hblk cl xf X ws n m none (st :: sts) dh) :
    Hc cl xf X ws n (.ExceptHandler (some (.Name x np)) none (st :: sts) q) ⟨m,none,dh⟩:=by
  obtain ⟨ts,h1,h2⟩:=hblk h
  exact ⟨⟨c,none,ts⟩,⟨rfl,(fun k' z=>by cases z),is,h2⟩,fun r=>.bare nm h1 r⟩
end
end Fs
set_option maxHeartbeats 2000000
namespace Fs
open PySem PySem.Spec PyProof.Rows L2
section
variable {cl:Ec} {xf:Nat → List Str} {X:Cx} {ws:Nat → Bool} {n:Nat → Bool} {m:Nat → Bool} {i:Option Nat} {a:Addr} {oe:Obj} {cls:Value} {d:Option Addr} {pn:List (Addr × Obj)} {e b:Expr} {es rest:List Expr} {pos pos' py pp:Pos}
def Qk (cl:Ec) (xf:Nat → List Str) (X:Cx) (n:Nat → Bool) (m:Nat → Bool) (i:Option Nat) (a:Addr) (cls:Value) (d:Option Addr) (e:Expr) (pp:List D → PP):Prop:=∃ te,PE X e te ∧ ∀ c xs vs,n c = true → m c = true → cls = .ref (cl.c c) → HP cl (Hld cl xf i a d c xs vs) te (pp xs)
def Ql (cl:Ec) (xf:Nat → List Str) (X:Cx) (n:Nat → Bool) (m:Nat → Bool) (i:Option Nat) (a:Addr) (cls:Value) (d:Option Addr) (es:List Expr) (f:List D → Sl → Option (List D)):Prop:=∃ ta,L2.PA X es ta ∧ ∀ c xs vs,n c = true → m c = true → cls = .ref (cl.c c) → HL cl (Hld cl xf i a d c xs vs) ta (f xs)
def Qe (cl:Ec) (xf:Nat → List Str) (X:Cx) (n:Nat → Bool) (m:Nat → Bool) (i:Option Nat) (a:Addr) (cls:Value) (d:Option Addr) (e:Expr) (de:List D → DE):Prop:=∃ te,PE X e te ∧ ∀ c xs vs,n c = true → m c = true → cls = .ref (cl.c c) → HE cl xf (Hld cl xf i a d c xs vs) te (de xs)
def Qs (cl:Ec) (xf:Nat → List Str) (X:Cx) (ws:Nat → Bool) (n:Nat → Bool) (m:Nat → Bool) (i:Option Nat) (a:Addr) (cls:Value) (d:Option Addr) (st:Stmt) (ds:List D → DS):Prop:=∃ t,PS X st t ∧ ∀ c xs vs,n c = true → m c = true → cls = .ref (cl.c c) → HS cl xf (less ws i) (Hld cl xf i a d c xs vs) t (ds xs)
def Qss (cl:Ec) (xf:Nat → List Str) (X:Cx) (ws:Nat → Bool) (n:Nat → Bool) (m:Nat → Bool) (i:Option Nat) (a:Addr) (cls:Value) (d:Option Addr) (sts:List Stmt) (ds:List D → DS):Prop:=∃ t,PSs X sts t ∧ ∀ c xs vs,n c = true → m c = true → cls = .ref (cl.c c) → HS cl xf (less ws i) (Hld cl xf i a d c xs vs) t (ds xs)
theorem qk_of {p0:PP} (h:Rk cl X e p0):Qk cl xf X n m i a cls d e (fun _=>p0):=by obtain ⟨te,h1,h2⟩:=h; exact ⟨te,h1,fun _ _ _ _ _ _=>hp_of h2⟩
theorem qk_fld (k c0 nn:Nat) {f y:Str} (T:XfC X.K (cl.c c0)) (hno:PySem.W.findIn X.K (.ref (cl.c c0)) f = some none) (hz:Zc cls d oe) (hd:∃ vs,oe.data = .fields vs) (hm:∀ c,m c = true → c = c0) (hf:(xf c0)[nn]? = some f:=by rfl) (hN:X.N[k]? = some y:=by rfl) (hv:Vis X.env.scope y:=by first | exact Or.inl rfl | exact Or.inr (Or.inl rfl) | exact Or.inr (Or.inr rfl)) (hb:attributeBase (.Name y py) f X.env (eval (.Name y py) X.env) = eval (.Name y py) X.env:=by rfl) (hdb:(y == ("__debug__":Str)) = false:=by decide) (hcd:(y == ("__classdict__":Str)) = false:=by decide) :
    Qk cl xf (X.suite a ((a,oe) :: pn)) n m (some k) a cls d (.Attribute (.Name y py) f pos) (fun xs _=>xs[nn]?):=by
  refine ⟨_,pe_xf T hno hz hd (pe_var (X:=X.suite a ((a,oe) :: pn)) hN hv hdb hcd) hb,fun c xs vs hc hmc hcl=>?_⟩
  have:=hm c hmc
  subst this
  subst hcl
  exact hp_fld rfl hf
theorem ql_nil:Ql cl xf X n m i a cls d [] (fun _ _=>some []):=⟨_,pa_nil,fun _ _ _ _ _ _=>hl_nil⟩
theorem ZfS {pa:List D → PP} {f:List D → Sl → Option (List D)} (ha:Qk cl xf X n m i a cls d e pa) (hr:Ql cl xf X n m i a cls d es f) (hs:starEach (e :: es) X.env = (false,eval e X.env) :: starEach es X.env:=by rfl):Ql cl xf X n m i a cls d (e :: es) (fun xs=>lCons (pa xs) (f xs)):=by
  obtain ⟨te,h1,h2⟩:=ha
  obtain ⟨ta,h3,h4⟩:=hr
  exact ⟨_,pa_cons h1 h3 hs,fun c xs vs hc hm e=>ZlA (h2 c xs vs hc hm e) (h4 c xs vs hc hm e)⟩
theorem qe_tup {x1} {f:List D → Sl → Option (List D)} (h:Ql cl xf X n m i a cls d es f):Qe cl xf X n m i a cls d (.Tuple es x1 pos) (fun xs=>dF mkTup (dL (f xs))):=by obtain ⟨ta,h1,h2⟩:=h; exact ⟨_,pe_tup h1,fun c xs vs hc hm e=>he_f Zjn (h2 c xs vs hc hm e)⟩
theorem qs_set (k:Nat) {x:Str} {de:List D → DE} (h:Qe cl xf X n m i a cls d e de) (hN:X.N.Nodup) (hw:less ws i k = true:=by rfl) (hi:X.N[k]? = some x:=by rfl) (hx:Loc X.env.scope x:=by first | exact Or.inl rfl | exact Or.inr rfl) (hs:swapsWith e (some (.Name x pos')) pos.line X.env = pure false:=by rfl) (hf:X.fn x = true ∨ X.env.scope.names.lookup x = some .local:=by first | exact .inl rfl | exact .inr rfl) :
    Qs cl xf X ws n m i a cls d (.Assign [.Name x pos'] e pos) (fun xs=>dsAsg (de xs) (tgN k)):=by
  obtain ⟨te,h1,h2⟩:=h
  exact ⟨_,ps_set hN hi hx h1 hs hf,fun c xs vs hc hm e=>hs_asg (h2 c xs vs hc hm e) (ZfO hw)⟩
theorem ZiG {st:Stmt} {ds:List D → DS} (h:Qs cl xf X ws n m i a cls d st ds):Qss cl xf X ws n m i a cls d [st] ds:=by obtain ⟨t,h1,h2⟩:=h; exact ⟨t,pss_one h1,h2⟩
end
end Fs
set_option maxHeartbeats 2000000
namespace Fs
open PySem PySem.Spec PyProof.Rows L2
structure Xc (cl:Ec) (xf:Nat → List Str) (P:Program) (w:World) (K:PySem.W.Frag) (mg:Str → Option Value) (base:Heap) (x:Str) (c k:Nat):Prop where
  mgx:mg x = some (.ref (cl.c c))
  T:OexC K (cl.c c)
  ini:∃ fI fd ps,PySem.W.findIn K (.ref (cl.c c)) "__init__" = some (some (.ref fI)) ∧ PySem.W.typeIn K (.ref fI) = some (.type "function") ∧ FnOk P w K mg base (L2.CX P w) k fI fd ps (spIni K (xf c)) ∧ Binds K fd ps []
  no:∀ f ∈ xf c,PySem.W.findIn K (.ref (cl.c c)) f = some none
  nd:(xf c).Nodup
section
variable {cl:Ec} {xf:Nat → List Str} {X:Cx} {W:WX} {ws:Nat → Bool} {e:Expr} {es:List Expr} {pos pos' p:Pos}
theorem pass0 {E:XK} (hE:∀ c d H,¬ E c d H):Passes (L2.CX X.prog X.w) X E:=fun pins σ H s u s' I c=>by
  obtain ⟨_,_,_,_,_,_,_,_,_,_,_,_,z⟩:=c
  exact (hE _ _ _ z).elim
theorem Zdg {x:Str} {c k m n:Nat} {da:DA} (C:Xc cl xf X.prog X.w X.K X.mg X.base x c k) (hK:X.K = cl.K) (hr:RoomG m X.A) (hkm:k + 1 ≤ m) (tk:Takes X W) (ha:Ra cl xf X W false (e :: es) da) (hn:(xf c).length = n:=by rfl) (hn2:n ≤ 1000:=by decide) (hc:X.calm = true:=by rfl) (hg:Gl X x:=by rfl)
    (hdb:(x == ("__debug__":Str)) = false:=by decide) (he:starEach (e :: es) X.env = (false,eval e X.env) :: starEach es X.env:=by rfl) (hpl:(backTo pos (starEach es X.env)).any (·.1) = false:=by rfl) :
    Rs cl xf X W ws (.Raise (some (.Call (.Name x p) (e :: es) [] pos)) none pos') (ZbP c n da):=by
  obtain ⟨ta,h1,h2⟩:=ha
  obtain ⟨fI,fd,ps,i1,i2,i3,i4⟩:=C.ini
  refine ⟨_,ps_raise hc tk (pmk_oex (dvs:=[]) C.T i1 i2 i3 (hr.r.mono hkm) i4 .nil (pass0 fun _ _ _ z=>z) hg C.mgx h1 hdb he hpl),?_⟩
  rw [hK]
  exact ZjS h2 (by rw [← hK]; exact C.T) (by rw [← hK]; exact C.no) hn hn2 C.nd
end
end Fs
set_option maxHeartbeats 2000000
namespace Fs
open PySem PySem.Spec PyProof.Rows L2
section
variable {X:Cx} {CX:CXT} {k:Nat} {f C:Addr} {fd:FuncData} {ps:List Str} {sp:Sp} {E:L2.St → XK} {x m:Str} {q pos apos:Pos} {e o:Expr} {es:List Expr} {ta:TE} {t:TA}
def tMethE (C:Addr) (m:Str) (sp:Sp) (E:L2.St → XK) (ta:TE) (t:TA):TE:=fun σ H Q=>ta σ H fun x H1=>∃ a dx fs,x = .ref a ∧ H1 a = some (.ins C dx fs) ∧ fs.lookup m = none ∧ t σ H1 fun vs H2=>sp (x :: vs) H2 Q (E σ)
theorem Zj2 {pl:Sem Bool} (he:PE X o ta) (c:Cls X.K C) (hm:Meth X.K C m f) (F:FnG X.prog X.w X.K X.mg X.base CX k f fd ps sp) (hr:RoomG k X.A) (hb:Binds X.K fd ps []) (hx:∀ σ,PassesAt CX X σ (E σ)) (ha:L2.PA X (e :: es) t)
    (hst:starEach (e :: es) X.env = (false,eval e X.env) :: starEach es X.env:=by rfl) (hpl:(backTo pos (starEach es X.env)).any (·.1) = false:=by rfl)
    (ht:eval (.Call (.Attribute o m apos) (e :: es) [] pos) X.env = (do
      let r ← eval o X.env
      standAt apos.atName
      let (g,one) ← holding [r] (getMethod r m pl)
      callWith pos g one (backTo pos (starEach (e :: es) X.env)) (backToKw pos (keywordEach [] X.env))):=by rfl):PE X (.Call (.Attribute o m apos) (e :: es) [] pos) (tMethE C m sp E ta t):=⟨fun pins s σ H Q I h=>by
  refine PySem.W.methodCall_KW (pl:=pl) (thn (he.run pins s σ H _ I h) fun rv t1 got=>?_) ht
  obtain ⟨y,G,J,ry,a,dx,fs,rfl,at1,nol,go⟩:=got
  cases (show rv = Value.ref a from ry)
  refine getmeth_ok J at1 c hm nol (PySem.W.callWith_K (first:=[.ref a]) (h₀:=X.base) I.ok.mod.kin hm.kp (thn (ha.run pos pins t1 σ G _ J go) fun args t2 fin=>?_) hst hpl)
  obtain ⟨vs,G2,J2,rr,sp2⟩:=fin
  exact ⟨J2.kIn,runG (us:=.ref a :: args) (xs:=.ref a :: vs) F hr hb (hx σ) J2 (.cons rfl rr) sp2⟩⟩
def tMakeE (C:Addr) (sp:Sp) (E:L2.St → XK) (t:TA):TE:=fun σ H Q=>t σ H fun vs H1=>∀ x dx,H1 x = none → H1 dx = none → dx ≠ x → sp (.ref x :: vs) (upd (upd H1 dx (.own x)) x (.ins C dx [])) (fun v H2=>v = .non ∧ Q (.ref x) H2) (E σ)
theorem Zll {pins:List (Addr × Obj)} {σ:L2.St} {H:Hp} {s:Shared} {Q:VK} {us:List Value} {vs:List V} (M:Mk X.K C f) (F:FnG X.prog X.w X.K X.mg X.base CX k f fd ps sp) (hr:RoomG (k + 1) X.A) (hb:Binds X.K fd ps []) (hx:PassesAt CX X σ (E σ)) (I:Inv X pins σ H s) (r:Vals vs us)
    (h:∀ x dx,H x = none → H dx = none → dx ≠ x → sp (.ref x :: vs) (upd (upd H dx (.own x)) x (.ins C dx [])) (fun v H2=>v = .non ∧ Q (.ref x) H2) (E σ)):wpAny (model X.prog X.w) X.A (call (.ref C) us) (EP X pins σ Q) X.xe s:=by
  have want:=h (s.heap.objs.size + 1) s.heap.objs.size (I.hok.fresh (Nat.le_succ _)) (I.hok.fresh (Nat.le_refl _)) (Nat.ne_of_lt (Nat.lt_succ_self _))
  have J:=Inv.made (C:=C) I
  have rel:Vals (V.ref (s.heap.objs.size + 1) :: vs) (Value.ref (s.heap.objs.size + 1) :: us):=.cons rfl r
  have len:(Value.ref (s.heap.objs.size + 1) :: us).length = ps.length:=by rw [← rel.length]; exact F.len _ _ _ _ want
  have bnd:=hb _ (Value.ref (s.heap.objs.size + 1) :: us) J.kIn (by rw [List.append_nil]; exact len)
  rw [List.append_nil] at bnd
  refine wpAny_call (make_map (f:=f) I.kIn M.makes M.init (beq_iff_eq.mp M.fn) (codeAny_mono (F.go _ X.stack _ _ ⟨Value.ref (s.heap.objs.size + 1) :: us,[]⟩ _ _ _ (E σ) (hr.make C us []) (J.env0.make C us []) bnd rel want) fun res s2 ok=>?_))
  cases res with
  | error u=>exact hx pins _ _ u s2 J ok
  | ok fl =>
    cases fl with
    | next=>exact False.elim ok
    | brk=>exact False.elim ok
    | cont=>exact False.elim ok
    | ret u =>
      obtain ⟨v,G,J2,rv,rfl,fin⟩:=J.after ok
      exact ⟨rv,V.ref (s.heap.objs.size + 1),G,J2,rfl,fin⟩
theorem Zj3 (M:Mk X.K C f) (F:FnG X.prog X.w X.K X.mg X.base CX k f fd ps sp) (hr:RoomG (k + 1) X.A) (hg:Gl X x) (hm:X.mg x = some (.ref C)) (hb:Binds X.K fd ps []) (hx:∀ σ,PassesAt CX X σ (E σ)) (ha:L2.PA X (e :: es) t)
    (hdb:(x == ("__debug__":Str)) = false:=by decide) (he:starEach (e :: es) X.env = (false,eval e X.env) :: starEach es X.env:=by rfl) (hpl:(backTo pos (starEach es X.env)).any (·.1) = false:=by rfl):PE X (.Call (.Name x q) (e :: es) [] pos) (tMakeE C sp E t):=⟨fun pins s σ H Q I h=>by
  refine wpAny_Call_Name_kw (ld_glob I hg hm (PySem.W.callWith_K (h₀:=X.base) I.ok.mod.kin M.kp (thn (ha.run pos pins s σ H _ I h) fun args t2 fin=>?_) he hpl) hdb)
  obtain ⟨vs,G,J,rr,go⟩:=fin
  exact ⟨J.kIn,Zll M F hr hb (hx σ) J rr go⟩⟩
theorem Zgq {pl:Sem Bool} (he:PE X o ta) (c:Cls X.K C) (hm:Meth X.K C m f) (F:FnG X.prog X.w X.K X.mg X.base CX k f fd ps sp) (hr:RoomG k X.A) (hb:Binds X.K fd ps []) (hx:∀ σ,PassesAt CX X σ (E σ))
    (ht:eval (.Call (.Attribute o m apos) [] [] pos) X.env = (do
      let r ← eval o X.env
      standAt apos.atName
      let (g,one) ← holding [r] (getMethod r m pl)
      callWith pos g one (backTo pos (starEach [] X.env)) (backToKw pos (keywordEach [] X.env))):=by rfl):PE X (.Call (.Attribute o m apos) [] [] pos) (tMethE C m sp E ta tNil):=⟨fun pins s σ H Q I h=>by
  refine PySem.W.methodCall_KW (pl:=pl) (thn (he.run pins s σ H _ I h) fun rv t1 got=>?_) ht
  obtain ⟨y,G,J,ry,a,dx,fs,rfl,at1,nol,go⟩:=got
  cases (show rv = Value.ref a from ry)
  exact getmeth_ok J at1 c hm nol (PySem.W.callWith_K0 (first:=[.ref a]) J.kIn hm.kp (runG (us:=[.ref a]) (xs:=[.ref a]) F hr hb (hx σ) J (.cons rfl .nil) go))⟩
end
def lkS {α:Type}:List Str → List α → Str → Option α
  | k :: ks,x :: xs,y=>if y = k then some x else lkS ks xs y
  | _,_,_=>none
def fldD (c:Nat) (f:Str):D → Option D
  | .n (.obj c' fs) _ xs=>if c' = c then lkS fs xs f else none
  | _=>none
section
variable {cl:Ec} {xf:Nat → List Str} {X:Cx} {W:WX} {ws:Nat → Bool} {A L B:Addr → Prop} {H:Hp} {b:Bool}
theorem Rps.lkS:∀ {fs:List Str} {ds:List D} {vs:List V} {fp:List Addr} {f:Str} {z:D},Rps cl A L H b ds vs fp → Fs.lkS fs ds f = some z → ∃ v f1,(fs.zip vs).lookup f = some v ∧ Rp cl A L H b z v f1 ∧ ∀ a ∈ f1,a ∈ fp
  | [],ds,vs,fp,f,z,h,e=>by simp [Fs.lkS] at e
  | k :: fs,[],vs,fp,f,z,h,e=>by simp [Fs.lkS] at e
  | k :: fs,d :: ds,vs,fp,f,z,h,e=>by
    simp only [Rps] at h
    obtain ⟨v,vs',f1,f2,rfl,rfl,h3,h4⟩:=h
    simp only [Fs.lkS] at e
    by_cases hk:f = k
    · rw [if_pos hk] at e
      cases e
      exact ⟨v,f1,by simp [List.lookup,hk],h3,fun a ha=>List.mem_append_left _ ha⟩
    · rw [if_neg hk] at e
      obtain ⟨u,g,q1,q2,q3⟩:=h4.lkS e
      have hb:(f == k) = false:=by simpa using hk
      exact ⟨u,g,by simp only [List.zip_cons_cons,List.lookup,hb]; exact q1,q2,fun a ha=>List.mem_append_right _ (q3 a ha)⟩
def rFld (K:PySem.W.Frag) (f:Str):V → Hp → VK → Prop:=fun x H Q=>∃ a C dx fs v,x = .ref a ∧ H a = some (.ins C dx fs) ∧ Cls K C ∧ NoAttr K C f ∧ fs.lookup f = some v ∧ Q v H
theorem ZcV {K:PySem.W.Frag} {c:Nat} {f:Str} (hc:Cls K (cl.c c)) (hn:NoAttr K (cl.c c) f):PUn cl (rFld K f) (fldD c f):=by
  intro A L H x u f1 z Q h1 e k
  unfold fldD at e
  split at e
  · split at e
    · rename_i c' fs w xs hcc
      subst hcc
      obtain ⟨a,o,vs,fp',rfl,ho,⟨hl,dx,rfl⟩,hr,hf⟩:=h1.node
      obtain ⟨v,g,q1,q2,q3⟩:=hr.lkS e
      exact ⟨a,_,dx,_,v,rfl,ho,hc,hn,q1,k v g q2 fun b hb=>hf b (q3 b hb)⟩
    · cases e
  · cases e
theorem o_fld {e:Expr} {f:Str} {pos:Pos} (hb:attributeBase e f X.env (eval e X.env) = eval e X.env:=by rfl):B1 X (.Attribute e f pos) e (rFld X.K f):=fun _ ha=>pe_fld ha hb
end
end Fs
set_option maxHeartbeats 2000000
namespace Fs
open PySem PySem.Spec PyProof.Rows L2
def tRc (C:Addr) (m:Str) (ta:TE):TE:=fun σ H Q=>ta σ H fun x H1=>(∃ a dx fs,x = .ref a ∧ H1 a = some (.ins C dx fs) ∧ fs.lookup m = none) ∧ Q x H1
theorem ZeP {C:Addr} {m:Str} {sp:Sp} {E:L2.St → XK} {ta:TE} {t:TA}:tMethE C m sp E ta t = tCallS sp E (tCons (tRc C m ta) t):=by
  funext σ H Q
  unfold tMethE tCallS tCons tRc
  congr 1
  funext x H1
  refine propext ⟨fun ⟨a,dx,fs,h1,h2,h3,h4⟩=>⟨⟨a,dx,fs,h1,h2,h3⟩,h4⟩,fun ⟨⟨a,dx,fs,h1,h2,h3⟩,h4⟩=>⟨a,dx,fs,h1,h2,h3,h4⟩⟩
def rcD (c:Nat) (m:Str):D → Option D
  | .n (.obj c' fs) w xs=>if c' = c ∧ m ∉ fs then some (.n (.obj c' fs) w xs) else none
  | _=>none
def pRc (c:Nat) (m:Str) (a:PP):PP:=fun δ=>(a δ).bind (rcD c m)
def dRc (c:Nat) (m:Str) (a:DE):DE:=fun δ=>(a δ).bind fun x δ1=>Out.ofO (rcD c m x) δ1
section
variable {cl:Ec} {xf:Nat → List Str} {X:Cx} {W:WX} {ws:Nat → Bool} {A L B:Addr → Prop} {H:Hp} {b p:Bool} {ta:TE}
theorem Zic {fs:List Str} {vs:List V} {m:Str} (h:m ∉ fs):(fs.zip vs).lookup m = none:=by
  induction fs generalizing vs with
  | nil=>simp
  | cons f fs ih =>
    cases vs with
    | nil=>simp
    | cons v vs =>
      simp only [List.mem_cons,not_or] at h
      have hb:(m == f) = false:=by simpa using h.1
      simp only [List.zip_cons_cons,List.lookup,hb]
      exact ih h.2
theorem rcD_ok {c:Nat} {m:Str} {x z:D} {v:V} {fp:List Addr} (h:Rp cl A L H b x v fp) (e:rcD c m x = some z):z = x ∧ ∃ a dx fs,v = .ref a ∧ H a = some (.ins (cl.c c) dx fs) ∧ fs.lookup m = none:=by
  unfold rcD at e
  split at e
  · split at e
    · rename_i c' fs w xs hc
      cases e
      obtain ⟨a,o,vs,fp',rfl,ho,⟨hl,dx,rfl⟩,hr,hf⟩:=h.node
      obtain ⟨rfl,hm⟩:=hc
      exact ⟨rfl,a,dx,_,rfl,ho,Zic hm⟩
    · cases e
  · cases e
theorem sp_rc {c:Nat} {m:Str} {a:PP} (ha:SP cl ta a):SP cl (tRc (cl.c c) m ta) (pRc c m a):=fun A L H δ σ g d Q h e k=>by
  obtain ⟨x,e1,e2⟩:=Option.bind_eq_some_iff.mp e
  refine ha A L H δ σ g x _ h e1 fun v fp h1 n1=>?_
  obtain ⟨rfl,q⟩:=rcD_ok h1 e2
  exact ⟨q,k v fp h1 n1⟩
theorem se_rc {c:Nat} {m:Str} {a:DE} (ha:SE cl xf W p ta a):SE cl xf W p (tRc (cl.c c) m ta) (dRc c m a):=by
  refine ⟨fun hp δ=>Out.same_bind (ha.pure hp δ) fun x=>Out.same_ofO,fun A L B H δ σ Q j k=>?_⟩
  refine ha.run A L B H δ σ _ j (Post.bind (γ:=D) k fun x δ1 vs A1 H1 e1 n1 j1 k1 v ev=>?_)
  subst ev
  obtain ⟨z,e,k2⟩:=Post.ofO k1
  obtain ⟨u,f1,e0,h1⟩:=j1.one
  cases e0
  obtain ⟨rfl,q⟩:=rcD_ok h1 e
  exact ⟨q,k2 [v] A1 H1 n1 j1 v rfl⟩
structure Mt (cl:Ec) (xf:Nat → List Str) (P:Program) (w:World) (K:PySem.W.Frag) (mg:Str → Option Value) (base:Heap) (c:Nat) (m:Str) (k np:Nat) (F:List D → Out D):Prop where
  ex:∃ f fd ps,FnG P w K mg base (L2.CX P w) k f fd ps (spF cl xf np F) ∧ Meth K (cl.c c) m f ∧ Binds K fd ps []
  cls:Cls K (cl.c c)
variable {e o:Expr} {es:List Expr} {pos apos:Pos} {pa:PP} {da:DE} {k mm np c:Nat} {m:Str} {F:List D → Out D} {da':DA}
theorem Zjs (M:Mt cl xf X.prog X.w X.K X.mg X.base c m k np F) (hr:RoomG mm X.A) (hkm:k ≤ mm) (tk:Takes X W) (ho:Rk cl X o pa) (ha:Rc cl xf X W (e :: es) da') (hn:DL np (daLend (pRc c m pa) da'))
    (hst:starEach (e :: es) X.env = (false,eval e X.env) :: starEach es X.env:=by rfl) (hpl:(backTo pos (starEach es X.env)).any (·.1) = false:=by rfl) {pl:Sem Bool}
    (ht:eval (.Call (.Attribute o m apos) (e :: es) [] pos) X.env = (do
      let r ← eval o X.env
      standAt apos.atName
      let (g,one) ← holding [r] (getMethod r m pl)
      callWith pos g one (backTo pos (starEach (e :: es) X.env)) (backToKw pos (keywordEach [] X.env))):=by rfl):Rd cl xf X W p (.Call (.Attribute o m apos) (e :: es) [] pos) (dCall F (daLend (pRc c m pa) da')):=by
  obtain ⟨to,h1,h2⟩:=ho
  obtain ⟨ta,h3,h4⟩:=ha
  obtain ⟨f,fd,ps,hF,hM,hb⟩:=M.ex
  refine ⟨_,Zj2 (pl:=pl) h1 M.cls hM hF (hr.mono hkm) hb (fun σ=>passAt tk σ) h3 hst hpl ht,?_⟩
  rw [ZeP]
  exact (ZfP (Zg2 (sp_rc h2) h4) hn).to
theorem Zcp (M:Mt cl xf X.prog X.w X.K X.mg X.base c m k np F) (hr:RoomG mm X.A) (hkm:k ≤ mm) (tk:Takes X W) (ho:Rk cl X o pa) (hn:DL np (daLend (pRc c m pa) daNil)) {pl:Sem Bool}
    (ht:eval (.Call (.Attribute o m apos) [] [] pos) X.env = (do
      let r ← eval o X.env
      standAt apos.atName
      let (g,one) ← holding [r] (getMethod r m pl)
      callWith pos g one (backTo pos (starEach [] X.env)) (backToKw pos (keywordEach [] X.env))):=by rfl):Rd cl xf X W p (.Call (.Attribute o m apos) [] [] pos) (dCall F (daLend (pRc c m pa) daNil)):=by
  obtain ⟨to,h1,h2⟩:=ho
  obtain ⟨f,fd,ps,hF,hM,hb⟩:=M.ex
  refine ⟨_,Zgq (pl:=pl) h1 M.cls hM hF (hr.mono hkm) hb (fun σ=>passAt tk σ) ht,?_⟩
  rw [ZeP]
  exact (ZfP (Zg2 (sp_rc h2) sc_nil) hn).to
theorem Zd9 (M:Mt cl xf X.prog X.w X.K X.mg X.base c m k np F) (hr:RoomG mm X.A) (hkm:k ≤ mm) (tk:Takes X W) (ho:Rd cl xf X W true o da) (hn:DL np (daCons (dRc c m da) daNil)) {pl:Sem Bool}
    (ht:eval (.Call (.Attribute o m apos) [] [] pos) X.env = (do
      let r ← eval o X.env
      standAt apos.atName
      let (g,one) ← holding [r] (getMethod r m pl)
      callWith pos g one (backTo pos (starEach [] X.env)) (backToKw pos (keywordEach [] X.env))):=by rfl):Rd cl xf X W p (.Call (.Attribute o m apos) [] [] pos) (dCall F (daCons (dRc c m da) daNil)):=by
  obtain ⟨to,h1,h2⟩:=ho
  obtain ⟨f,fd,ps,hF,hM,hb⟩:=M.ex
  refine ⟨_,Zgq (pl:=pl) h1 M.cls hM hF (hr.mono hkm) hb (fun σ=>passAt tk σ) ht,?_⟩
  rw [ZeP]
  exact (ZfP (sc_val (se_rc h2) sc_nil) hn).to
end
end Fs
set_option maxHeartbeats 2000000
namespace Fs
open PySem PySem.Spec PyProof.Rows L2
section
variable {cl:Ec} {xf:Nat → List Str} {X:Cx} {W:WX} {ws:Nat → Bool} {A L B:Addr → Prop} {H:Hp} {b p:Bool} {tA:TA}
structure Kc (cl:Ec) (xf:Nat → List Str) (P:Program) (w:World) (K:PySem.W.Frag) (mg:Str → Option Value) (base:Heap) (x:Str) (c k np:Nat) (F:List D → Out D):Prop where
  ex:∃ f fd ps,FnG P w K mg base (L2.CX P w) k f fd ps (spF cl xf np F) ∧ Mk K (cl.c c) f ∧ Binds K fd ps []
  mgx:mg x = some (.ref (cl.c c))
variable {e:Expr} {es:List Expr} {pos pp:Pos} {k mm np c:Nat} {x:Str} {F:List D → Out D} {da':DA}
end
end Fs
namespace Fs
open PySem PySem.Spec PyProof.Rows L2
inductive Od | k (a:PP) | v (e:DE)
def evO:List Od → Sl → Out (List D)
  | [],δ=>.ok [] δ
  | .k a :: os,δ=>match a δ with
    | some d=>(evO os δ).bind fun xs δ2=>.ok (d :: xs) δ2
    | none=>.bad
  | .v e :: os,δ=>(e δ).bind fun d δ1=>(evO os δ1).bind fun xs δ2=>.ok (d :: xs) δ2
def dN (F:List D → Option D) (os:List Od):DE:=fun δ=>(evO os δ).bind fun xs δ1=>Out.ofO (F xs) δ1
def RpL (cl:Ec) (A L:Addr → Prop) (H:Hp):List D → List V → Prop
  | [],us=>us = []
  | x :: xs,us=>∃ u us' fp,us = u :: us' ∧ Rp cl A L H true x u fp ∧ RpL cl A L H xs us'
def NOp (cl:Ec) (R:List V → Hp → VK → Prop) (F:List D → Option D):Prop:=∀ p A L B H ts ws δ σ xs us z Q,Jt p cl A L B H ts ws δ σ → RpL cl A L H xs us → F xs = some z → (∀ v A' H',Nx A B H A' H' → Jt p cl A' L B H' [z] [v] δ σ → Q v H') → R us H Q
section
variable {cl:Ec} {xf:Nat → List Str} {W:WX} {ws:Nat → Bool} {A A' L L' B:Addr → Prop} {H H':Hp} {δ δ':Sl} {σ σ':L2.St} {p q b:Bool} {te ta tb tc:TE} {tA:TA} {tt tu:TT} {t u:TS} {ts:List D} {vs:List V}
structure SN (cl:Ec) (xf:Nat → List Str) (W:WX) (ta:TA) (os:List Od):Prop where
  pure:∀ δ,(evO os δ).same δ
  run:∀ A L H δ σ g (R:List V → Hp → Prop),Rpo cl A L H δ σ g → g.Nodup → (∀ a,L a → A a) → Ad cl A H → (match evO os δ with
    | .ok xs _=>∀ us A' H' ts ws,Nx A A H A' H' → Jt true cl A' L A H' ts ws δ σ → RpL cl A' L H' xs us → R us H'
    | .exc c xs δ'=>PostX cl xf W true c xs δ' A L A H σ
    | .bad=>False) → ta σ H R
theorem sn_nil:SN cl xf W tNil []:=⟨fun δ=>rfl,fun A L H δ σ g R h nd la ad k=>k [] A H [] [] (Nx.refl fun _ h=>h) (Jt.pure0 h nd la ad) rfl⟩
theorem sn_k {a:PP} {os:List Od} (ha:SP cl te a) (hr:SN cl xf W tA os):SN cl xf W (tCons te tA) (.k a :: os):=by
  refine ⟨fun δ=>?_,fun A L H δ σ g R h nd la ad k=>?_⟩
  · unfold evO
    split
    · exact Out.same_bind (hr.pure δ) fun xs=>rfl
    · trivial
  · unfold evO at k
    cases e:a δ with
    | none=>rw [e] at k; exact k.elim
    | some d =>
      rw [e] at k
      simp only at k
      refine ha A L H δ σ g d _ h e fun v fp h1 n1=>?_
      refine hr.run A L H δ σ g _ h nd la ad ?_
      cases e2:evO os δ with
      | bad=>rw [e2] at k; exact k.elim
      | exc c xs s=>rw [e2] at k; exact k
      | ok xs s =>
        rw [e2] at k
        simp only [Out.bind] at k
        intro us A2 H2 ts ws n2 j2 r2
        refine k (v :: us) A2 H2 ts ws n2 j2 ?_
        have gA:∀ a ∈ g,A a:=fun a ha=>(h.inA a ha).1
        exact ⟨v,us,fp,rfl,h1.step n2.both (fun a ha=>n2.prot a (gA a (n1 a ha))) (fun _ a hl=>⟨(n2.prot a (la a hl)).1,hl⟩),r2⟩
theorem sn_v {a:DE} {os:List Od} (ha:SE cl xf W true te a) (hr:SN cl xf W tA os):SN cl xf W (tCons te tA) (.v a :: os):=by
  refine ⟨fun δ=>Out.same_bind (ha.pure rfl δ) fun x=>Out.same_bind (hr.pure δ) fun xs=>rfl,fun A L H δ σ g R h nd la ad k=>?_⟩
  have j:=Jt.pure0 h nd la ad
  have hs:=ha.pure rfl δ
  unfold evO at k
  refine ha.run A L A H δ σ _ j ?_
  cases e:a δ with
  | bad=>rw [e] at k; exact k.elim
  | exc c xs s=>rw [e] at k; exact k
  | ok x s =>
    rw [e] at k hs
    cases (show s = δ from hs)
    simp only [Out.bind] at k
    intro vs A1 H1 n1 j1 v ev
    subst ev
    obtain ⟨u,f1,e0,h6⟩:=j1.one
    cases e0
    have gA:∀ a ∈ g,A a:=fun a ha=>(h.inA a ha).1
    have hg:=h.step (A':=A1) (L':=L) (H':=H1) n1.both (fun a ha=>n1.prot a (gA a ha)) (fun a hl=>⟨(n1.prot a (la a hl)).1,hl⟩)
    refine hr.run A1 L H1 δ σ g _ hg nd (fun a hl=>(n1.prot a (la a hl)).2) j1.adt ?_
    have hs2:=hr.pure δ
    cases e2:evO os δ with
    | bad=>rw [e2] at k; exact k.elim
    | exc c xs s =>
      rw [e2] at k hs2
      cases (show s = δ from hs2)
      intro d us A2 H2 n2 x2 j2
      exact k d us A2 H2 (n1.trans (n2.weak fun a ha=>(n1.prot a ha).2)) x2 (j.ofPure2 (n1.trans (n2.weak fun a ha=>(n1.prot a ha).2)) (j2.lower (fun a ha=>(n1.prot a ha).2) la))
    | ok xs s =>
      rw [e2] at k
      simp only [Out.bind] at k
      intro us A2 H2 ts ws n2 j2 r2
      have n3:Nx A A H A2 H2:=n1.trans (n2.weak fun a ha=>(n1.prot a ha).2)
      refine k (v :: us) A2 H2 _ _ n3 (Jt.backP (f:=[]) j1 n2 j2) ?_
      exact ⟨v,us,f1,rfl,(h6.step n2.both (fun a ha=>n2.prot a (h6.inA a ha).1) (by simp)).weak,r2⟩
theorem se_n {os:List Od} {R:List V → Hp → VK → Prop} {F:List D → Option D} (ho:NOp cl R F) (hr:SN cl xf W tA os):SE cl xf W p (tF R tA) (dN F os):=by
  refine ⟨fun _ δ=>Out.same_bind (hr.pure δ) fun xs=>Out.same_ofO,fun A L B H δ σ Q j k=>?_⟩
  obtain ⟨g,hg,nd,_⟩:=j.drop0
  refine hr.run A L H δ σ g _ hg nd (fun a h=>j.ba a (j.lb a h)) j.adt ?_
  unfold dN at k
  have hs:=hr.pure δ
  cases e:evO os δ with
  | bad=>rw [e] at k; exact k.elim
  | exc c xs s =>
    rw [e] at k hs
    cases (show s = δ from hs)
    exact fun d us A2 H2 n2 x2 j2=>k d us A2 H2 (n2.weak j.ba) x2 (j.ofPure2 n2 j2)
  | ok xs s =>
    rw [e] at k hs
    cases (show s = δ from hs)
    simp only [Out.bind] at k
    obtain ⟨z,e3,k⟩:=Post.ofO k
    intro us A1 H1 ts ws n1 j1 r1
    refine ho true A1 L A H1 ts ws δ σ xs us z Q j1 r1 e3 fun v A2 H2 n2 j2=>?_
    have n3:Nx A A H A2 H2:=n1.trans n2
    exact k [v] A2 H2 (n3.weak j.ba) (j.ofPure n3 j2) v rfl
def resN:List AK → List D → Sl → Option (List D)
  | [],[],_=>some []
  | .v _ :: ks,t :: ts,δ=>(resN ks ts δ).map fun r=>t :: r
  | .l i :: ks,ts,δ=>((δ[i]?).join).bind fun d=>(resN ks ts δ).map fun r=>d :: r
  | _,_,_=>none
theorem Zg6:∀ {ks:List AK} {ts:List D} {tv us:List V} {f g:List Addr} {xs:List D},Rps cl A L H false ts tv f → Rpo cl A L H δ σ g → WV σ ks tv us → resN ks ts δ = some xs → RpL cl A L H xs us
  | [],[],tv,us,f,g,xs,h,hg,w,e=>by
    simp only [resN,Option.some.injEq] at e
    subst e
    simp only [WV] at w
    simp only [RpL]
    exact w.2
  | [],t :: ts,tv,us,f,g,xs,h,hg,w,e=>by simp [resN] at e
  | .v x :: ks,[],tv,us,f,g,xs,h,hg,w,e=>by simp [resN] at e
  | .v x :: ks,t :: ts,tv,us,f,g,xs,h,hg,w,e=>by
    simp only [resN] at e
    obtain ⟨ys,e1,rfl⟩:=Option.map_eq_some_iff.mp e
    simp only [Rps] at h
    obtain ⟨v,tv',f1,f2,rfl,rfl,h3,h4⟩:=h
    simp only [WV] at w
    obtain ⟨t0,tv0,us',e3,rfl,w⟩:=w
    cases e3
    exact ⟨v,us',f1,rfl,h3.weak,Zg6 h4 hg w e1⟩
  | .l i :: ks,ts,tv,us,f,g,xs,h,hg,w,e=>by
    simp only [resN] at e
    obtain ⟨d,e0,e⟩:=Option.bind_eq_some_iff.mp e
    obtain ⟨ys,e1,rfl⟩:=Option.map_eq_some_iff.mp e
    simp only [WV] at w
    obtain ⟨v,us',e3,rfl,w⟩:=w
    obtain ⟨v2,f1,g1,g2,g3⟩:=hg.get (join_some e0)
    rw [e3] at g1
    cases g1
    exact ⟨v,us',f1,rfl,g2,Zg6 h hg w e1⟩
  | .o i :: ks,ts,tv,us,f,g,xs,h,hg,w,e=>by simp [resN] at e
def dNI (F:List D → Option D) (ks:List AK):DE:=fun δ=>(dArgs ks δ).bind fun ts δ1=>match resN ks ts δ1 with
  | some xs=>Out.ofO (F xs) δ1
  | none=>.bad
theorem se_ni {ks:List AK} {R:List V → Hp → VK → Prop} {F:List D → Option D} (ho:NOp cl R F) (hr:SQ cl xf W tA ks):SE cl xf W false (tF R tA) (dNI F ks):=by
  refine ⟨fun z=>(by cases z),fun A L B H δ σ Q j k=>hr A L B H δ σ _ j ?_⟩
  unfold dNI at k
  cases e:dArgs ks δ with
  | bad=>rw [e] at k; exact k.elim
  | exc c xs s=>rw [e] at k; exact k
  | ok ts s =>
    rw [e] at k
    simp only [Out.bind] at k
    intro tv vs A1 H1 n1 j1 w
    cases e1:resN ks ts s with
    | none=>rw [e1] at k; exact k.elim
    | some xs =>
      rw [e1] at k
      simp only at k
      obtain ⟨z,e3,k⟩:=Post.ofO k
      obtain ⟨f,g,h1,h2,h3,h4,h5⟩:=j1.ex
      exact ho false A1 L B H1 ts tv s σ xs vs z Q j1 (Zg6 h1 h2 w e1) e3 fun v A2 H2 n2 j2=>k [v] A2 H2 (n1.trans n2) j2 v rfl
variable {X:Cx} {e:Expr} {es:List Expr}
def tAll:List TE → TA
  | []=>tNil
  | t :: ts=>tCons t (tAll ts)
inductive PEs (X:Cx):List Expr → List TE → Prop
  | nil:PEs X [] []
  | cons {e:Expr} {te:TE} {es:List Expr} {tes:List TE}:PE X e te → PEs X es tes → PEs X (e :: es) (te :: tes)
def Rn (cl:Ec) (xf:Nat → List Str) (X:Cx) (W:WX) (es:List Expr) (os:List Od):Prop:=∃ tes,PEs X es tes ∧ SN cl xf W (tAll tes) os
theorem n_nil:Rn cl xf X W [] []:=⟨_,.nil,sn_nil⟩
theorem n_k {pa:PP} {os:List Od} (ha:Rk cl X e pa) (hr:Rn cl xf X W es os):Rn cl xf X W (e :: es) (.k pa :: os):=by
  obtain ⟨te,h1,h2⟩:=ha; obtain ⟨ta,h3,h4⟩:=hr; exact ⟨_,.cons h1 h3,sn_k h2 h4⟩
theorem n_v {da:DE} {os:List Od} (ha:Rd cl xf X W true e da) (hr:Rn cl xf X W es os):Rn cl xf X W (e :: es) (.v da :: os):=by
  obtain ⟨te,h1,h2⟩:=ha; obtain ⟨ta,h3,h4⟩:=hr; exact ⟨_,.cons h1 h3,sn_v h2 h4⟩
def Rz (cl:Ec) (xf:Nat → List Str) (X:Cx) (W:WX) (es:List Expr) (ks:List AK):Prop:=∃ tes,PEs X es tes ∧ SQ cl xf W (tAll tes) ks
theorem z_nil:Rz cl xf X W [] []:=⟨_,.nil,sq_nil⟩
theorem z_v {da:DE} {ks:List AK} (ha:Rd cl xf X W false e da) (hr:Rz cl xf X W es ks):Rz cl xf X W (e :: es) (.v da :: ks):=by
  obtain ⟨te,h1,h2⟩:=ha; obtain ⟨ta,h3,h4⟩:=hr; exact ⟨_,.cons h1 h3,sq_val h2 h4⟩
theorem z_l (i:Nat) {x:Str} {pos:Pos} {ks:List AK} (hr:Rz cl xf X W es ks) (hN:X.N[i]? = some x:=by rfl) (hv:Vis X.env.scope x:=by first | exact Or.inl rfl | exact Or.inr (Or.inl rfl) | exact Or.inr (Or.inr rfl)) (hd:(x == ("__debug__":Str)) = false:=by decide) (hcd:(x == ("__classdict__":Str)) = false:=by decide):Rz cl xf X W (.Name x pos :: es) (.l i :: ks):=by
  obtain ⟨ta,h3,h4⟩:=hr; exact ⟨_,.cons (pe_var hN hv hd hcd) h3,sq_l h4⟩
def BN (X:Cx) (e:Expr) (es:List Expr) (R:List V → Hp → VK → Prop):Prop:=∀ tes,PEs X es tes → PE X e (tF R (tAll tes))
theorem d_n {R:List V → Hp → VK → Prop} {F:List D → Option D} {os:List Od} (o:BN X e es R) (h:NOp cl R F) (hr:Rn cl xf X W es os):Rd cl xf X W p e (dN F os):=by
  obtain ⟨ta,h1,h2⟩:=hr; exact ⟨_,o _ h1,se_n h h2⟩
theorem d_ni {R:List V → Hp → VK → Prop} {F:List D → Option D} {ks:List AK} (o:BN X e es R) (h:NOp cl R F) (hr:Rz cl xf X W es ks):Rd cl xf X W false e (dNI F ks):=by
  obtain ⟨ta,h1,h2⟩:=hr; exact ⟨_,o _ h1,se_ni h h2⟩
end
end Fs
namespace Fs
open PySem PySem.Spec PyProof.Rows L2
section
variable {cl:Ec} {xf:Nat → List Str} {W:WX} {ws:Nat → Bool} {A A' L L' B:Addr → Prop} {H H':Hp} {δ δ':Sl} {σ σ':L2.St} {p q b:Bool} {te ta tb tc:TE} {tA:TA} {tt tu:TT} {t u:TS} {ts:List D} {vs:List V}
def NAlt (cl:Ec) (A L:Addr → Prop) (H:Hp) (r:VK → Prop) (z:D):Prop :=
  (∃ s,z = .v s ∧ sc s = true ∧ ∀ Q:VK,Q s H → r Q) ∨
  (∃ k w ds vs fp o,z = .n k w ds ∧ (w = .own ∨ w = .shr) ∧ ds.all D.kept = true ∧ Rps cl A L H true ds vs fp ∧ Shape cl k 0 vs o ∧ k.mut = true ∧ ∀ Q:VK,(∀ p0,H p0 = none → Q (.ref p0) (upd H p0 o)) → r Q) ∨
  (∃ u fp,z.kept = true ∧ Rp cl A L H true z u fp ∧ ∀ Q:VK,Q u H → r Q)
theorem NAlt.imp {r r':VK → Prop} {z:D} (h:NAlt cl A L H r z) (i:∀ Q,r Q → r' Q):NAlt cl A L H r' z:=by
  rcases h with ⟨s,h1,h2,h3⟩ | ⟨k,w,ds,vs,fp,o,h1,h2,h3,h4,h5,hm,h6⟩ | ⟨u,fp,h1,h2,h3⟩
  · exact .inl ⟨s,h1,h2,fun Q q=>i Q (h3 Q q)⟩
  · exact .inr (.inl ⟨k,w,ds,vs,fp,o,h1,h2,h3,h4,h5,hm,fun Q q=>i Q (h6 Q q)⟩)
  · exact .inr (.inr ⟨u,fp,h1,h2,fun Q q=>i Q (h3 Q q)⟩)
def NA (cl:Ec) (R:List V → Hp → VK → Prop) (F:List D → Option D):Prop:=∀ A L H xs us z,Ad cl A H → RpL cl A L H xs us → F xs = some z → NAlt cl A L H (R us H) z
theorem NAlt.run {ws:List V} {z:D} {r:VK → Prop} {Q:VK} (h:NAlt cl A L H r z) (j:Jt p cl A L B H ts ws δ σ) (k:∀ v A' H',Nx A B H A' H' → Jt p cl A' L B H' [z] [v] δ σ → Q v H'):r Q:=by
  rcases h with ⟨s,rfl,h2,h3⟩ | ⟨kk,w,ds,vs,fp,o,rfl,h2,h3,h4,h5,hm,h6⟩ | ⟨u,fp,h1,h2,h3⟩
  · exact h3 Q (k s A H (Nx.refl j.ba) (j.leaf h2))
  · refine h6 Q fun p0 hp=>?_
    have j2:=j.keptL h3 h4
    rcases h2 with rfl | rfl
    · have h:=j2.alloc (k:=kk) (o:=o) hp (h5.at hm p0) hm
      exact k _ _ _ h.1 h.2
    · have h:=j2.allocS (k:=kk) (o:=o) h3 hp (h5.at hm p0)
      exact k _ _ _ h.1 h.2
  · exact h3 Q (k u A H (Nx.refl j.ba) (j.kept h1 h2))
theorem NA.n {R:List V → Hp → VK → Prop} {F:List D → Option D} (h:NA cl R F):NOp cl R F:=fun p A L B H ts ws δ σ xs us z Q j hr e k=>(h A L H xs us z j.adt hr e).run j k
theorem RpL.one {x:D} {us:List V} (h:RpL cl A L H [x] us):∃ u fp,us = [u] ∧ Rp cl A L H true x u fp:=by
  simp only [RpL] at h
  obtain ⟨u,us',fp,rfl,h1,rfl⟩:=h
  exact ⟨u,fp,rfl,h1⟩
theorem RpL.two {x y:D} {us:List V} (h:RpL cl A L H [x,y] us):∃ u w f1 f2,us = [u,w] ∧ Rp cl A L H true x u f1 ∧ Rp cl A L H true y w f2:=by
  simp only [RpL] at h
  obtain ⟨u,us',fp,rfl,h1,w,us'',fp2,rfl,h2,rfl⟩:=h
  exact ⟨u,w,fp,fp2,rfl,h1,h2⟩
theorem RpL.three {x y z:D} {us:List V} (h:RpL cl A L H [x,y,z] us):∃ u w t f1 f2 f3,us = [u,w,t] ∧ Rp cl A L H true x u f1 ∧ Rp cl A L H true y w f2 ∧ Rp cl A L H true z t f3:=by
  simp only [RpL] at h
  obtain ⟨u,us',fp,rfl,h1,w,us'',fp2,rfl,h2,t,us3,fp3,rfl,h3,rfl⟩:=h
  exact ⟨u,w,t,fp,fp2,fp3,rfl,h1,h2,h3⟩
def rL2 (r:R2):List V → Hp → VK → Prop:=fun us H Q=>match us with | [x,y]=>r x y H Q | _=>False
def rL1 (r:V → Hp → VK → Prop):List V → Hp → VK → Prop:=fun us H Q=>match us with | [x]=>r x H Q | _=>False
theorem GOp.n {r:R2} {f:D → D → Option D} (h:GOp cl r f):NOp cl (rL2 r) (f2 f):=by
  intro p A L B H ts ws δ σ xs us z Q j hr e k
  unfold f2 at e
  split at e
  · rename_i x y
    obtain ⟨u,w,f1,f2,rfl,h1,h2⟩:=hr.two
    exact h p A L B H ts ws δ σ x y u w f1 f2 z Q j h1 h2 e k
  · cases e
theorem GUn.n {r:V → Hp → VK → Prop} {f:D → Option D} (h:GUn cl r f):NOp cl (rL1 r) (f1 f):=by
  intro p A L B H ts ws δ σ xs us z Q j hr e k
  unfold f1 at e
  split at e
  · rename_i x
    obtain ⟨u,fp,rfl,h1⟩:=hr.one
    exact h p A L B H ts ws δ σ x u fp z Q j h1 e k
  · cases e
variable {X:Cx} {e a c:Expr} {es:List Expr} {pos pp:Pos}
theorem b2n {r:R2} {e2:Expr} (o:B2 X e a e2 r):BN X e [a,e2] (rL2 r):=fun tes h=>by
  cases h with
  | cons h1 h=>cases h with
    | cons h2 h=>cases h with
      | nil=>exact o _ _ h1 h2
theorem b1n {r:V → Hp → VK → Prop} (o:B1 X e a r):BN X e [a] (rL1 r):=fun tes h=>by
  cases h with
  | cons h1 h=>cases h with
    | nil=>exact o _ h1
end
end Fs
namespace Fs
open PySem PySem.Spec PyProof.Rows L2
section
variable {cl:Ec} {xf:Nat → List Str} {W:WX} {ws:Nat → Bool} {A A' L L' B:Addr → Prop} {H H':Hp} {δ δ':Sl} {σ σ':L2.St} {p q b:Bool} {te ta tb tc:TE} {tA:TA} {tt tu:TT} {t u:TS} {ts:List D} {vs:List V}
variable {X:Cx} {e a c o:Expr} {es:List Expr} {pos pp p2 apos:Pos}
def seqL:D → Option (List D)
  | .n .lst _ xs=>some xs
  | .s ns=>some (ns.map D.int)
  | _=>none
def seqT:D → Option (List D)
  | .n .tup _ xs=>some xs
  | _=>none
theorem Rp.seqL {x:D} {v:V} {fp:List Addr} {ds:List D} (h:Rp cl A L H true x v fp) (e:Fs.seqL x = some ds):∃ a vs fp',v = .ref a ∧ SqL cl.K H a vs ∧ Rps cl A L H true ds vs fp':=by
  unfold Fs.seqL at e
  split at e
  · cases e
    obtain ⟨a,o,vs,fp',rfl,ho,hs,hr,hf⟩:=h.node
    cases hs
    exact ⟨a,vs,fp',rfl,SqL.of ho,hr⟩
  · rename_i ns
    cases e
    obtain ⟨a,rfl,h2,_,_⟩:=h.scr
    exact ⟨a,ns.map V.int,[],rfl,h2,Rps.ints⟩
  · cases e
theorem Rp.seqT {x:D} {v:V} {fp:List Addr} {ds:List D} (h:Rp cl A L H true x v fp) (e:Fs.seqT x = some ds):∃ a vs fp',v = .ref a ∧ SqT cl.K H a vs ∧ Rps cl A L H true ds vs fp':=by
  unfold Fs.seqT at e
  split at e
  · cases e
    obtain ⟨a,o,vs,fp',rfl,ho,hs,hr,hf⟩:=h.node
    cases hs
    exact ⟨a,vs,fp',rfl,SqT.of ho,hr⟩
  · cases e
def cutD {α:Type} (xs:List α) (lo hi:Option Int):List α:=(xs.drop (HT.sIx xs.length 0 lo)).take (HT.sIx xs.length xs.length hi - HT.sIx xs.length 0 lo)
def partD:D → Option (Option Int)
  | .v .non=>some none
  | .v (.int i)=>some (some i)
  | _=>none
def partV:V → Option Int
  | .int i=>some i
  | _=>none
theorem Rps.drop:∀ {ds:List D} {vs:List V} {fp:List Addr} (n:Nat),Rps cl A L H b ds vs fp → ∃ fp',Rps cl A L H b (ds.drop n) (vs.drop n) fp'
  | [],vs,fp,n,h=>by
    simp only [Rps] at h
    rw [h.1,List.drop_nil,List.drop_nil]
    exact ⟨[],by simp [Rps]⟩
  | d :: ds,vs,fp,0,h=>⟨fp,h⟩
  | d :: ds,vs,fp,n + 1,h=>by
    simp only [Rps] at h
    obtain ⟨v,vs',f1,f2,rfl,rfl,h3,h4⟩:=h
    exact h4.drop n
theorem Rps.take:∀ {ds:List D} {vs:List V} {fp:List Addr} (n:Nat),Rps cl A L H b ds vs fp → ∃ fp',Rps cl A L H b (ds.take n) (vs.take n) fp'
  | [],vs,fp,n,h=>by
    simp only [Rps] at h
    rw [h.1,List.take_nil,List.take_nil]
    exact ⟨[],by simp [Rps]⟩
  | d :: ds,vs,fp,0,h=>⟨[],by simp [Rps]⟩
  | d :: ds,vs,fp,n + 1,h=>by
    simp only [Rps] at h
    obtain ⟨v,vs',f1,f2,rfl,rfl,h3,h4⟩:=h
    obtain ⟨f,h5⟩:=h4.take n
    refine ⟨f1 ++ f,?_⟩
    simp only [List.take_succ_cons,Rps]
    exact ⟨v,_,f1,f,rfl,rfl,h3,h5⟩
theorem Rps.cut {ds:List D} {fp:List Addr} {lo hi:Option Int} (h:Rps cl A L H b ds vs fp):∃ fp',Rps cl A L H b (cutD ds lo hi) (cutV vs lo hi) fp':=by
  obtain ⟨f1,h1⟩:=h.drop (HT.sIx vs.length 0 lo)
  obtain ⟨f2,h2⟩:=h1.take (HT.sIx vs.length vs.length hi - HT.sIx vs.length 0 lo)
  refine ⟨f2,?_⟩
  unfold cutD cutV
  rw [h.length]
  exact h2
theorem Zhu {f:D → Bool} {ds:List D} {lo hi:Option Int} (h:ds.all f = true):(cutD ds lo hi).all f = true:=by
  rw [List.all_eq_true] at h ⊢
  intro x hx
  exact h x (List.mem_of_mem_drop (List.mem_of_mem_take hx))
def slD:List D → Option D
  | [x,l,h]=>(partD l).bind fun lo=>(partD h).bind fun hi=>match x with
    | .v (.str z)=>if z.length ≤ 100000 then some (.str (cutS z lo hi)) else none
    | .n .lst _ xs=>if xs.all D.kept then some (.n .lst .own (cutD xs lo hi)) else none
    | .s ns=>some (.n .lst .own (cutD (ns.map D.int) lo hi))
    | .n .tup .shr xs=>if xs.all D.kept then some (.n .tup .shr (cutD xs lo hi)) else none
    | _=>none
  | _=>none
def rSlAll (K:PySem.W.Frag):V → Option Int → Option Int → Hp → VK → Prop:=fun x lo hi H Q=>rSlS x lo hi H Q ∨ rSlL K x lo hi H Q ∨ rSlA K x lo hi H Q
theorem sl_all:SlR X (rSlAll X.K):=SlR.or sl_str (SlR.or sl_list sl_tupA)
def rL3 (r:V → Option Int → Option Int → Hp → VK → Prop):List V → Hp → VK → Prop:=fun us H Q=>match us with | [x,l,h]=>r x (partV l) (partV h) H Q | _=>False
theorem ZhI {x:D} {v:V} {fp:List Addr} {i:Option Int} (h:Rp cl A L H true x v fp) (e:partD x = some i):partV v = i:=by
  unfold partD at e
  split at e
  · cases e; obtain ⟨rfl,_,_⟩:=h.leafv; rfl
  · cases e; obtain ⟨rfl,_,_⟩:=h.leafv; rfl
  · cases e
theorem Zif {α:Type} {xs:List α} {lo hi:Option Int} (h:HT.sIx xs.length 0 lo = 0 ∧ HT.sIx xs.length xs.length hi = xs.length):cutD xs lo hi = xs:=by
  unfold cutD
  rw [h.1,h.2]
  simp
theorem na_sl:NA cl (rL3 (rSlAll cl.K)) slD:=by
  intro A L H xs us z ad hr e
  unfold slD at e
  split at e
  · rename_i x l h
    obtain ⟨u,w,t,f1,f2,f3,rfl,h1,h2,h3⟩:=hr.three
    obtain ⟨lo,e1,e3⟩:=Option.bind_eq_some_iff.mp e
    obtain ⟨hi,e2,e4⟩:=Option.bind_eq_some_iff.mp e3
    clear e e3
    have e:=e4
    clear e4
    have p1:=ZhI h2 e1
    have p2:=ZhI h3 e2
    subst p1 p2
    split at e
    · rename_i z'
      split at e
      · rename_i hl
        cases e
        obtain ⟨rfl,_,_⟩:=h1.leafv
        exact .inl ⟨_,rfl,rfl,fun Q q=>.inl ⟨z',rfl,sz_of hl,q⟩⟩
      · cases e
    · rename_i w' ys
      split at e
      · rename_i hk
        cases e
        obtain ⟨a,vs,fp',rfl,ho,hr⟩:=h1.seqL rfl
        obtain ⟨fp2,h4⟩:=hr.cut (lo:=partV w) (hi:=partV t)
        exact .inr (.inl ⟨.lst,.own,_,_,fp2,_,rfl,.inl rfl,Zhu hk,h4,rfl,rfl,fun Q q=>.inr (.inl ⟨a,vs,rfl,ho,q⟩)⟩)
      · cases e
    · rename_i ns
      cases e
      obtain ⟨a,vs,fp',rfl,ho,hr⟩:=h1.seqL rfl
      obtain ⟨fp2,h4⟩:=hr.cut (lo:=partV w) (hi:=partV t)
      exact .inr (.inl ⟨.lst,.own,_,_,fp2,_,rfl,.inl rfl,Zhu (by simp [D.kept]),h4,rfl,rfl,fun Q q=>.inr (.inl ⟨a,vs,rfl,ho,q⟩)⟩)
    · rename_i ys
      split at e
      · rename_i hk
        cases e
        obtain ⟨a,vs,fp',rfl,ho,hr⟩:=h1.seqT rfl
        have hlen:=hr.length
        by_cases hw:HT.sIx ys.length 0 (partV w) = 0 ∧ HT.sIx ys.length ys.length (partV t) = ys.length
        · rw [Zif hw]
          refine .inr (.inr ⟨.ref a,f1,rfl,h1,fun Q q=>.inr (.inr ⟨a,vs,rfl,ho,fun _=>q,fun n=>absurd ?_ n⟩)⟩)
          rw [← hlen]; exact hw
        · obtain ⟨fp2,h4⟩:=hr.cut (lo:=partV w) (hi:=partV t)
          refine .inr (.inl ⟨.tup,.shr,_,_,fp2,_,rfl,.inr rfl,Zhu hk,h4,rfl,rfl,fun Q q=>.inr (.inr ⟨a,vs,rfl,ho,fun n=>absurd ?_ hw,fun _=>q⟩)⟩)
          rw [hlen]; exact n
      · cases e
    · cases e
  · cases e
def intP:D → Option D | .v (.int i)=>some (.v (.int i)) | _=>none
def rInt:V → Hp → VK → Prop:=fun x H Q=>∃ i,x = .int i ∧ Q (.int i) H
theorem Zj1:PUn cl rInt intP:=by
  intro A L H x u f1 z Q h e k
  unfold intP at e
  split at e
  · rename_i i
    cases e
    obtain ⟨rfl,rfl,hs⟩:=h.leafv
    exact ⟨i,rfl,k _ [] (Rp.leaf rfl) (by simp)⟩
  · cases e
def RoP (cl:Ec) (xf:Nat → List Str) (X:Cx) (W:WX) (lo:Option Expr) (od:Od):Prop:=∃ tl te,PO X lo tl ∧ (tl = fun σ H Q=>te σ H fun x H1=>Q (partV x) H1) ∧ ∀ tA os,SN cl xf W tA os → SN cl xf W (tCons te tA) (od :: os)
theorem ZkZ:RoP cl xf X W none (.k (pC .non)):=⟨_,tC .non,po_none,rfl,fun tA os h=>sn_k (sp_c rfl) h⟩
theorem ro_k {pa:PP} (h:Rk cl X e pa):RoP cl xf X W (some e) (.k (pUn intP pa)):=by
  obtain ⟨te,h1,h2⟩:=h
  exact ⟨_,_,po_some h1,rfl,fun tA os h=>sn_k (sp_un Zj1 h2) h⟩
def RoB (cl:Ec) (xf:Nat → List Str) (X:Cx) (W:WX) (e:Expr) (od:Od):Prop:=∃ te,PE X e te ∧ ∀ tA os,SN cl xf W tA os → SN cl xf W (tCons te tA) (od :: os)
theorem rb_k {pa:PP} (h:Rk cl X e pa):RoB cl xf X W e (.k pa):=by obtain ⟨te,h1,h2⟩:=h; exact ⟨te,h1,fun _ _ h=>sn_k h2 h⟩
theorem d_sl {lo hi:Option Expr} {ob ol oh:Od} (hK:X.K = cl.K) (hb:RoB cl xf X W e ob) (hl:RoP cl xf X W lo ol) (hh:RoP cl xf X W hi oh):Rd cl xf X W p (.Subscript e (.Slice lo hi none p2) pos) (dN slD [ob,ol,oh]):=by
  obtain ⟨te,h1,h2⟩:=hb
  obtain ⟨tl,tl',h3,rfl,h4⟩:=hl
  obtain ⟨th,th',h5,rfl,h6⟩:=hh
  have hn:=se_n (xf:=xf) (W:=W) (p:=p) na_sl.n (h2 _ _ (h4 _ _ (h6 _ _ sn_nil)))
  exact ⟨_,pe_slice (r:=rSlAll cl.K) (by rw [← hK]; exact sl_all) h1 h3 h5,hn⟩
end
end Fs
set_option maxHeartbeats 2000000
namespace Fs
open PySem PySem.Spec PyProof.Rows L2
def spMk (C:Addr) (sp:Sp):Sp:=fun vs H Q E=>∀ x dx,H x = none → H dx = none → dx ≠ x → sp (.ref x :: vs) (upd (upd H dx (.own x)) x (.ins C dx [])) (fun v H2=>v = .non ∧ Q (.ref x) H2) E
def mkOut:Out D → Out D
  | .ok (.v .non) (some o :: ios)=>if o.free then .ok o ios else .bad
  | .exc c' xs (_ :: ios)=>.exc c' xs ios
  | _=>.bad
def mkF (c:Nat) (F:List D → Out D):List D → Out D:=fun ds=>mkOut (F (.n (.obj c []) .own [] :: ds))
theorem Zkd {d:D} {ios:Sl}:mkOut (.ok d ios) = .bad ∨ ∃ o rest,d = .v .non ∧ ios = some o :: rest ∧ o.free = true ∧ mkOut (.ok d ios) = .ok o rest:=by
  unfold mkOut
  split
  · rename_i o rest eq
    cases eq
    by_cases h:o.free = true
    · rw [if_pos h]; exact .inr ⟨o,rest,rfl,rfl,h,rfl⟩
    · rw [if_neg h]; exact .inl rfl
  · rename_i eq; cases eq
  · exact .inl rfl
section
variable {cl:Ec} {xf:Nat → List Str} {X:Cx} {W:WX} {ws:Nat → Bool} {A L B:Addr → Prop} {H:Hp} {b p:Bool} {tA:TA} {δ:Sl} {σ:L2.St}
theorem ZkH {c np:Nat} {F:List D → Out D}:∀ vs H Q E,spF cl xf np (mkF c F) vs H Q E → spMk (cl.c c) (spF cl xf (np + 1) F) vs H Q E:=by
  intro vs H Q E h x dx hx hdx ne
  obtain ⟨A,L,B,ds,j,hl,k⟩:=h
  obtain ⟨f0,g,h1,h2,h3,h4,h5⟩:=j.ex
  simp only [Rps] at h1
  obtain ⟨_,rfl⟩:=h1
  have up:∀ a,H a ≠ none → upd (upd H dx (.own x)) x (.ins (cl.c c) dx []) a = H a:=fun a h=>by
    rw [upd_ne (fun z=>h (by rw [z]; exact hx)),upd_ne (fun z=>h (by rw [z]; exact hdx))]
  have nx:Nx A B H (fun a=>A a ∨ a = x) (upd (upd H dx (.own x)) x (.ins (cl.c c) dx [])):=by
    refine ⟨fun a h=>h.elim .inl fun z=>.inr (by rw [z]; exact hx),fun a o h _ _=>by rw [up a (by rw [h]; simp)]; exact h,fun a h=>⟨up a (j.ad a (j.ba a h)),.inl (j.ba a h)⟩,fun a h=>?_⟩
    cases z:H a with
    | none=>rfl
    | some o=>rw [up a (by rw [z]; simp),z] at h; cases h
  have gA:∀ a ∈ g,A a:=fun a ha=>(h2.inA a ha).1
  have xg:x ∉ g:=fun z=>j.ad x (gA x z) hx
  have xA:¬ A x:=fun z=>j.ad x z hx
  have jc:Jt false cl (fun a=>A a ∨ a = x) L B (upd (upd H dx (.own x)) x (.ins (cl.c c) dx [])) [] [] ((.n (.obj c []) .own [] :: ds).map some) ((V.ref x :: vs).map some):=by
    refine ⟨⟨[],x :: g,by simp [Rps],?_,by simpa [xg] using h3,by simp,fun _ a ha q=>?_⟩,j.lb,fun a h=>.inl (j.ba a h),fun a h=>?_,j.tb.grow (fun b u e=>by rw [up b (by rw [e]; simp)]; exact e) fun b hb=>hb.imp id fun e=>by rw [e]; assumption⟩
    · simp only [List.map_cons,Rpo]
      refine ⟨.ref x,_,[x],g,rfl,by simp,?_,?_⟩
      · simp only [Rp]
        exact ⟨x,_,[],rfl,upd_same,.inl ⟨⟨rfl,dx,rfl⟩,fun _=>rfl⟩,.inr rfl,[],rfl,by simp [Rps]⟩
      · exact h2.step nx.both (fun a ha=>⟨up a (j.ad a (gA a ha)),.inl (gA a ha)⟩) (fun a hl=>⟨up a (j.ad a (j.ba a (j.lb a hl))),hl⟩)
    · rcases List.mem_cons.mp ha with z | z
      · rw [z] at q; exact xA (j.ba _ q)
      · exact h5 rfl a z q
    · rcases h with h | h
      · rw [up a (j.ad a h)]; exact j.ad a h
      · rw [h,upd_same]; simp
  refine ⟨_,L,B,_,jc,by simp [hl],?_⟩
  unfold mkF at k
  cases e2:F (.n (.obj c []) .own [] :: ds) with
  | bad=>rw [e2] at k; exact k.elim
  | exc c' xs ios =>
    rw [e2] at k
    intro d us' A2 H2 n2 x2 j2
    cases ios with
    | nil=>exact k.elim
    | cons o ios =>
      refine k d us' A2 H2 (nx.trans n2) x2 ?_
      obtain ⟨f2,g2,q1,q2,q3,q4,q5⟩:=j2.ex
      have nd:=List.nodup_append.mp q3
      cases o with
      | none =>
        simp only [List.map_cons,Rpo] at q2
        obtain ⟨y,σ',e3,q2⟩:=q2
        cases e3
        exact ⟨⟨f2,g2,q1,q2,q3,q4,q5⟩,j2.lb,j2.ba,j2.ad,j2.tb⟩
      | some o =>
        simp only [List.map_cons,Rpo] at q2
        obtain ⟨vx,σ',g3,g4,e3,rfl,q6,q7⟩:=q2
        cases e3
        exact ⟨⟨f2,g4,q1,q7,List.nodup_append.mpr ⟨nd.1,(List.nodup_append.mp nd.2.1).2.1,fun a ha c hc=>nd.2.2 a ha c (List.mem_append_right _ hc)⟩,q4,fun hp a ha=>q5 hp a (List.mem_append_right _ ha)⟩,j2.lb,j2.ba,j2.ad,j2.tb⟩
  | ok d ios =>
    rw [e2] at k
    intro v A2 H2 n2 j2
    rcases Zkd (d:=d) (ios:=ios) with hb | ⟨o,rest,rfl,rfl,hfr,hb⟩
    · rw [hb] at k; exact k.elim
    · rw [hb] at k
      obtain ⟨f2,g2,q1,q2,q3,q4,q5⟩:=j2.ex
      obtain ⟨u,_,e0,h1⟩:=j2.one
      cases e0
      simp only [List.map_cons,Rpo] at q2
      obtain ⟨vx,σ',g3,g4,e3,rfl,q6,q7⟩:=q2
      simp only [List.cons.injEq,Option.some.injEq] at e3
      obtain ⟨rfl,rfl⟩:=e3
      have nd:=List.nodup_append.mp q3
      refine ⟨h1.leafv.1,k (.ref x) A2 H2 (nx.trans n2) ⟨⟨g3,g4,?_,q7,nd.2.1,fun a ha=>q5 rfl a (List.mem_append_left _ ha),fun hp a ha=>q5 hp a (List.mem_append_right _ ha)⟩,j2.lb,j2.ba,j2.ad,j2.tb⟩⟩
      simp only [Rps]
      exact ⟨_,[],g3,[],rfl,by simp,q6.free hfr,rfl,rfl⟩
variable {e o:Expr} {es:List Expr} {pos pp apos:Pos} {k mm np c:Nat} {x m:Str} {F:List D → Out D} {da':DA} {pa:PP} {da:DE}
theorem d_mk (M:Kc cl xf X.prog X.w X.K X.mg X.base x c k (np + 1) F) (hr:RoomG mm X.A) (hkm:k + 1 ≤ mm) (tk:Takes X W) (ha:Rc cl xf X W (e :: es) da') (hn:DL np da') (hg:Gl X x:=by rfl)
    (hdb:(x == ("__debug__":Str)) = false:=by decide) (he:starEach (e :: es) X.env = (false,eval e X.env) :: starEach es X.env:=by rfl) (hpl:(backTo pos (starEach es X.env)).any (·.1) = false:=by rfl):Rd cl xf X W p (.Call (.Name x pp) (e :: es) [] pos) (dCall (mkF c F) da'):=by
  obtain ⟨ta,h1,h2⟩:=ha
  obtain ⟨f,fd,ps,hF,hM,hb⟩:=M.ex
  exact ⟨_,Zj3 hM hF (hr.mono hkm) hg M.mgx hb (fun σ=>passAt tk σ) h1 hdb he hpl,(ZhD (sp:=spMk (cl.c c) (spF cl xf (np + 1) F)) ZkH h2 hn).to⟩
end
end Fs
set_option maxHeartbeats 2000000
namespace Rm
open PySem PySem.W PySem.Spec PyProof.Rows L2
section
variable {prog:Program} {w:World} {A:Around} {E:Value → Shared → Prop} {s:Shared} {T:String} {r d:Addr} {n:Nat} {P:Nat → Value → Prop} {OK:Heap → Prop}
theorem Zht {Q:List Value → Shared → Prop} (K:KdlSrc prog w T r d n P OK) (hh:A.handled = none) (hok:OK s.heap) (hn:n ≤ sizeLine)
    (hQ:∀ (h':Heap) (tk:Nat) (acc:Array Value),(∀ b o,s.heap.get? b = some o → h'.get? b = some o) → ItemsOf P acc n → Q acc.toList { s with heap:=h',toks:=tk }) :
    wpAny (model prog w) A (collect (.ref r)) Q E s:=by
  unfold collect
  refine wpAny_bind (wpAny_runValue (codeAny_builtin F.entry_proto_collect ?_))
  rw [Around.under_plainId F.plain_proto_collect _]
  show wpAny _ A.in1 (newList [] >>= fun l=>again (.builtin "list.__iadd__" ⟨[l,.ref r],[]⟩)) _ _ s
  refine wpAny_bind (wpAny_newObj_type ?_)
  refine wpAny_pure ⟨plainId_quiet F.plain_list_iadd _,codeAny_builtin F.entry_list_iadd ?_⟩
  rw [Around.under_plainId F.plain_list_iadd _]
  show wpAny _ A.in1 (Builtin.List.listExtendWith (.ref s.heap.objs.size) (.ref r) (.ref s.heap.objs.size)) _ _ _
  have hS:(s.heap.push { cls:=.type "list",data:=.seq ([]:List Value).toArray }).get? s.heap.objs.size = some { cls:=.type "list",data:=.seq #[] 0 }:=Heap.get?_push_size _ rfl
  have hlt:=K.there _ hok
  refine wpAny_mono (kdl_extend (A:=A) (R:=fun rr s'=>rr = .ok (.ret (.ref s.heap.objs.size)) ∧ ∃ (h':Heap) (tk:Nat) (acc:Array Value) (c':Nat),s' = { s with heap:=h',toks:=tk } ∧
      (∀ b o,s.heap.get? b = some o → h'.get? b = some o) ∧ h'.get? s.heap.objs.size = some { cls:=.type "list",dict:=none,data:=.seq acc c',slots:=#[] } ∧ ItemsOf P acc n)
    (s:={ s with heap:=s.heap.push { cls:=.type "list",data:=.seq ([]:List Value).toArray } }) K hh (K.keep _ _ hok fun b _ o e=>Heap.get?_push_of_some _ e) _ (Nat.ne_of_gt hlt.1) (Nat.ne_of_gt hlt.2) _ 0 hS
    (fun h' tk acc c' hk e hi=>⟨rfl,h',tk,acc,c',rfl,fun b o q=>hk b o (Nat.ne_of_lt (Heap.lt_size q)) (Heap.get?_push_of_some _ q),e,hi⟩) hn) (fun fin s' h=>?_) (fun e s' h=>?_)
  · cases fin with
    | done f =>
      obtain ⟨e,h',tk,acc,c',rfl,hk,hS',hi⟩:=h
      cases e
      show wpAny _ A (load s.heap.objs.size >>= _) _ _ _
      exact wpAny_bind (wpAny_load hS' (wpAny_pure (hQ h' tk acc hk hi)))
    | again c' =>
      refine ⟨h.1,codeAny_mono h.2 fun rr s'' hr'=>?_⟩
      obtain ⟨rfl,h',tk,acc,c',rfl,hk,hS',hi⟩:=hr'
      show wpAny _ A (load s.heap.objs.size >>= _) _ _ _
      exact wpAny_bind (wpAny_load hS' (wpAny_pure (hQ h' tk acc hk hi)))
  · exact absurd h.1 (by simp)
theorem Zfs {Q₁:Value → Shared → Prop} (K:KdlSrc prog w T r d n P OK) (hh:A.handled = none) (hok:OK s.heap) (hn:n ≤ sizeLine) (hT:(Value.type T == Value.type "tuple") = false)
    (h:∀ (h':Heap) (tk:Nat) (acc:Array Value),(∀ b o,s.heap.get? b = some o → h'.get? b = some o) → ItemsOf P acc n →
      Q₁ (.ref h'.objs.size) { s with heap:=h'.push { cls:=.type "tuple",data:=.seq acc },toks:=tk }) :
    codeAny (model prog w) A (.call (.builtin "tuple.__new__") ⟨[.type "tuple",.ref r],[]⟩) (wants Q₁ E) s:=by
  refine codeAny_of_tree ?_
  show wpAny _ A.in1 (do checkBuiltinCall "tuple.__new__" ⟨[.type "tuple",.ref r],[]⟩; again (.builtin "tuple.__new__" ⟨[.type "tuple",.ref r],[]⟩)) _ _ s
  refine wpAny_bind (wpAny_of_eq (F.newCall_tuple_1 _) (wpAny_pure ⟨plainId_quiet F.plain_tuple_new _,codeAny_builtin F.entry_tuple_new ?_⟩))
  rw [Around.under_plainId F.plain_tuple_new _]
  have hsub:=sub_tuple_self
  have hinit:=init_tuple_lookup
  have hmh:=madeHere_tuple
  have hTI:s.TypeIs (.ref r) T:=K.type s hok
  have hh1:A.in1.handled = none:=hh
  wp_walk using wpAny_typeOf hTI,Zht (A:=A.in1) K hh1 hok hn
  intro h' tk acc hk hacc
  show wpAny _ _ (Builtin.Tuple.tupleExact acc.toList.toArray >>= fun v=>ret v) _ _ _
  unfold Builtin.Tuple.tupleExact
  refine wpAny_bind (wpAny_newObj_type ?_ (by show acc.toList.toArray.size ≤ sizeLine; simp only [Array.toArray_toList]; rw [hacc.1]; exact hn))
  refine wpAny_pure ?_
  have e:acc.toList.toArray = acc:=by simp
  rw [e]
  exact h h' tk acc hk hacc
theorem Zft {Q:Value → Shared → Prop} (K:KdlSrc prog w T r d n P OK) (hh:A.handled = none) (hok:OK s.heap) (hn:n ≤ sizeLine) (hT:(Value.type T == Value.type "tuple") = false)
    (hQ:∀ (h':Heap) (tk:Nat) (acc:Array Value),(∀ b o,s.heap.get? b = some o → h'.get? b = some o) → ItemsOf P acc n →
      Q (.ref h'.objs.size) { s with heap:=h'.push { cls:=.type "tuple",data:=.seq acc },toks:=tk }) :
    wpAny (model prog w) A (call (.type "tuple") [.ref r]) Q E s:=by
  refine callType_codes (Q₁:=fun obj s₁=>s₁.TypeIs obj "tuple" ∧ Q obj s₁) F.called_tuple (F.typeCall_tuple_1 _) F.entry_object_init
    (Zfs (A:=A.in1) K hh hok hn hT fun h' tk acc hk hacc=>⟨⟨_,Heap.get?_push_size _ rfl,rfl⟩,hQ h' tk acc hk hacc⟩) fun obj s₁ h₁=>?_
  exact ⟨h₁.1,F.args_object_init_2 obj _,object_init_meets F.called_tuple.init.lookup F.called_tuple.made (by decide) prog w A.in1 _ s₁ ⟨h₁.1,rfl,h₁.2⟩⟩
end
theorem ZjJ {kvs:List (Key × V)} {vs:List (Key × Value)} (r:KV kvs vs):Vals (kvs.map (·.2)) (vs.map (·.2)):=by
  unfold KV at r
  induction r with
  | nil=>exact .nil
  | cons h _ ih=>exact .cons h.2 ih
theorem Zjb {vs:List (Key × Value)} {acc:Array Value} (h:ItemsOf (fun i v=>∃ k,vs[i]? = some (k,v)) acc vs.length):acc.toList = vs.map (·.2) :=
  kdl_vals_eq acc.toList (by rw [Array.length_toList]; exact h.1) fun j v e=>h.2 j v (by rw [← Array.getElem?_toList]; exact e)
def rValsT:V → Hp → VK → Prop:=fun x H Q=>∃ (d:Addr) (kvs:List (Key × V)),x = .ref d ∧ L2.Rd H d (.dK kvs) ∧ ∀ p,H p = none → Q (.ref p) (upd H p (.tup (kvs.map Prod.snd)))
section
variable {X:Cx} {e:Expr} {te:TE} {p apos cpos pos:Pos}
theorem pe_tupVals (hc:X.calm = true) (he:PE X e te) (hg:Gl X "tuple") (hm:X.mg "tuple" = none) (hv:bootBuiltins "tuple" = some (.type "tuple")) (hbase:attributeBase e "values" X.env (eval e X.env) = eval e X.env:=by rfl) (hline:(apos.endLine == cpos.line) = true:=by rfl)
    (hs:starEach [.Call (.Attribute e "values" apos) [] [] cpos] X.env = (false,eval (.Call (.Attribute e "values" apos) [] [] cpos) X.env) :: starEach [] X.env:=by rfl) :
    PE X (.Call (.Name "tuple" p) [.Call (.Attribute e "values" apos) [] [] cpos] [] pos) (tUn rValsT te):=by
  refine ⟨fun pins s σ H Q I hq=>?_⟩
  refine wpAny_Call_Name_kw (ld_blt I hg hm hv ?_)
  refine PyProof.Rows.callWith_type1 ?_ hs rfl
  rw [hs]
  show wpAny _ _ (spliced ((false,eval (.Call (.Attribute e "values" apos) [] [] cpos) X.env) :: backTo pos (starEach [] X.env))) _ _ s
  refine Calls.spliced_cons ?_
  refine wpAny_Call_method (T:="dict") (id:="dict.values") hbase rfl hline F.plainAttrs_dict F.slot_dict_values F.type_dict_values (thn (he.run pins s σ H _ I hq) fun u s1 ⟨x,H1,I1,rx,d,kvs,ex,hd,q⟩=>?_)
  subst ex
  obtain rfl:u = Value.ref d:=rx
  obtain ⟨hz,hs0,vs,kv,hdo⟩:=dk_rd I1.hok hd
  obtain ⟨ep,hat⟩:=hdo.dictAt
  have lk:kvs.length = vs.length:=Paired.length kv
  have I2:Inv X pins σ H1 { s1 with heap:=s1.heap.push { cls:=.type "dict_values",data:=.fields #[.ref d] } }:=I1.kept (t':=s1.toks) fun b ob q=>Heap.get?_push_of_some _ q
  refine ⟨hdo.typeIs,hdo.mapOf.noDict,?_⟩
  show wpAny _ _ (callWith cpos (.builtin "dict.values") [.ref d] [] []) _ X.xe s1
  refine method_meetsIn F.slot_dict_values F.entry_dict_values rfl (PySem.evalArgs_none ⟨rfl,hdo.typeIs,F.args_dict_values_1 _,_,meets_dict_values (mixKind X.prog X.w) d hs0,⟨vs,hdo⟩,?_⟩)
  refine Calls.spliced_nil ?_
  refine Zft (kdl_values (knd:=mixKind X.prog X.w) (kvs:=vs) (ep:=ep)) (I1.ok.hd hc) ⟨⟨_,Heap.get?_push_size _ rfl,rfl,rfl⟩,hat.push _⟩ (by omega) (by decide) fun h' tk acc hk hacc=>?_
  have ea:=Zjb hacc
  have I3:Inv X pins σ H1 { s1 with heap:=h',toks:=tk }:=I2.kept (t':=tk) hk
  refine ⟨.ref _,_,I3.laid (t':=tk) (o:=.tup (kvs.map Prod.snd)) (fun b o e=>Heap.get?_push_of_some _ e) (Nat.le_refl _) ⟨by rw [List.length_map]; exact hz,acc.toList,by rw [ea]; exact ZjJ kv,?_⟩,rfl,q _ (I3.hok.fresh (Nat.le_refl _))⟩
  rw [Array.toArray_toList]
  exact IsTup.new h' acc
end
end Rm
set_option maxHeartbeats 2000000
set_option maxHeartbeats 4000000
namespace Rm
open PySem PySem.W PySem.Spec PyProof.Rows L2
abbrev nSet (wo:World):Obj:={ cls:=.type "set",dict:=none,data:=.set #[] 0 (.fresh 0 0 (!wo.params.followText "set-order")) }
end Rm
namespace Fs
open PySem PySem.Spec PyProof.Rows L2
def insU (x:Int):List Int → List Int
  | []=>[x]
  | y :: ys=>if x < y then x :: y :: ys else if x = y then y :: ys else y :: insU x ys
def sset (ns:List Int):List Int:=ns.foldr insU []
def maxI:List Int → Option Int
  | []=>none
  | n :: ns=>match maxI ns with
    | none=>some n
    | some m=>some (if n ≤ m then m else n)
section
variable {cl:Ec} {xf:Nat → List Str} {W:WX} {ws:Nat → Bool} {A A' L L' B:Addr → Prop} {H H':Hp} {δ δ':Sl} {σ σ':L2.St} {p q b:Bool} {te ta tb tc:TE} {tA:TA} {tt tu:TT} {t u:TS} {ts:List D} {vs:List V}
variable {X:Cx} {e a c o:Expr} {es:List Expr} {pos pp p2 apos:Pos}
theorem NA.one {r:V → Hp → VK → Prop} {f:D → Option D} (h:∀ A L H x u fp z,Ad cl A H → Rp cl A L H true x u fp → f x = some z → NAlt cl A L H (r u H) z):NA cl (rL1 r) (f1 f):=by
  intro A L H xs us z ad hr e
  unfold f1 at e
  split at e
  · obtain ⟨u,fp,rfl,h1⟩:=hr.one
    exact h A L H _ u fp z ad h1 e
  · cases e
theorem NA.two {r:R2} {f:D → D → Option D} (h:∀ A L H x y u w fp gp z,Ad cl A H → Rp cl A L H true x u fp → Rp cl A L H true y w gp → f x y = some z → NAlt cl A L H (r u w H) z):NA cl (rL2 r) (f2 f):=by
  intro A L H xs us z ad hr e
  unfold f2 at e
  split at e
  · obtain ⟨u,w,fp,gp,rfl,h1,h2⟩:=hr.two
    exact h A L H _ _ u w fp gp z ad h1 h2 e
  · cases e
theorem NAlt.sc {s:V} {r:VK → Prop} (hs:sc s = true) (h:∀ Q:VK,Q s H → r Q):NAlt cl A L H r (.v s):=.inl ⟨s,rfl,hs,h⟩
theorem NAlt.new {k:Kd} {w:Fl} {ds:List D} {vs:List V} {fp:List Addr} {o:HO} {r:VK → Prop} (hw:w = .own ∨ w = .shr) (hk:ds.all D.kept = true) (hr:Rps cl A L H true ds vs fp) (hs:Shape cl k 0 vs o) (h:∀ Q:VK,(∀ p0,H p0 = none → Q (.ref p0) (upd H p0 o)) → r Q) (hm:k.mut = true:=by rfl):NAlt cl A L H r (.n k w ds):=.inr (.inl ⟨k,w,ds,vs,fp,o,rfl,hw,hk,hr,hs,hm,h⟩)
theorem NAlt.old {z:D} {u:V} {fp:List Addr} {r:VK → Prop} (hk:z.kept = true) (hr:Rp cl A L H true z u fp) (h:∀ Q:VK,Q u H → r Q):NAlt cl A L H r z:=.inr (.inr ⟨u,fp,hk,hr,h⟩)
theorem Ze8 (ns:List Int):(ns.map D.int).all D.kept = true:=by simp [D.kept]
def keyDv:Key → D
  | .inl i=>.int i
  | .inr x=>.str x
theorem ZhO:∀ (ks:List Key),Rps cl A L H b (ks.map keyDv) (ks.map kV) []
  | []=>by simp [Rps]
  | k :: ks=>by
    simp only [List.map_cons,Rps]
    refine ⟨kV k,_,[],[],rfl,rfl,?_,ZhO ks⟩
    cases k <;> exact Rp.leaf rfl
theorem Zi7 (ks:List Key):(ks.map keyDv).all D.kept = true:=by
  rw [List.all_eq_true]
  intro x hx
  obtain ⟨k,_,rfl⟩:=List.mem_map.mp hx
  cases k <;> rfl
def listD (x:D):Option D:=match x with
  | .n .lst _ xs=>if xs.all D.kept then some (.n .lst .own xs) else none
  | .n .tup _ xs=>if xs.all D.kept then some (.n .lst .own xs) else none
  | .s ns=>some (.n .lst .own (ns.map D.int))
  | .n (.dct ks) _ _=>some (.n .lst .own (ks.map keyDv))
  | _=>none
theorem Zit:∀ {α β:Type} (ks:List α) (vs:List β),ks.length = vs.length → (ks.zip vs).map (·.1) = ks
  | _,_,[],[],_=>rfl
  | _,_,[],_ :: _,h=>by cases h
  | _,_,_ :: _,[],h=>by cases h
  | _,_,k :: ks,v :: vs,h=>by simp [Zit ks vs (by simpa using h)]
theorem ZeM:∀ {α β:Type} (ks:List α) (vs:List β),ks.length = vs.length → (ks.zip vs).map Prod.snd = vs
  | _,_,[],[],_=>rfl
  | _,_,[],_ :: _,h=>by cases h
  | _,_,_ :: _,[],h=>by cases h
  | _,_,k :: ks,v :: vs,h=>by simp [ZeM ks vs (by simpa using h)]
def rListR:List V → Hp → VK → Prop:=fun xs H Q=>∃ (a:Addr) (kvs:List (Key × V)),xs = [.ref a] ∧ L2.Rd H a (.dK kvs) ∧ ∀ p,H p = none → Q (.ref p) (upd H p (.lst (kvs.map fun kv=>kV kv.1)))
def rListA (K:PySem.W.Frag):V → Hp → VK → Prop:=fun x H Q=>(∃ p ys,[x] = [.ref p] ∧ (SqL K H p ys ∨ SqT K H p ys) ∧ ∀ l,H l = none → Q (.ref l) (upd H l (.lst ys))) ∨ rListR [x] H Q
theorem na_list:NA cl (rL1 (rListA cl.K)) (f1 listD):=NA.one fun A L H x u fp z ad h e=>by
  unfold listD at e
  split at e
  · split at e
    · rename_i w xs hk
      cases e
      obtain ⟨a,vs,fp',rfl,ho,hr⟩:=h.seqL rfl
      exact .new (.inl rfl) hk hr rfl fun Q q=>.inl ⟨a,vs,rfl,.inl ho,q⟩
    · cases e
  · split at e
    · rename_i w xs hk
      cases e
      obtain ⟨a,vs,fp',rfl,ho,hr⟩:=h.seqT rfl
      exact .new (.inl rfl) hk hr rfl fun Q q=>.inl ⟨a,vs,rfl,.inr ho,q⟩
    · cases e
  · rename_i ns
    cases e
    obtain ⟨a,vs,fp',rfl,ho,hr⟩:=h.seqL rfl
    exact .new (.inl rfl) (Ze8 _) hr rfl fun Q q=>.inl ⟨a,vs,rfl,.inl ho,q⟩
  · rename_i ks w xs
    cases e
    obtain ⟨a,vs,fp',rfl,ho,hl,hr,hf⟩:=h.nodeD
    refine .new (.inl rfl) (Zi7 ks) (ZhO ks) rfl fun Q q=>.inr ⟨a,ks.zip vs,rfl,ho,fun p hp=>?_⟩
    have:(ks.zip vs).map (fun kv=>kV kv.1) = ks.map kV:=by
      have h3:=congrArg (List.map kV) (Zit ks vs hl)
      rw [List.map_map] at h3
      exact h3
    rw [this]
    exact q p hp
  · cases e
def tupD (x:D):Option D:=match x with
  | .n .lst _ xs=>if xs.all D.kept then some (.n .tup .shr xs) else none
  | .s ns=>some (.n .tup .shr (ns.map D.int))
  | .n .tup .shr xs=>some (.n .tup .shr xs)
  | _=>none
def rTupA (K:PySem.W.Frag):V → Hp → VK → Prop:=fun x H Q=>∃ p ys,[x] = [.ref p] ∧ ((SqL K H p ys ∧ ∀ l,H l = none → Q (.ref l) (upd H l (.tup ys))) ∨ (SqT K H p ys ∧ Q (.ref p) H))
theorem na_tup:NA cl (rL1 (rTupA cl.K)) (f1 tupD):=NA.one fun A L H x u fp z ad h e=>by
  unfold tupD at e
  split at e
  · split at e
    · rename_i w xs hk
      cases e
      obtain ⟨a,vs,fp',rfl,ho,hr⟩:=h.seqL rfl
      exact .new (.inr rfl) hk hr rfl fun Q q=>⟨a,vs,rfl,.inl ⟨ho,q⟩⟩
    · cases e
  · rename_i ns
    cases e
    obtain ⟨a,vs,fp',rfl,ho,hr⟩:=h.seqL rfl
    exact .new (.inr rfl) (Ze8 _) hr rfl fun Q q=>⟨a,vs,rfl,.inl ⟨ho,q⟩⟩
  · rename_i xs
    cases e
    obtain ⟨a,vs,fp',rfl,ho,hr⟩:=h.seqT rfl
    exact .old rfl h fun Q q=>⟨a,vs,rfl,.inr ⟨ho,q⟩⟩
  · cases e
def valsTD (x:D):Option D:=match x with
  | .n (.dct ks) _ xs=>if xs.all D.kept then some (.n .tup .shr xs) else none
  | _=>none
theorem na_valsT:NA cl (rL1 Rm.rValsT) (f1 valsTD):=NA.one fun A L H x u fp z ad h e=>by
  unfold valsTD at e
  split at e
  · split at e
    · rename_i ks w xs hk
      cases e
      obtain ⟨a,vs,fp',rfl,ho,hl,hr,hf⟩:=h.nodeD
      refine .new (.inr rfl) hk hr rfl fun Q q=>⟨a,_,rfl,ho,fun p hp=>?_⟩
      rw [ZeM ks vs hl]
      exact q p hp
    · cases e
  · cases e
end
end Fs
namespace Fs
open PySem PySem.Spec PyProof.Rows L2
section
variable {cl:Ec} {xf:Nat → List Str} {W:WX} {ws:Nat → Bool} {A A' L L' B:Addr → Prop} {H H':Hp} {δ δ':Sl} {σ σ':L2.St} {p q b:Bool} {te ta tb tc:TE} {tA:TA} {tt tu:TT} {t u:TS} {ts:List D} {vs:List V}
variable {X:Cx} {e a c o:Expr} {es:List Expr} {pos pp p2 apos:Pos}
theorem Zhp {x:V} (h:sc x = true):flatV x = true:=by cases x <;> first | rfl | cases h
def valsD:List D → Option (List V)
  | []=>some []
  | .v x :: ds=>(valsD ds).map fun vs=>x :: vs
  | _=>none
theorem ZfK:∀ {ds:List D} {vs:List V} {fp:List Addr} {ws:List V},Rps cl A L H b ds vs fp → valsD ds = some ws → vs = ws ∧ ws.all flatV = true
  | [],vs,fp,ws,h,e=>by
    cases e
    simp only [Rps] at h
    exact ⟨h.1,rfl⟩
  | d :: ds,vs,fp,ws,h,e=>by
    unfold valsD at e
    split at e
    · rename_i he; cases he
    · rename_i i ds' he
      cases he
      obtain ⟨ns',e1,rfl⟩:=Option.map_eq_some_iff.mp e
      simp only [Rps] at h
      obtain ⟨v,vs',f1,f2,rfl,rfl,h3,h4⟩:=h
      obtain ⟨rfl,_,hs⟩:=h3.leafv
      obtain ⟨rfl,h5⟩:=ZfK h4 e1
      exact ⟨rfl,by simp [Zhp hs,h5]⟩
    · cases e
def seqA (x:D):Option (List D):=match x with
  | .n .tup _ xs=>some xs
  | .n .lst _ xs=>some xs
  | .s ns=>some (ns.map D.int)
  | _=>none
theorem Rp.seqA {x:D} {v:V} {fp:List Addr} {ds:List D} (h:Rp cl A L H true x v fp) (e:Fs.seqA x = some ds):∃ a vs fp',v = .ref a ∧ (SqL cl.K H a vs ∨ SqT cl.K H a vs) ∧ Rps cl A L H true ds vs fp':=by
  unfold Fs.seqA at e
  split at e
  · cases e; obtain ⟨a,vs,fp',h1,h2,h3⟩:=h.seqT rfl; exact ⟨a,vs,fp',h1,.inr h2,h3⟩
  · cases e; obtain ⟨a,vs,fp',h1,h2,h3⟩:=h.seqL rfl; exact ⟨a,vs,fp',h1,.inl h2,h3⟩
  · cases e; obtain ⟨a,vs,fp',h1,h2,h3⟩:=h.seqL rfl; exact ⟨a,vs,fp',h1,.inl h2,h3⟩
  · cases e
def inB (x y:D):Option Bool:=match y with
  | .v (.str z)=>match x with
    | .v (.str ⟨⟨[c]⟩⟩)=>some (decide (c ∈ z.cps.toList))
    | _=>none
  | .n (.dct ks) _ xs=>(keyD x).map fun k=>(lkD ks xs k).isSome
  | _=>(seqA y).bind fun ds=>match x,valsD ds with
    | .v x,some ws=>some (inV x ws)
    | _,_=>match y,pd x,pds ds with
      | .n .lst _ _,some d,some es=>if SeqAt.shaped d = true ∧ SeqAt.shaped (.list es) = true then some (es.any fun z=>PyData.eqv z d) else none
      | _,_,_=>none
def inD (x y:D):Option D:=(inB x y).map D.bl
def notinD (x y:D):Option D:=(inB x y).map fun c=>D.bl !c
def rDIn (neg:Bool):R2:=fun y x H Q=>∃ a o,x = .ref a ∧ DGet H a y o ∧ Q (.bl (if neg then !o.isSome else o.isSome)) H
def rInA (K:PySem.W.Frag):R2:=fun x y H Q=>((∃ (c:Nat) (z:Str),x = .str ⟨#[c]⟩ ∧ y = .str z ∧ Q (.bl (decide (c ∈ z.cps.toList))) H) ∨ rIn K false x y H Q) ∨ rDIn false x y H Q ∨ rInD K x y H Q
def Zg7 (K:PySem.W.Frag):R2:=fun x y H Q=>((∃ (c:Nat) (z:Str),x = .str ⟨#[c]⟩ ∧ y = .str z ∧ Q (.bl (!decide (c ∈ z.cps.toList))) H) ∨ rIn K true x y H Q) ∨ rDIn true x y H Q ∨ rNotInD K x y H Q
theorem op_din (hu:X.A.units + 1 < cLine):OpR X (compareOp .In) (rDIn false):=by
  intro pins s σ H y x v u Q I ry rx h
  obtain ⟨a,o,rfl,g,q⟩:=h
  obtain rfl:u = Value.ref a:=rx
  exact d_in hu I g ry fun s3 I3=>⟨.bl o.isSome,H,I3,rfl,q⟩
theorem ZiM (hu:X.A.units + 1 < cLine):OpR X (compareOp .NotIn) (rDIn true):=by
  intro pins s σ H y x v u Q I ry rx h
  obtain ⟨a,o,rfl,g,q⟩:=h
  obtain rfl:u = Value.ref a:=rx
  exact d_notIn hu I g ry fun s3 I3=>⟨.bl (!o.isSome),H,I3,rfl,q⟩
theorem op_inA (hu:X.A.units + 65 < cLine):OpR X (compareOp .In) (rInA X.K):=(op_in_sign.or op_in_seq).or ((op_din (by omega)).or (op_inD hu))
theorem ZiL (hu:X.A.units + 65 < cLine):OpR X (compareOp .NotIn) (Zg7 X.K):=(op_notIn_sign.or op_notIn_seq).or ((ZiM (by omega)).or (op_notInD hu))
theorem inB_ok {x y:D} {u w:V} {fp gp:List Addr} {c:Bool} (h:Rp cl A L H true x u fp) (h':Rp cl A L H true y w gp) (e:inB x y = some c) :
    (∃ (n:Nat) (z:Str),u = .str ⟨#[n]⟩ ∧ w = .str z ∧ c = decide (n ∈ z.cps.toList)) ∨ (∃ p xs,w = .ref p ∧ (SqL cl.K H p xs ∨ SqT cl.K H p xs) ∧ flatV u = true ∧ xs.all flatV = true ∧ c = inV u xs) ∨
    (∃ a o,w = .ref a ∧ DGet H a u o ∧ c = o.isSome) ∨ (∃ d ds,Dp cl.K H u d ∧ Dp cl.K H w (.list ds) ∧ SeqAt.shaped d = true ∧ SeqAt.shaped (.list ds) = true ∧ c = ds.any fun z=>PyData.eqv z d):=by
  unfold inB at e
  split at e
  · rename_i z
    split at e
    · rename_i n
      cases e
      obtain ⟨rfl,_,_⟩:=h.leafv
      obtain ⟨rfl,_,_⟩:=h'.leafv
      exact .inl ⟨n,z,rfl,rfl,rfl⟩
    · cases e
  · rename_i ks w' xs
    obtain ⟨k,e1,rfl⟩:=Option.map_eq_some_iff.mp e
    obtain ⟨a,vs,fp',rfl,ho,hl,hr,hf⟩:=h'.nodeD
    have hk:=Zhn h e1
    subst hk
    refine .inr (.inr (.inl ⟨a,_,rfl,.inl ⟨_,k,ho,rfl,rfl⟩,?_⟩))
    rw [ZeH]
    cases e2:lkD ks xs k with
    | none=>rw [hr.lkN e2]; rfl
    | some d=>obtain ⟨v,f1,g1,_⟩:=hr.lk e2; rw [g1]; rfl
  · obtain ⟨ds,e1,e2⟩:=Option.bind_eq_some_iff.mp e
    obtain ⟨a,vs,fp',rfl,ho,hr⟩:=h'.seqA e1
    split at e2
    · rename_i x' ws' hv
      cases e2
      obtain ⟨rfl,_,hs⟩:=h.leafv
      obtain ⟨rfl,hf⟩:=ZfK hr hv
      exact .inr (.inl ⟨a,vs,rfl,ho,Zhp hs,hf,rfl⟩)
    · split at e2
      · rename_i d es hd hes q1 q2
        split at e2
        · rename_i hsh
          cases e2
          cases e1
          exact .inr (.inr (.inr ⟨d,es,h.dp hd,h'.dp (e:=.list es) (by simp [pd,hes]),hsh.1,hsh.2,rfl⟩))
        · cases e2
      · cases e2
theorem na_in:NA cl (rL2 (rInA cl.K)) (f2 inD):=NA.two fun A L H x y u w fp gp z ad h h' e=>by
  obtain ⟨c,e1,rfl⟩:=Option.map_eq_some_iff.mp e
  refine .sc rfl fun Q q=>?_
  rcases inB_ok h h' e1 with ⟨n,z,rfl,rfl,rfl⟩ | ⟨p,xs,rfl,h1,h2,h3,rfl⟩ | ⟨a,o,rfl,h1,rfl⟩ | ⟨d,ds,h1,h2,h3,h4,rfl⟩
  · exact .inl (.inl ⟨n,z,rfl,rfl,q⟩)
  · exact .inl (.inr ⟨p,xs,rfl,h1,h2,h3,q⟩)
  · exact .inr (.inl ⟨a,o,rfl,h1,q⟩)
  · exact .inr (.inr ⟨d,ds,h1,h2,h3,h4,q⟩)
theorem na_notin:NA cl (rL2 (Zg7 cl.K)) (f2 notinD):=NA.two fun A L H x y u w fp gp z ad h h' e=>by
  obtain ⟨c,e1,rfl⟩:=Option.map_eq_some_iff.mp e
  refine .sc rfl fun Q q=>?_
  rcases inB_ok h h' e1 with ⟨n,z,rfl,rfl,rfl⟩ | ⟨p,xs,rfl,h1,h2,h3,rfl⟩ | ⟨a,o,rfl,h1,rfl⟩ | ⟨d,ds,h1,h2,h3,h4,rfl⟩
  · exact .inl (.inl ⟨n,z,rfl,rfl,q⟩)
  · exact .inl (.inr ⟨p,xs,rfl,h1,h2,h3,q⟩)
  · exact .inr (.inl ⟨a,o,rfl,h1,q⟩)
  · exact .inr (.inr ⟨d,ds,h1,h2,h3,h4,q⟩)
def addA (x y:D):Option D:=match x,y with
  | .v (.int i),.v (.int j)=>some (.int (i + j))
  | .v (.str s),.v (.str t)=>if s.length + t.length ≤ 100000 then some (.str (s ++ t)) else none
  | .n .lst _ xs,.n .lst _ ys=>if xs.length + ys.length ≤ 100000 ∧ xs.all D.kept = true ∧ ys.all D.kept = true then some (.n .lst .own (xs ++ ys)) else none
  | .n .tup .shr xs,.n .tup .shr ys=>if xs.length + ys.length ≤ 100000 ∧ xs.all D.kept = true ∧ ys.all D.kept = true then some (.n .tup .shr (xs ++ ys)) else none
  | _,_=>none
def rAddB (K:PySem.W.Frag):R2:=fun x y H Q=>((rI0 fun i j=>.int (i + j)) x y H Q ∨ (∃ i j,x = .str i ∧ y = .str j ∧ i.length + j.length ≤ sizeLine ∧ Q (.str (i ++ j)) H)) ∨ rCat x y H Q ∨ rCatA K x y H Q
theorem Zlc:OpR X (binaryOp .Add) (rAddB X.K):=(op_add.or op_add_str).or (op_cat.or op_catA)
theorem na_add:NA cl (rL2 (rAddB cl.K)) (f2 addA):=NA.two fun A L H x y u w fp gp z ad h1 h2 e=>by
  unfold addA at e
  split at e
  · rename_i i j'
    cases e
    obtain ⟨rfl,_,_⟩:=h1.leafv
    obtain ⟨rfl,_,_⟩:=h2.leafv
    exact .sc rfl fun Q q=>.inl (.inl ⟨i,j',rfl,rfl,q⟩)
  · rename_i s t
    split at e
    · rename_i hl
      cases e
      obtain ⟨rfl,_,_⟩:=h1.leafv
      obtain ⟨rfl,_,_⟩:=h2.leafv
      exact .sc rfl fun Q q=>.inl (.inr ⟨s,t,rfl,rfl,sz_of hl,q⟩)
    · cases e
  · rename_i w1 xs w2 ys
    split at e
    · rename_i hl
      cases e
      obtain ⟨a,o,vs,fp',rfl,ho,hs,hr,hf⟩:=h1.node
      obtain ⟨a',o',vs',fp'',rfl,ho',hs',hr',hf'⟩:=h2.node
      cases hs; cases hs'
      have hk:(xs ++ ys).all D.kept = true:=by rw [List.all_append,hl.2.1,hl.2.2]; rfl
      exact .new (.inl rfl) hk (hr.append hr') rfl fun Q q=>.inr (.inl ⟨a,a',vs,vs',rfl,rfl,ho,ho',by rw [← hr.length,← hr'.length]; exact sz_of hl.1,q⟩)
    · cases e
  · rename_i xs ys
    split at e
    · rename_i hl
      cases e
      obtain ⟨a,o,vs,fp',rfl,ho,hs,hr,hf⟩:=h1.node
      obtain ⟨a',o',vs',fp'',rfl,ho',hs',hr',hf'⟩:=h2.node
      cases hs; cases hs'
      have l1:=hr.length
      have l2:=hr'.length
      have hz:vs.length + vs'.length ≤ sizeLine:=by rw [← l1,← l2]; exact sz_of hl.1
      have hk:(xs ++ ys).all D.kept = true:=by rw [List.all_append,hl.2.1,hl.2.2]; rfl
      by_cases hx:xs = []
      · subst hx
        have hv:vs = []:=List.eq_nil_of_length_eq_zero (by rw [← l1]; rfl)
        subst hv
        rw [List.nil_append]
        exact .old rfl h2 fun Q q=>.inr (.inr ⟨a,a',[],vs',rfl,rfl,SqT.of ho,SqT.of ho',hz,fun _=>q,fun z=>absurd rfl z,fun z=>absurd rfl z⟩)
      · have hv:vs ≠ []:=fun z=>hx (List.eq_nil_of_length_eq_zero (by rw [l1,z]; rfl))
        by_cases hy:ys = []
        · subst hy
          have hv':vs' = []:=List.eq_nil_of_length_eq_zero (by rw [← l2]; rfl)
          subst hv'
          rw [List.append_nil]
          exact .old rfl h1 fun Q q=>.inr (.inr ⟨a,a',vs,[],rfl,rfl,SqT.of ho,SqT.of ho',hz,fun z=>absurd z hv,fun _ _=>q,fun _ z=>absurd rfl z⟩)
        · have hv':vs' ≠ []:=fun z=>hy (List.eq_nil_of_length_eq_zero (by rw [l2,z]; rfl))
          exact .new (.inr rfl) hk (hr.append hr') rfl fun Q q=>.inr (.inr ⟨a,a',vs,vs',rfl,rfl,SqT.of ho,SqT.of ho',hz,fun z=>absurd z hv,fun _ z=>absurd z hv',fun _ _=>q⟩)
    · cases e
  · cases e
def mulA (x y:D):Option D:=match x,y with
  | .v (.int i),.v (.int j)=>if cMul i j then some (.int (i * j)) else none
  | .n .lst _ xs,.v (.int k)=>if 0 ≤ k ∧ k ≤ 1000 ∧ xs.length ≤ 1000 ∧ xs.all D.kept = true then some (.n .lst .own (List.replicate k.toNat xs).flatten) else none
  | _,_=>none
def rMulA:R2:=fun x y H Q=>(rI CMul fun i j=>.int (i * j)) x y H Q ∨ rRep x y H Q
theorem Zlb:OpR X (binaryOp .Mult) rMulA:=op_mul.or op_rep
theorem Rps.rep {xs:List D} {fp:List Addr} (h:Rps cl A L H b xs vs fp) (hk:xs.all D.kept = true):∀ n:Nat,Rps cl A L H true (List.replicate n xs).flatten (List.replicate n vs).flatten []
  | 0=>by simp [Rps]
  | n + 1=>by
    rw [List.replicate_succ,List.replicate_succ,List.flatten_cons,List.flatten_cons]
    have h2:=(h.keptS hk).weak (b:=true)
    exact h2.append (Rps.rep h hk n)
theorem na_mul:NA cl (rL2 rMulA) (f2 mulA):=NA.two fun A L H x y u w fp gp z ad h1 h2 e=>by
  unfold mulA at e
  split at e
  · rename_i i j'
    split at e
    · rename_i hc
      cases e
      obtain ⟨rfl,_,_⟩:=h1.leafv
      obtain ⟨rfl,_,_⟩:=h2.leafv
      exact .sc rfl fun Q q=>.inl ⟨i,j',rfl,rfl,ZlQ _ _ hc,q⟩
    · cases e
  · rename_i w1 xs k
    split at e
    · rename_i hl
      cases e
      obtain ⟨a,o,vs,fp',rfl,ho,hs,hr,hf⟩:=h1.node
      cases hs
      obtain ⟨rfl,_,_⟩:=h2.leafv
      have hk:((List.replicate k.toNat xs).flatten).all D.kept = true:=by
        rw [List.all_eq_true]
        intro x hx
        obtain ⟨l,hl2,hx⟩:=List.mem_flatten.mp hx
        rw [List.eq_of_mem_replicate hl2] at hx
        exact List.all_eq_true.mp hl.2.2.2 x hx
      refine .new (.inl rfl) hk (hr.rep hl.2.2.2 _) rfl fun Q q=>.inr ⟨a,k,vs,rfl,rfl,ho,by omega,by omega,?_,q⟩
      have l1:=hr.length
      have h5:vs.length * k.toNat ≤ 1000 * 1000:=Nat.mul_le_mul (by omega) (by omega)
      exact Nat.le_trans h5 (by decide)
    · cases e
  · cases e
end
end Fs
set_option maxHeartbeats 1000000
namespace Fs
open PySem PySem.Spec PyProof.Rows L2
section
variable {cl:Ec} {xf:Nat → List Str} {W:WX} {ws:Nat → Bool} {A A' L L' B:Addr → Prop} {H H':Hp} {δ δ':Sl} {σ σ':L2.St} {p q b:Bool} {te ta tb tc:TE} {tA:TA} {tt tu:TT} {t u:TS} {ts:List D} {vs:List V}
variable {X:Cx} {e a c o e2:Expr} {es:List Expr} {pos pp p2 apos:Pos}
def isiTD (ty:List String) (x:D):Option D:=(tyD x).map fun s=>.bl (ty.any fun c=>isTy s c)
def rIsiT2 (K:PySem.W.Frag) (t1 t2:String):V → Hp → VK → Prop:=fun x H Q=>[V.ty t1,V.ty t2].length ≤ sizeLine ∧ ∀ p,H p = none → rIsiT K [x,.ref p] (upd H p (.tup [.ty t1,.ty t2])) Q
theorem Zlp {K:PySem.W.Frag}:∀ t1 ∈ ["list","tuple"],∀ t2 ∈ ["list","tuple"],∀ s ∈ tyNames,PySem.W.kitAny K (.type s) [.type t1,.type t2] = some ([t1,t2].any fun c=>isTy s c):=by
  intro t1 h1 t2 h2 s hs
  have k1:=kit_ty (K:=K) (Zhm t1 (by simp at h1 ⊢; rcases h1 with rfl | rfl <;> simp) s hs)
  have k2:=kit_ty (K:=K) (Zhm t2 (by simp at h2 ⊢; rcases h2 with rfl | rfl <;> simp) s hs)
  unfold PySem.W.kitAny
  rw [k1]
  cases hh1:isTy s t1 with
  | true=>simp_all
  | false =>
    simp only
    unfold PySem.W.kitAny
    rw [k2]
    cases hh2:isTy s t2 with
    | true=>simp_all
    | false=>simp_all [PySem.W.kitAny]
theorem ZiQ {t1 t2:String} (h1:t1 ∈ ["list","tuple"]) (h2:t2 ∈ ["list","tuple"]):NOp cl (rL1 (rIsiT2 cl.K t1 t2)) (f1 (isiTD [t1,t2])):=by
  intro p A L B H ts ws δ σ xs us z Q j hr e k
  unfold f1 at e
  split at e
  · obtain ⟨u,fp,rfl,h⟩:=hr.one
    obtain ⟨s,e1,rfl⟩:=Option.map_eq_some_iff.mp e
    refine ⟨by show 2 ≤ sizeLine; decide,fun p0 hp=>?_⟩
    have hs:∀ a o,H a = some o → (upd H p0 (.tup [.ty t1,.ty t2])) a = some o:=fun a o q=>by rw [upd_ne (ne_of_none q hp)]; exact q
    have h':Rp cl (fun a=>A a ∧ a ≠ p0) (fun a=>L a ∧ a ≠ p0) (upd H p0 (.tup [.ty t1,.ty t2])) true _ u fp:=h.step (fun a o q n _=>⟨hs a o q,fun z=>n z.1⟩) (fun a ha=>by
      have:=h.inA a ha
      obtain ⟨q1,o,q2⟩:=this
      exact ⟨by rw [hs a o q2,q2],q1,ne_of_none q2 hp⟩) (fun _ a hl=>by
      have ha:=j.ad a (j.ba a (j.lb a hl))
      have ne:a ≠ p0:=fun z=>ha (by rw [z]; exact hp)
      exact ⟨upd_ne ne,hl,ne⟩)
    have ty:=h'.ty (K:=cl.K) e1
    have g:=j.grow (o:=.tup [.ty t1,.ty t2]) hp
    exact ⟨u,p0,_,.type s,[.type t1,.type t2],_,rfl,upd_same,.cons (.ty t1) (.cons (.ty t2) .nil),ty,Zlp t1 h1 t2 h2 s (ZgV e1),k _ _ _ g.1 (g.2.leaf rfl)⟩
  · cases e
theorem o_isiT {t1 t2:String} {n1 n2:Str} {q1 q2 q3:Pos} {kk:Nat} (hK:X.K = cl.K) (hm:X.mg "isinstance" = none) (hm1:X.mg n1 = none) (hm2:X.mg n2 = none) (hv1:bootBuiltins n1 = some (.type t1)) (hv2:bootBuiltins n2 = some (.type t2)) (hg:Gl X "isinstance":=by rfl) (hg1:Gl X n1:=by rfl) (hg2:Gl X n2:=by rfl)
    (hn1:n1 ≠ "__name__":=by decide) (hd1:(n1 == ("__debug__":Str)) = false:=by decide) (hn2:n2 ≠ "__name__":=by decide) (hd2:(n2 == ("__debug__":Str)) = false:=by decide)
    (s1:starEach [a,.Tuple [.Name n1 q1,.Name n2 q2] kk q3] X.env = (false,eval a X.env) :: starEach [.Tuple [.Name n1 q1,.Name n2 q2] kk q3] X.env:=by rfl) (s2:starEach [.Tuple [.Name n1 q1,.Name n2 q2] kk q3] X.env = (false,eval (.Tuple [.Name n1 q1,.Name n2 q2] kk q3) X.env) :: starEach [] X.env:=by rfl)
    (s3:(backTo pos (starEach [.Tuple [.Name n1 q1,.Name n2 q2] kk q3] X.env)).any (·.1) = false:=by rfl) (s4:starEach [.Name n1 q1,.Name n2 q2] X.env = (false,eval (.Name n1 q1) X.env) :: starEach [.Name n2 q2] X.env:=by rfl) (s5:starEach [.Name n2 q2] X.env = (false,eval (.Name n2 q2) X.env) :: starEach [] X.env:=by rfl) :
    BN X (.Call (.Name "isinstance" pp) [a,.Tuple [.Name n1 q1,.Name n2 q2] kk q3] [] pos) [a] (rL1 (rIsiT2 cl.K t1 t2)):=fun tes h=>by
  cases h with
  | cons h1 h=>cases h with
    | nil =>
      rw [← hK]
      have h9:=pe_callB (X:=X) (p:=pp) (pos:=pos) call_isiT hg hm PyProof.Rows.boot_isinstance (pa_cons h1 (pa_cons (pe_tup (pa_cons (pe_bltn (v:=.ty t1) hg1 hm1 hv1 rfl hn1 hd1) (pa_cons (pe_bltn (v:=.ty t2) hg2 hm2 hv2 rfl hn2 hd2) pa_nil s5) s4)) pa_nil s2) s1) (by decide) (by decide) s1 s3
      exact ⟨fun pins s σ H Q I hq=>h9.run pins s σ H Q I hq⟩
def tyF (T:String) (x:D):Option D:=match x with
  | .n .lst _ _=>if T = "list" then some x else none
  | .s _=>if T = "list" then some x else none
  | .n (.dct _) .own _=>if T = "dict" then some x else none
  | .v (.str _)=>if T = "str" then some x else none
  | _=>none
def rTy (K:PySem.W.Frag) (T:String):V → Hp → VK → Prop:=fun x H Q=>tyV K T x H ∧ Q x H
theorem tyF_ok {T:String} {x z:D} {v:V} {fp:List Addr} (h:Rp cl A L H true x v fp) (e:tyF T x = some z):z = x ∧ tyV cl.K T v H:=by
  unfold tyF at e
  split at e
  · split at e
    · rename_i hT
      cases e
      obtain ⟨a,vs,fp',rfl,ho,_⟩:=h.seqL rfl
      exact ⟨rfl,.inl ⟨hT,vs,ho⟩⟩
    · cases e
  · split at e
    · rename_i hT
      cases e
      obtain ⟨a,vs,fp',rfl,ho,_⟩:=h.seqL rfl
      exact ⟨rfl,.inl ⟨hT,vs,ho⟩⟩
    · cases e
  · split at e
    · rename_i hT
      cases e
      simp only [Rp] at h
      obtain ⟨a,o,vs,rfl,ho,hs,_⟩:=h
      obtain ⟨⟨hl,rfl⟩,_⟩:=hs.own
      exact ⟨rfl,.inr (.inr (.inl ⟨hT,.inl ⟨_,ho⟩⟩))⟩
    · cases e
  · split at e
    · rename_i hT
      cases e
      obtain ⟨rfl,_,_⟩:=h.leafv
      exact ⟨rfl,hT⟩
    · cases e
  · cases e
theorem pun_ty {T:String}:PUn cl (rTy cl.K T) (tyF T):=by
  intro A L H x u f1 z Q h e k
  obtain ⟨rfl,h2⟩:=tyF_ok h e
  exact ⟨h2,k u f1 h fun _ ha=>ha⟩
def RoT (cl:Ec) (xf:Nat → List Str) (X:Cx) (W:WX) (T:String) (e:Expr) (od:Od):Prop:=∃ te,PE X e te ∧ ∀ tA os,SN cl xf W tA os → SN cl xf W (tCons (tUn (rTy cl.K T) te) tA) (od :: os)
theorem rt_k {T:String} {pa:PP} (h:Rk cl X e pa):RoT cl xf X W T e (.k (pUn (tyF T) pa)):=by obtain ⟨te,h1,h2⟩:=h; exact ⟨te,h1,fun _ _ h=>sn_k (sp_un pun_ty h2) h⟩
def BM (cl:Ec) (X:Cx) (T:String) (e o:Expr) (es:List Expr) (R:List V → Hp → VK → Prop):Prop:=∀ to tes,PE X o to → PEs X es tes → PE X e (tF R (tCons (tUn (rTy cl.K T) to) (tAll tes)))
theorem d_m {T:String} {R:List V → Hp → VK → Prop} {F:List D → Option D} {od:Od} {os:List Od} (om:BM cl X T e o es R) (h:NOp cl R F) (ho:RoT cl xf X W T o od) (hr:Rn cl xf X W es os):Rd cl xf X W p e (dN F (od :: os)):=by
  obtain ⟨to,h1,h2⟩:=ho
  obtain ⟨tes,h3,h4⟩:=hr
  exact ⟨_,om _ _ h1 h3,se_n h (h2 _ _ h4)⟩
def rM (r:V → List V → Hp → VK → Prop):List V → Hp → VK → Prop:=fun us H Q=>match us with | x :: xs=>r x xs H Q | []=>False
theorem bm_1 {T id:String} {name:Str} {r:V → List V → Hp → VK → Prop} (hK:X.K = cl.K) (pa:PlainAttrs T) (slot:Slot T name id) (hty:typeOf (.builtin id) = pure (.type "method_descriptor")) (hm:MtR X id r)
    (hbase:attributeBase o name X.env (eval o X.env) = eval o X.env:=by rfl)
    (hfew:((backTo pos (starEach [e] X.env)).all (fun x=>!x.1) && (backToKw pos (keywordEach [] X.env)).all (fun x=>x.1.isSome) && decide (([e]:List Expr).length + ([]:List Keyword).length + (if ([]:List Keyword).isEmpty then 0 else 1) < 30)) = true:=by rfl)
    (hline:(apos.endLine == pos.line) = true:=by rfl) (hs:starEach [e] X.env = (false,eval e X.env) :: starEach [] X.env:=by rfl) (hplain:(backTo pos (starEach [] X.env)).any (·.1) = false:=by rfl) :
    BM cl X T (.Call (.Attribute o name apos) [e] [] pos) o [e] (rM r):=fun to tes h1 h=>by
  cases h with
  | cons h2 h=>cases h with
    | nil =>
      rw [← hK]
      exact pe_bm pa slot hty hm h1 (pa_cons h2 pa_nil hs) hbase hfew hline hs hplain
def idxV (x:V):List V → Option Nat
  | []=>none
  | y :: ys=>if eqV y x then some 0 else (idxV x ys).map (· + 1)
theorem Zjl {x:V}:∀ {ys:List V} {n:Nat},idxV x ys = some n → ∃ z,ys[n]? = some z ∧ eqV z x = true ∧ ∀ (m:Nat) (z':V),m < n → ys[m]? = some z' → eqV z' x = false
  | [],n,h=>by cases h
  | y :: ys,n,h=>by
    unfold idxV at h
    split at h
    · rename_i he
      cases h
      exact ⟨y,rfl,he,fun m z' hm=>absurd hm (Nat.not_lt_zero _)⟩
    · rename_i he
      obtain ⟨k,h1,rfl⟩:=Option.map_eq_some_iff.mp h
      obtain ⟨z,h2,h3,h4⟩:=Zjl h1
      refine ⟨z,h2,h3,fun m z' hm hz=>?_⟩
      cases m with
      | zero=>cases hz; exact Bool.eq_false_iff.mpr he
      | succ m=>exact h4 m z' (by omega) hz
def indexD:List D → Option D
  | [x,.v y]=>(seqL x).bind fun ds=>(valsD ds).bind fun vs=>(idxV y vs).map fun (n:Nat)=>D.int (n:Int)
  | _=>none
theorem Zkb:NA cl (rM (rIndex cl.K)) indexD:=by
  intro A L H xs us z ad hr e
  unfold indexD at e
  split at e
  · obtain ⟨u,w,fp,gp,rfl,h1,h2⟩:=hr.two
    obtain ⟨ds,e1,e2⟩:=Option.bind_eq_some_iff.mp e
    obtain ⟨vs,e3,e4⟩:=Option.bind_eq_some_iff.mp e2
    obtain ⟨n,e5,rfl⟩:=Option.map_eq_some_iff.mp e4
    obtain ⟨a,vs',fp',rfl,ho,hr'⟩:=h1.seqL e1
    obtain ⟨rfl,hf⟩:=ZfK hr' e3
    obtain ⟨rfl,_,hs⟩:=h2.leafv
    obtain ⟨z,q1,q2,q3⟩:=Zjl e5
    exact .sc rfl fun Q q=>⟨a,vs',w,n,z,rfl,rfl,ho,Zhp hs,hf,q1,q2,q3,q⟩
  · cases e
def strD (x:D):Option D:=match x with
  | .v (.int i)=>if i.natAbs < 2 ^ 1000 then some (.str (toString i)) else none
  | .v (.str s)=>some (.str s)
  | _=>none
def rStr:V → Hp → VK → Prop:=fun x H Q=>(∃ i,[x] = [.int i] ∧ i.natAbs.log2 < 1920 ∧ Q (.str (toString i)) H) ∨ (∃ a,[x] = [.str a] ∧ Q (.str a) H)
theorem na_str:NA cl (rL1 rStr) (f1 strD):=NA.one fun A L H x u fp z ad h e=>by
  unfold strD at e
  split at e
  · rename_i i
    split at e
    · rename_i hi
      cases e
      obtain ⟨rfl,_,_⟩:=h.leafv
      refine .sc rfl fun Q q=>.inl ⟨i,rfl,?_,q⟩
      by_cases h0:i.natAbs = 0
      · rw [h0]; decide
      · exact Nat.lt_of_lt_of_le ((Nat.log2_lt h0).mpr hi) (by decide)
    · cases e
  · rename_i s
    cases e
    obtain ⟨rfl,_,_⟩:=h.leafv
    exact .sc rfl fun Q q=>.inr ⟨s,rfl,q⟩
  · cases e
theorem Rps.reverse:∀ {ds:List D} {vs:List V} {fp:List Addr},Rps cl A L H b ds vs fp → ds.all D.kept = true → Rps cl A L H b ds.reverse vs.reverse []
  | [],vs,fp,h,_=>by simp only [Rps] at h; rw [h.1]; simp [Rps]
  | d :: ds,vs,fp,h,hk=>by
    have h0:=h.keptS hk
    simp only [Rps] at h
    obtain ⟨v,vs',f1,f2,rfl,rfl,h3,h4⟩:=h
    simp only [List.all_cons,Bool.and_eq_true] at hk
    rw [List.reverse_cons,List.reverse_cons]
    have h5:=(h3.strong hk.1).1.weak (b:=b)
    have e5:=(h3.strong hk.1).2
    subst e5
    have h6:Rps cl A L H b [d] [v] []:=by simp only [Rps]; exact ⟨v,[],[],[],rfl,rfl,h5,rfl,rfl⟩
    exact (Rps.reverse h4 hk.2).append h6
end
end Fs
set_option maxHeartbeats 1000000
namespace Fs
open PySem PySem.Spec PyProof.Rows L2
def getP:List Nat → D → Option D
  | [],d=>some d
  | i :: π,.n _ _ ds=>(ds[i]?).bind (getP π)
  | _ :: _,_=>none
def Kd.isDcl:Kd → Bool | .dcl _=>true | _=>false
def ownP:List Nat → D → Bool
  | [],_=>true
  | i :: π,.n k .own ds=>!k.isDcl && (match ds[i]? with
    | some c=>ownP π c
    | none=>false)
  | _ :: _,_=>false
def setP:List Nat → D → D → D
  | [],_,d'=>d'
  | i :: π,.n k w ds,d'=>.n k w (match ds[i]? with
    | some c=>ds.set i (setP π c d')
    | none=>ds)
  | _ :: _,d,_=>d
def kids:HO → Option (List V)
  | .lst xs=>some xs
  | .tup xs=>some xs
  | .dK kvs=>some (kvs.map Prod.snd)
  | .ins _ _ fs=>some (fs.map Prod.snd)
  | _=>none
def AtP (H:Hp):V → List Nat → V → Prop
  | v,[],w=>v = w
  | v,i :: π,w=>∃ a o vs v1,v = .ref a ∧ H a = some o ∧ kids o = some vs ∧ vs[i]? = some v1 ∧ AtP H v1 π w
section
variable {cl:Ec} {xf:Nat → List Str} {W:WX} {ws:Nat → Bool} {A A' L L' B:Addr → Prop} {H H':Hp} {δ δ':Sl} {σ σ':L2.St} {p q b:Bool} {te ta tb tc:TE} {tA:TA} {tt tu:TT} {t u:TS} {ts:List D} {vs:List V}
theorem Shape.kids {k:Kd} {a:Addr} {o:HO} (h:Shape cl k a vs o) (hm:k.mut = true) (hk:k.isDcl = false):kids o = some vs:=by
  cases k with
  | tup=>cases h; rfl
  | lst=>cases h; rfl
  | dct ks=>obtain ⟨hl,rfl⟩:=h; simp only [Fs.kids]; rw [ZeM ks vs hl]
  | dcl ks=>cases hk
  | obj c fs=>obtain ⟨hl,dx,rfl⟩:=h; simp only [Fs.kids]; rw [ZeM fs vs hl]
  | fn i=>cases hm
  | code q=>cases hm
  | cell=>cases hm
theorem Zg9 {xs ys:List Addr} (h:∀ x,xs.count x = ys.count x):xs.Perm ys:=List.perm_iff_count.mpr h
theorem Rp.focus:∀ {π:List Nat} {d c:D} {v:V} {fp:List Addr},Rp cl A L H false d v fp → getP π d = some c → ownP π d = true → ∃ vc fc fr,AtP H v π vc ∧ Rp cl A L H false c vc fc ∧ fp.Perm (fc ++ fr) ∧
    ∀ A2 L2 H2 c' fc',(∀ a o,H a = some o → ¬ A a → NT o → H2 a = some o ∧ ¬ A2 a) → (∀ a ∈ fr,H2 a = H a ∧ A2 a) → Rp cl A2 L2 H2 false c' vc fc' → ∃ fp',Rp cl A2 L2 H2 false (setP π d c') v fp' ∧ fp'.Perm (fc' ++ fr)
  | [],d,c,v,fp,h,e,_=>by
    cases e
    refine ⟨v,fp,[],rfl,h,by simp,fun A2 L2 H2 c' fc' hk hf hc=>⟨fc',hc,by simp⟩⟩
  | i :: π,.v x,c,v,fp,h,e,_=>by simp [getP] at e
  | i :: π,.s x,c,v,fp,h,e,_=>by simp [getP] at e
  | i :: π,.n k .shr ds,c,v,fp,h,e,ho=>by simp [ownP] at ho
  | i :: π,.n k .bor ds,c,v,fp,h,e,ho=>by simp [ownP] at ho
  | i :: π,.n k .own ds,c,v,fp,h,e,ho=>by
    simp only [getP] at e
    obtain ⟨d1,e1,e2⟩:=Option.bind_eq_some_iff.mp e
    simp only [ownP,e1,Bool.and_eq_true,Bool.not_eq_true'] at ho
    simp only [Rp] at h
    obtain ⟨a,o,vs,rfl,h2,h3,h4,fp',rfl,h6⟩:=h
    obtain ⟨v1,f1,fn,f2,k1,rfl,k3,k4⟩:=h6.at_ e1
    obtain ⟨vc,fc,fr,q1,q2,q3,q5⟩:=Rp.focus k3 e2 ho.2
    refine ⟨vc,fc,a :: (f1 ++ (fr ++ f2)),⟨a,o,vs,v1,rfl,h2,h3.own.1.kids h3.own.2 ho.1,k1,q1⟩,q2,Zg9 fun x=>?_,fun A2 L2 H2 c' fc' hk hf hc=>?_⟩
    · have:=List.perm_iff_count.mp q3 x
      simp only [List.count_cons,List.count_append] at this ⊢
      omega
    · obtain ⟨fn',r1,r2⟩:=q5 A2 L2 H2 c' fc' hk (fun x hx=>hf x (by simp [hx])) hc
      have r3:=k4 A2 L2 H2 _ fn' hk (fun x hx=>hf x (by rcases List.mem_append.mp hx with z | z <;> simp [z])) r1
      have ha:=hf a (by simp)
      refine ⟨a :: (f1 ++ (fn' ++ f2)),?_,Zg9 fun x=>?_⟩
      · simp only [setP,e1,Rp]
        exact ⟨a,o,vs,rfl,ha.1.trans h2,h3,ha.2,_,rfl,r3⟩
      · have:=List.perm_iff_count.mp r2 x
        simp only [List.count_cons,List.count_append] at this ⊢
        omega
theorem Jt.focus {i:Nat} {π:List Nat} {d c:D} (j:Jt false cl A L B H ts vs δ σ) (hi:(δ[i]?).join = some d) (hfr:d.free = true) (hp:getP π d = some c) (ho:ownP π d = true) :
    ∃ v0 vc B',σ[i]? = some (some v0) ∧ AtP H v0 π vc ∧ (∀ a,B a → B' a) ∧ (∀ a,L a → B' a) ∧ Jt false cl A L B' H (c :: ts) (vc :: vs) (δ.set i none) σ ∧
    ∀ A2 H2 c' ts2 ws2 δ2,δ2[i]? = some none → Nx A B' H A2 H2 → Jt false cl A2 L B' H2 (c' :: ts2) (vc :: ws2) δ2 σ → Jt false cl A2 L B H2 ts2 ws2 (δ2.set i (some (setP π d c'))) σ:=by
  obtain ⟨f,g,h1,h2,h3,h4,h5⟩:=j.ex
  have nd:=List.nodup_append.mp h3
  obtain ⟨v0,f1,f2,k1,k2,k3,k4,k5⟩:=h2.take (join_some hi) nd.2.1
  obtain ⟨vc,fc,fr,q1,q2,q3,q4⟩:=(k2.free hfr).focus hp ho
  have frA:∀ a ∈ fr,A a:=fun a ha=>(k2.inA a (q3.mem_iff.mpr (List.mem_append_right _ ha))).1
  have f1g:∀ a ∈ f1,a ∈ g:=fun a ha=>(k5 a).mp (List.mem_append_left _ ha)
  have f2g:∀ a ∈ f2,a ∈ g:=fun a ha=>(k5 a).mp (List.mem_append_right _ ha)
  have nd1:=List.nodup_append.mp k4
  have ndq:=List.nodup_append.mp (q3.nodup_iff.mp nd1.1)
  have fcf1:∀ a ∈ fc,a ∈ f1:=fun a ha=>q3.mem_iff.mpr (List.mem_append_left _ ha)
  have frf1:∀ a ∈ fr,a ∈ f1:=fun a ha=>q3.mem_iff.mpr (List.mem_append_right _ ha)
  refine ⟨v0,vc,fun a=>B a ∨ a ∈ fr,k1,q1,fun a h=>.inl h,fun a h=>.inl (j.lb a h),⟨⟨fc ++ f,f2,?_,k3,?_,?_,?_⟩,fun a h=>.inl (j.lb a h),fun a h=>h.elim (j.ba a) (frA a),j.ad,j.tb⟩,?_⟩
  · simp only [Rps]
    exact ⟨vc,vs,fc,f,rfl,rfl,q2,h1⟩
  · rw [List.append_assoc]
    refine List.nodup_append.mpr ⟨ndq.1,List.nodup_append.mpr ⟨nd.1,nd1.2.1,fun a ha c hc=>nd.2.2 a ha c (f2g c hc)⟩,fun a ha c hc e=>?_⟩
    subst e
    rcases List.mem_append.mp hc with z | z
    · exact nd.2.2 a z a (f1g a (fcf1 a ha)) rfl
    · exact nd1.2.2 a (fcf1 a ha) a z rfl
  · intro a ha
    rintro (z | z)
    · rcases List.mem_append.mp ha with q | q
      · exact h5 rfl a (f1g a (fcf1 a q)) z
      · exact h4 a q z
    · rcases List.mem_append.mp ha with q | q
      · exact ndq.2.2 a q a z rfl
      · exact nd.2.2 a q a (f1g a (frf1 a z)) rfl
  · intro _ a ha
    rintro (z | z)
    · exact h5 rfl a (f2g a ha) z
    · exact nd1.2.2 a (frf1 a z) a ha rfl
  · intro A2 H2 c' ts2 ws2 δ2 e2 n j2
    obtain ⟨F,G,m1,m2,m3,m4,m5⟩:=j2.ex
    simp only [Rps] at m1
    obtain ⟨w,ws',g1,g2,e3,rfl,m6,m7⟩:=m1
    cases e3
    have frp:∀ a ∈ fr,H2 a = H a ∧ A2 a:=fun a ha=>n.prot a (.inr ha)
    obtain ⟨fp',r1,r2⟩:=q4 A2 L H2 c' g1 n.both frp m6
    rw [List.append_assoc] at m3
    have nd3:=List.nodup_append.mp m3
    have nd4:=List.nodup_append.mp nd3.2.1
    have g1fr:∀ a ∈ g1,a ∉ fr:=fun a ha z=>m4 a (List.mem_append_left _ ha) (.inr z)
    have g2fr:∀ a ∈ g2,a ∉ fr:=fun a ha z=>m4 a (List.mem_append_right _ ha) (.inr z)
    have Gfr:∀ a ∈ G,a ∉ fr:=fun a ha z=>m5 rfl a ha (.inr z)
    have ndp:fp'.Nodup:=r2.nodup_iff.mpr (List.nodup_append.mpr ⟨nd3.1,ndq.2.1,fun a ha c hc e=>by subst e; exact g1fr a ha hc⟩)
    have hlen:i < δ2.length:=(List.getElem?_eq_some_iff.mp e2).1
    have ndG:(fp' ++ G).Nodup:=List.nodup_append.mpr ⟨ndp,nd4.2.1,fun a ha c hc e=>by
      subst e
      rcases List.mem_append.mp (r2.mem_iff.mp ha) with z | z
      · exact nd3.2.2 a z a (List.mem_append_right _ hc) rfl
      · exact Gfr a hc z⟩
    obtain ⟨G',s1,s2,s3⟩:=m2.put (d:=setP π d c') (v:=v0) hlen r1.weak ndG
    rw [ZcG k1] at s1
    have nB:∀ a,a ∈ fp' → ¬ B a:=fun a ha z=>by
      rcases List.mem_append.mp (r2.mem_iff.mp ha) with q | q
      · exact m4 a (List.mem_append_left _ q) (.inl z)
      · exact h5 rfl a (f1g a (frf1 a q)) z
    refine ⟨⟨g2,G',m7,s1,List.nodup_append.mpr ⟨nd4.1,s2,fun a ha c hc e=>?_⟩,fun a ha z=>m4 a (List.mem_append_right _ ha) (.inl z),fun _ a ha z=>?_⟩,j.lb,fun a h=>j2.ba a (.inl h),j2.ad,j2.tb⟩
    · subst e
      rcases List.mem_append.mp (s3 a hc) with z | z
      · rcases List.mem_append.mp (r2.mem_iff.mp z) with q | q
        · exact nd3.2.2 a q a (List.mem_append_left _ ha) rfl
        · exact g2fr a ha q
      · exact nd4.2.2 a ha a z rfl
    · rcases List.mem_append.mp (s3 a ha) with q | q
      · exact nB a q z
      · exact m5 rfl a q (.inl z)
end
end Fs
set_option maxHeartbeats 1000000
namespace Fs
open PySem PySem.Spec PyProof.Rows L2
section
variable {cl:Ec} {xf:Nat → List Str} {W:WX} {ws:Nat → Bool} {A A' L L' B:Addr → Prop} {H H':Hp} {δ δ':Sl} {σ σ':L2.St} {p q b:Bool} {te ta tb tc:TE} {tA:TA} {tt tu:TT} {t u:TS} {ts:List D} {vs:List V}
theorem Jt.renew {k:Kd} {ds:List D} {v:V} {wv:List V} (j:Jt false cl A L B H (.n k .own ds :: ts) (v :: wv) δ σ) :
    ∃ a o us,v = .ref a ∧ H a = some o ∧ Shape cl k a us o ∧ ds.length = us.length ∧ (∃ ft,Rps cl A L H false ts wv ft) ∧ ∀ k' ds' us' o' ts' wv',Shape cl k' a us' o' →
      (∀ fk ft,Rps cl A L H false ds us fk → Rps cl A L H false ts wv ft → ∃ f' g',Rps cl A L H false ds' us' f' ∧ Rps cl A L H false ts' wv' g' ∧ ∀ x,(f' ++ g').count x ≤ (fk ++ ft).count x) → (hm':k'.mut = true:=by rfl) →
      Nx A B H A (upd H a o') ∧ Jt false cl A L B (upd H a o') (.n k' .own ds' :: ts') (.ref a :: wv') δ σ:=by
  obtain ⟨f,g,h1,h2,h3,h4,h5⟩:=j.ex
  simp only [Rps,Rp] at h1
  obtain ⟨v0,vs',f1,f2,e,rfl,⟨a,o,us,rfl,ho,hs,hA,fp',rfl,hk⟩,ht⟩:=h1
  cases e
  refine ⟨a,o,us,rfl,ho,hs.own.1,hk.length,⟨f2,ht⟩,fun k' ds' us' o' ts' wv' hs' hc hm'=>?_⟩
  obtain ⟨f',g',r1,r1',r2⟩:=hc fp' f2 hk ht
  have nd:=List.nodup_append.mp h3
  rw [List.cons_append] at nd
  have nd1:=List.nodup_cons.mp nd.1
  have hsub:∀ x ∈ f' ++ g',x ∈ fp' ++ f2:=fun x hx=>by
    have:=r2 x
    exact List.count_pos_iff.mp (Nat.lt_of_lt_of_le (List.count_pos_iff.mpr hx) this)
  have ndf:(f' ++ g').Nodup:=List.nodup_iff_count.mpr fun x=>Nat.le_trans (r2 x) (List.nodup_iff_count.mp nd1.2 x)
  have af:a ∉ f' ++ g':=fun z=>nd1.1 (hsub a z)
  have hst:∀ x u,H x = some u → ¬ A x → NT u → upd H a o' x = some u ∧ ¬ A x:=fun x u q n _=>⟨by rw [upd_ne (fun z=>n (by rw [z]; exact hA))]; exact q,n⟩
  have aB:¬ B a:=h4 a (by simp)
  have sf:∀ x ∈ f' ++ g',upd H a o' x = H x ∧ A x:=fun x hx=>⟨upd_ne (fun z=>af (by rw [← z]; exact hx)),by
    rcases List.mem_append.mp hx with z | z
    · exact (r1.inA x z).1
    · exact (r1'.inA x z).1⟩
  refine ⟨⟨fun x h=>.inl h,fun x u q n t=>(hst x u q n t).1,fun x h=>⟨upd_ne (fun z=>aB (by rw [← z]; exact h)),j.ba x h⟩,fun x h=>?_⟩,⟨⟨(a :: f') ++ g',g,?_,?_,?_,?_,h5⟩,j.lb,j.ba,fun x h=>?_,Tb.put j.tb ho hs.own.1 hs.own.2⟩⟩
  · by_cases z:x = a
    · rw [z,upd_same] at h; cases h
    · rw [upd_ne z] at h; exact h
  · simp only [Rps,Rp]
    refine ⟨.ref a,wv',a :: f',g',rfl,rfl,⟨a,o',us',rfl,upd_same,.inl ⟨hs',fun _=>hm'⟩,hA,f',rfl,r1.step hst (fun x hx=>sf x (List.mem_append_left _ hx)) (by simp)⟩,r1'.step hst (fun x hx=>sf x (List.mem_append_right _ hx)) (by simp)⟩
  · exact h2.step hst (fun x hx=>⟨upd_ne (fun z=>nd.2.2 a (by simp) x hx z.symm),(h2.inA x hx).1⟩) (fun x h=>⟨upd_ne (fun z=>aB (by rw [← z]; exact j.lb x h)),h⟩)
  · rw [List.cons_append,List.cons_append]
    refine List.nodup_cons.mpr ⟨fun z=>?_,List.nodup_append.mpr ⟨ndf,nd.2.1,fun x hx c hc=>nd.2.2 x (by rcases List.mem_append.mp (hsub x hx) with z | z <;> simp [z]) c hc⟩⟩
    rcases List.mem_append.mp z with z | z
    · exact af z
    · exact nd.2.2 a (by simp) a z rfl
  · intro x hx
    rw [List.cons_append] at hx
    rcases List.mem_cons.mp hx with rfl | hx
    · exact aB
    · exact h4 x (by rcases List.mem_append.mp (hsub x hx) with z | z <;> simp [z])
  · by_cases z:x = a
    · rw [z,upd_same]; simp
    · rw [upd_ne z]; exact j.ad x h
def MOp (cl:Ec) (r:V → List V → Hp → VK → Prop) (op:D → List D → Option (D × D)):Prop:=∀ A L B H δ σ c v xs us c' y Q,Jt false cl A L B H (c :: xs) (v :: us) δ σ → op c xs = some (c',y) →
  (∀ w A' H',Nx A B H A' H' → Jt false cl A' L B H' [c',y] [v,w] δ σ → Q w H') → r v us H Q
theorem rps_non {f:List Addr}:Rps cl A L H b [.non] [.non] f ↔ f = []:=by
  simp only [Rps,Rp]
  constructor
  · rintro ⟨v,vs,f1,f2,e,rfl,⟨_,_,rfl⟩,_,rfl⟩; rfl
  · rintro rfl; exact ⟨.non,[],[],[],rfl,rfl,⟨rfl,rfl,rfl⟩,rfl,rfl⟩
def ZcA:D → List D → Option (D × D)
  | .n .lst .own acc,[.n .lst _ ys]=>if acc.length + ys.length ≤ 100000 ∧ ys.all D.kept = true then some (.n .lst .own (acc ++ ys),.non) else none
  | _,_=>none
theorem Ze1:MOp cl rExtend ZcA:=by
  intro A L B H δ σ c v xs us c' y Q j e k
  unfold ZcA at e
  split at e
  · rename_i acc w0 ys
    split at e
    · rename_i hl
      cases e
      obtain ⟨a,o,ks,rfl,ho,hs,hlen,⟨ft,ht⟩,rn⟩:=j.renew
      cases hs
      simp only [Rps] at ht
      obtain ⟨w,_,f1,f2,rfl,rfl,hw,rfl,rfl⟩:=ht
      obtain ⟨a2,o2,vs2,fp2,rfl,ho2,hs2,hr2,_⟩:=(hw.weak (b:=true)).node
      cases hs2
      have h:=rn .lst (acc ++ ys) (ks ++ vs2) (.lst (ks ++ vs2)) [.non] [.non] rfl fun fk ft hk ht=>⟨fk ++ [],[],hk.append (hr2.keptS hl.2),rps_non.mpr rfl,fun x=>by simp⟩
      exact ⟨a,a2,ks,vs2,rfl,rfl,ho,ho2,by rw [← hlen,← hr2.length]; exact sz_of hl.1,k .non _ _ h.1 h.2⟩
    · cases e
  · cases e
def putKs:List Key → Key → List Key
  | [],k=>[k]
  | k' :: ks,k=>if k' = k then k' :: ks else k' :: putKs ks k
def putVs {α:Type}:List Key → List α → Key → α → List α
  | [],xs,_,y=>xs ++ [y]
  | _ :: _,[],_,y=>[y]
  | k' :: ks,x :: xs,k,y=>if k' = k then y :: xs else x :: putVs ks xs k y
theorem Zej {k' k:Key} {ks:List Key} (h:k' ≠ k):putKs (k' :: ks) k = k' :: putKs ks k:=by
  simp only [putKs,if_neg h]
theorem Rps.setAt:∀ {ds:List D} {vs:List V} {fk fy:List Addr} {n:Nat} {d:D} {w:V},Rps cl A L H b ds vs fk → Rp cl A L H b d w fy → ∃ f',Rps cl A L H b (ds.set n d) (vs.set n w) f' ∧ ∀ x,f'.count x ≤ (fk ++ fy).count x
  | [],vs,fk,fy,n,d,w,h,hd=>by
    simp only [Rps] at h
    obtain ⟨rfl,rfl⟩:=h
    exact ⟨[],by simp [Rps],fun x=>by simp⟩
  | d0 :: ds,vs,fk,fy,0,d,w,h,hd=>by
    simp only [Rps] at h
    obtain ⟨v,vs',f1,f2,rfl,rfl,h3,h4⟩:=h
    refine ⟨fy ++ f2,by simp only [List.set_cons_zero,Rps]; exact ⟨w,vs',fy,f2,rfl,rfl,hd,h4⟩,fun x=>?_⟩
    simp only [List.count_append]; omega
  | d0 :: ds,vs,fk,fy,n + 1,d,w,h,hd=>by
    simp only [Rps] at h
    obtain ⟨v,vs',f1,f2,rfl,rfl,h3,h4⟩:=h
    obtain ⟨f',h5,h6⟩:=Rps.setAt (n:=n) h4 hd
    refine ⟨f1 ++ f',by simp only [List.set_cons_succ,Rps]; exact ⟨v,_,f1,f',rfl,rfl,h3,h5⟩,fun x=>?_⟩
    have:=h6 x
    simp only [List.count_append] at this ⊢
    omega
theorem Zke {ks:List Key} {vs:List V} {k:Key} {y:V} (h:k ∉ ks):(ks.zip vs).map (fun kv=>if kv.1 = k then (kv.1,y) else kv) = ks.zip vs:=by
  refine (List.map_congr_left fun kv hkv=>?_).trans (List.map_id _)
  rw [if_neg fun e=>h (by rw [← e]; exact (List.of_mem_zip hkv).1)]; rfl
theorem ZhG:∀ {ks:List Key} {vs:List V} (k:Key) (y:V),ks.Nodup → ks.length = vs.length → putK (ks.zip vs) k y = (putKs ks k).zip (putVs ks vs k y)
  | [],[],k,y,_,_=>by simp [putK,putKs,putVs]
  | [],_ :: _,k,y,_,h=>by cases h
  | _ :: _,[],k,y,_,h=>by cases h
  | k' :: ks,v :: vs,k,y,hn,h=>by
    have hn':=List.nodup_cons.mp hn
    have ih:=ZhG (ks:=ks) (vs:=vs) k y hn'.2 (by simpa using h)
    by_cases e:k' = k
    · subst e
      simp only [putK,List.zip_cons_cons,List.any_cons,decide_true,Bool.true_or,if_true,List.map_cons,putVs,putKs]
      rw [Zke hn'.1]
    · rw [Zej e]
      simp only [putVs,if_neg e,List.zip_cons_cons]
      rw [← ih]
      unfold putK
      simp only [List.zip_cons_cons,List.any_cons,decide_eq_false e,Bool.false_or,List.map_cons,if_neg e]
      split <;> rfl
theorem Zgo {α:Type}:∀ {ks:List Key} {xs:List α} {k:Key} {y:α},ks.length = xs.length → (putKs ks k).length = (putVs ks xs k y).length
  | [],xs,k,y,h=>by simp [putKs,putVs] at h ⊢; exact List.eq_nil_of_length_eq_zero h.symm
  | k' :: ks,[],k,y,h=>by cases h
  | k' :: ks,x :: xs,k,y,h=>by
    by_cases e:k' = k
    · subst e; simp [putKs,putVs] at h ⊢; exact h
    · rw [Zej e]; simp only [putVs,if_neg e,List.length_cons]; rw [Zgo (by simpa using h)]
theorem Rps.putVs:∀ {ks:List Key} {ds:List D} {vs:List V} {fk fy:List Addr} {k:Key} {d:D} {w:V},ks.length = ds.length → Rps cl A L H b ds vs fk → Rp cl A L H b d w fy → ∃ f',Rps cl A L H b (Fs.putVs ks ds k d) (Fs.putVs ks vs k w) f' ∧ ∀ x,f'.count x ≤ (fk ++ fy).count x
  | [],ds,vs,fk,fy,k,d,w,hl,h,hd=>by
    cases ds with
    | cons=>cases hl
    | nil =>
      simp only [Rps] at h
      obtain ⟨rfl,rfl⟩:=h
      refine ⟨fy,?_,fun x=>by simp⟩
      simp only [Fs.putVs,List.nil_append,Rps]
      exact ⟨w,[],fy,[],rfl,by simp,hd,rfl,rfl⟩
  | k' :: ks,[],vs,fk,fy,k,d,w,hl,h,hd=>by cases hl
  | k' :: ks,d0 :: ds,vs,fk,fy,k,d,w,hl,h,hd=>by
    simp only [Rps] at h
    obtain ⟨v,vs',f1,f2,rfl,rfl,h3,h4⟩:=h
    simp only [Fs.putVs]
    by_cases e:k' = k
    · rw [if_pos e,if_pos e]
      refine ⟨fy ++ f2,by simp only [Rps]; exact ⟨w,vs',fy,f2,rfl,rfl,hd,h4⟩,fun x=>?_⟩
      simp only [List.count_append]; omega
    · rw [if_neg e,if_neg e]
      obtain ⟨f',h5,h6⟩:=Rps.putVs (k:=k) (by simpa using hl) h4 hd
      refine ⟨f1 ++ f',by simp only [Rps]; exact ⟨v,_,f1,f',rfl,rfl,h3,h5⟩,fun x=>?_⟩
      have:=h6 x
      simp only [List.count_append] at this ⊢
      omega
def rSetA:V → List V → Hp → VK → Prop:=fun o us H Q=>match us with
  | [i,v]=>rSetL o i v H (fun H'=>Q .non H') ∨ rSetD o i v H (fun H'=>Q .non H')
  | _=>False
def mSet:D → List D → Option (D × D)
  | .n .lst .own xs,[.v (.int i),y]=>(ixN xs.length i).map fun k=>(.n .lst .own (xs.set k y),.non)
  | .n (.dct ks) .own xs,[k,y]=>(keyD k).bind fun k=>if ks.Nodup ∧ xs.length < 100000 then some (.n (.dct (putKs ks k)) .own (putVs ks xs k y),.non) else none
  | _,_=>none
theorem mo_set:MOp cl rSetA mSet:=by
  intro A L B H δ σ c v xs us c' y Q j e k
  unfold mSet at e
  split at e
  · rename_i ys i z
    obtain ⟨n,e1,e2⟩:=Option.map_eq_some_iff.mp e
    cases e2
    obtain ⟨a,o,ks,rfl,ho,hs,hlen,⟨ft,ht⟩,rn⟩:=j.renew
    cases hs
    simp only [Rps] at ht
    obtain ⟨w,_,f1,f2,rfl,rfl,hw,w2,_,f3,f4,rfl,rfl,hw2,rfl,rfl⟩:=ht
    obtain ⟨rfl,rfl,_⟩:=hw.leafv
    obtain ⟨q1,q2,q3,q4⟩:=ixN_seq e1
    have h:=rn .lst (ys.set n z) (ks.set n w2) (.lst (ks.set n w2)) [.non] [.non] rfl fun fk ft hk ht=>by
      simp only [Rps] at ht
      obtain ⟨_,_,g1,g2,e5,rfl,hg,w3,_,g3,g4,e6,rfl,hg2,rfl,rfl⟩:=ht
      cases e5; cases e6
      obtain ⟨_,rfl,_⟩:=hg.leafv
      obtain ⟨f',h5,h6⟩:=Rps.setAt (n:=n) hk hg2
      refine ⟨f',[],h5,rps_non.mpr rfl,fun x=>?_⟩
      have:=h6 x
      simp only [List.count_append,List.count_nil] at this ⊢
      omega
    exact .inl ⟨a,ks,i,n,rfl,rfl,ho,by rw [← hlen]; exact e1,k .non _ _ h.1 h.2⟩
  · rename_i ks ys kk z
    obtain ⟨n,e1,e2⟩:=Option.bind_eq_some_iff.mp e
    split at e2
    · rename_i hl
      cases e2
      obtain ⟨a,o,us,rfl,ho,hs,hlen,⟨ft,ht⟩,rn⟩:=j.renew
      obtain ⟨hkl,rfl⟩:=hs
      simp only [Rps] at ht
      obtain ⟨w,_,f1,f2,rfl,rfl,hw,w2,_,f3,f4,rfl,rfl,hw2,rfl,rfl⟩:=ht
      have hk:=Zhn hw e1
      subst hk
      have h:=rn (.dct (putKs ks n)) (putVs ks ys n z) (putVs ks us n w2) (.dK ((putKs ks n).zip (putVs ks us n w2))) [.non] [.non] ⟨Zgo hkl,rfl⟩ fun fk ft hk ht=>by
        simp only [Rps] at ht
        obtain ⟨_,_,g1,g2,e5,rfl,hg,w3,_,g3,g4,e6,rfl,hg2,rfl,rfl⟩:=ht
        cases e5; cases e6
        obtain ⟨f',h5,h6⟩:=Rps.putVs (k:=n) (hkl.trans hlen.symm) hk hg2
        refine ⟨f',[],h5,rps_non.mpr rfl,fun x=>?_⟩
        have:=h6 x
        simp only [List.count_append,List.count_nil] at this ⊢
        omega
      refine .inr ⟨a,_,rfl,DPut.k ho ?_,?_⟩
      · rw [List.length_zip,hkl,Nat.min_self,← hlen]; exact sz_lt hl.2
      · rw [ZhG n w2 hl.1 hkl]
        exact k .non _ _ h.1 h.2
    · cases e2
  · cases e
def putFs:List Str → Str → List Str
  | [],f=>[f]
  | g :: fs,f=>if g = f then g :: fs else g :: putFs fs f
def putXs {α:Type}:List Str → List α → Str → α → List α
  | [],xs,_,y=>xs ++ [y]
  | _ :: _,[],_,y=>[y]
  | g :: fs,x :: xs,f,y=>if g = f then y :: xs else x :: putXs fs xs f y
theorem ZhH:∀ {fs:List Str} {vs:List V} (f:Str) (y:V),fs.length = vs.length → putF f y (fs.zip vs) = (putFs fs f).zip (putXs fs vs f y)
  | [],[],f,y,_=>rfl
  | [],_ :: _,f,y,h=>by cases h
  | _ :: _,[],f,y,h=>by cases h
  | g :: fs,v :: vs,f,y,h=>by
    simp only [List.zip_cons_cons,putF,putFs,putXs]
    by_cases e:g = f
    · simp only [if_pos e,List.zip_cons_cons]
    · simp only [if_neg e,List.zip_cons_cons]; rw [ZhH f y (by simpa using h)]
theorem Zgn {α:Type}:∀ {fs:List Str} {xs:List α} {f:Str} {y:α},fs.length = xs.length → (putFs fs f).length = (putXs fs xs f y).length
  | [],xs,f,y,h=>by simp [putFs,putXs] at h ⊢; exact List.eq_nil_of_length_eq_zero h.symm
  | g :: fs,[],f,y,h=>by cases h
  | g :: fs,x :: xs,f,y,h=>by
    simp only [putFs,putXs]
    by_cases e:g = f
    · simp only [if_pos e,List.length_cons]; simpa using h
    · simp only [if_neg e,List.length_cons]; rw [Zgn (by simpa using h)]
theorem Rps.putXs:∀ {fs:List Str} {ds:List D} {vs:List V} {fk fy:List Addr} {f:Str} {d:D} {w:V},fs.length = ds.length → Rps cl A L H b ds vs fk → Rp cl A L H b d w fy → ∃ f',Rps cl A L H b (Fs.putXs fs ds f d) (Fs.putXs fs vs f w) f' ∧ ∀ x,f'.count x ≤ (fk ++ fy).count x
  | [],ds,vs,fk,fy,k,d,w,hl,h,hd=>by
    cases ds with
    | cons=>cases hl
    | nil =>
      simp only [Rps] at h
      obtain ⟨rfl,rfl⟩:=h
      refine ⟨fy,?_,fun x=>by simp⟩
      simp only [Fs.putXs,List.nil_append,Rps]
      exact ⟨w,[],fy,[],rfl,by simp,hd,rfl,rfl⟩
  | k' :: ks,[],vs,fk,fy,k,d,w,hl,h,hd=>by cases hl
  | k' :: ks,d0 :: ds,vs,fk,fy,k,d,w,hl,h,hd=>by
    simp only [Rps] at h
    obtain ⟨v,vs',f1,f2,rfl,rfl,h3,h4⟩:=h
    simp only [Fs.putXs]
    by_cases e:k' = k
    · rw [if_pos e,if_pos e]
      refine ⟨fy ++ f2,by simp only [Rps]; exact ⟨w,vs',fy,f2,rfl,rfl,hd,h4⟩,fun x=>?_⟩
      simp only [List.count_append]; omega
    · rw [if_neg e,if_neg e]
      obtain ⟨f',h5,h6⟩:=Rps.putXs (f:=k) (by simpa using hl) h4 hd
      refine ⟨f1 ++ f',by simp only [Rps]; exact ⟨v,_,f1,f',rfl,rfl,h3,h5⟩,fun x=>?_⟩
      have:=h6 x
      simp only [List.count_append] at this ⊢
      omega
def rPutF (K:PySem.W.Frag) (f:Str):V → List V → Hp → VK → Prop:=fun x us H Q=>match us with
  | [y]=>∃ a C dx fs,x = .ref a ∧ H a = some (.ins C dx fs) ∧ Cls K C ∧ NoAttr K C f ∧ fs.length < 1000 ∧ Q .non (upd H a (.ins C dx (putF f y fs)))
  | _=>False
def mFld (c:Nat) (f:Str):D → List D → Option (D × D)
  | .n (.obj c' fs) .own xs,[y]=>if c' = c ∧ fs.length < 1000 then some (.n (.obj c' (putFs fs f)) .own (putXs fs xs f y),.non) else none
  | _,_=>none
theorem mo_fld {K:PySem.W.Frag} {c:Nat} {f:Str} (hc:Cls K (cl.c c)) (hn:NoAttr K (cl.c c) f):MOp cl (rPutF K f) (mFld c f):=by
  intro A L B H δ σ c0 v xs us c' y Q j e k
  unfold mFld at e
  split at e
  · rename_i cc fs ys z
    split at e
    · rename_i hl
      cases e
      obtain ⟨rfl,hl⟩:=hl
      obtain ⟨a,o,us,rfl,ho,hs,hlen,⟨ft,ht⟩,rn⟩:=j.renew
      obtain ⟨hkl,dx,rfl⟩:=hs
      simp only [Rps] at ht
      obtain ⟨w,_,f1,f2,rfl,rfl,hw,rfl,rfl⟩:=ht
      have h:=rn (.obj cc (putFs fs f)) (putXs fs ys f z) (putXs fs us f w) (.ins (cl.c cc) dx ((putFs fs f).zip (putXs fs us f w))) [.non] [.non] ⟨Zgn hkl,dx,rfl⟩ fun fk ft hk ht=>by
        simp only [Rps] at ht
        obtain ⟨_,_,g1,g2,e5,rfl,hg,rfl,rfl⟩:=ht
        cases e5
        obtain ⟨f',h5,h6⟩:=Rps.putXs (f:=f) (hkl.trans hlen.symm) hk hg
        refine ⟨f',[],h5,rps_non.mpr rfl,fun x=>?_⟩
        have:=h6 x
        simp only [List.count_append,List.count_nil] at this ⊢
        omega
      refine ⟨a,_,dx,_,rfl,ho,hc,hn,?_,?_⟩
      · rw [List.length_zip,hkl,Nat.min_self,← hkl]; exact hl
      · rw [ZhH f w hkl]
        exact k .non _ _ h.1 h.2
    · cases e
  · cases e
end
end Fs
set_option maxHeartbeats 1000000
namespace Fs
open PySem PySem.Spec PyProof.Rows L2
abbrev PL:=Sl → Option (Nat × List Nat)
def SL (cl:Ec) (te:TE) (pl:PL):Prop:=∀ A L H δ σ g i π d c v0 vc Q,Rpo cl A L H δ σ g → pl δ = some (i,π) → (δ[i]?).join = some d → getP π d = some c → σ[i]? = some (some v0) → AtP H v0 π vc → Q vc H → te σ H Q
def plV (i:Nat):PL:=fun _=>some (i,[])
def ixS (f:Str):List Str → Option Nat
  | []=>none
  | g :: fs=>if g = f then some 0 else (ixS f fs).map (· + 1)
def atPl (δ:Sl) (q:Nat × List Nat):Option D:=((δ[q.1]?).join).bind (getP q.2)
def plF (c:Nat) (f:Str) (pl:PL):PL:=fun δ=>(pl δ).bind fun q=>(atPl δ q).bind fun x=>match x with
  | .n (.obj c' fs) _ _=>if c' = c then (ixS f fs).map fun n=>(q.1,q.2 ++ [n]) else none
  | _=>none
section
variable {cl:Ec} {xf:Nat → List Str} {W:WX} {ws:Nat → Bool} {A A' L L' B:Addr → Prop} {H H':Hp} {δ δ':Sl} {σ σ':L2.St} {p q b:Bool} {te ta tb tc:TE} {tA:TA} {tt tu:TT} {t u:TS} {ts:List D} {vs:List V}
theorem sl_var {i:Nat}:SL cl (tVar i) (plV i):=by
  intro A L H δ σ g j π d c v0 vc Q h e hd hp hv ha k
  cases e
  cases ha
  exact ⟨v0,hv,k⟩
theorem ZjF {n:Nat}:∀ {π:List Nat} {v w:V},AtP H v (π ++ [n]) w → ∃ a o us,AtP H v π (.ref a) ∧ H a = some o ∧ kids o = some us ∧ us[n]? = some w
  | [],v,w,h=>by
    obtain ⟨a,o,us,v1,rfl,h2,h3,h4,rfl⟩:=h
    exact ⟨a,o,us,rfl,h2,h3,h4⟩
  | i :: π,v,w,h=>by
    obtain ⟨a,o,us,v1,rfl,h2,h3,h4,h5⟩:=h
    obtain ⟨a',o',us',k1,k2,k3,k4⟩:=ZjF h5
    exact ⟨a',o',us',⟨a,o,us,v1,rfl,h2,h3,h4,k1⟩,k2,k3,k4⟩
theorem AtP.det:∀ {π:List Nat} {v w w':V},AtP H v π w → AtP H v π w' → w = w'
  | [],v,w,w',h,h'=>by cases h; cases h'; rfl
  | i :: π,v,w,w',h,h'=>by
    obtain ⟨a,o,us,v1,rfl,h2,h3,h4,h5⟩:=h
    obtain ⟨a',o',us',v1',e,h2',h3',h4',h5'⟩:=h'
    cases e
    rw [h2] at h2'; cases h2'
    rw [h3] at h3'; cases h3'
    rw [h4] at h4'; cases h4'
    exact AtP.det h5 h5'
def ExT (H H':Hp):Prop:=∀ a o,H a = some o → NT o → H' a = some o
theorem AtP.ex:∀ {π:List Nat} {v w:V},AtP H v π w → ExT H H' → AtP H' v π w
  | [],v,w,h,_=>h
  | i :: π,v,w,h,x=>by
    obtain ⟨a,o,us,v1,rfl,h2,h3,h4,h5⟩:=h
    exact ⟨a,o,us,v1,rfl,x a o h2 (fun ps e=>by rw [e] at h3; cases h3),h3,h4,h5.ex x⟩
theorem Nx.ex (n:Nx A A H A' H'):ExT H H':=fun a o h t=>by
  by_cases hA:A a
  · rw [(n.prot a hA).1]; exact h
  · exact n.keep a o h hA t
theorem Rp.atP:∀ {π:List Nat} {d c:D} {v w:V} {fp:List Addr},Rp cl A L H true d v fp → getP π d = some c → AtP H v π w → ∃ fp',Rp cl A L H true c w fp'
  | [],d,c,v,w,fp,h,e,ha=>by cases e; cases ha; exact ⟨fp,h⟩
  | i :: π,.v x,c,v,w,fp,h,e,ha=>by simp [getP] at e
  | i :: π,.s x,c,v,w,fp,h,e,ha=>by simp [getP] at e
  | i :: π,.n k fl ds,c,v,w,fp,h,e,ha=>by
    simp only [getP] at e
    obtain ⟨c',h1,h2⟩:=Option.bind_eq_some_iff.mp e
    obtain ⟨a,o,us,fp',rfl,ho,hs,hr,hf⟩:=h.nodeN
    obtain ⟨a',o',us',v1,e',k2,k3,k4,k5⟩:=ha
    cases e'
    rw [ho] at k2
    cases k2
    have hk:kids o = some us:=by
      rcases hs with ⟨hs,_⟩ | ⟨_,ks,ob,_,_,rfl⟩
      · cases k with
        | dcl ks=>exact hs.elim
        | fn i=>obtain ⟨_,_,_,_,_,rfl⟩:=hs; cases k3
        | code q=>obtain ⟨_,rfl⟩:=hs; cases k3
        | cell=>obtain ⟨_,_,_,rfl⟩:=hs; cases k3
        | tup=>exact Shape.kids hs rfl rfl
        | lst=>exact Shape.kids hs rfl rfl
        | dct ks=>exact Shape.kids hs rfl rfl
        | obj c fs=>exact Shape.kids hs rfl rfl
      · cases k3
    rw [hk] at k3
    cases k3
    obtain ⟨v2,f1,g1,g2,g3⟩:=hr.get h1
    rw [k4] at g1
    cases g1
    exact Rp.atP g2 h2 k5
theorem ZfE {f:Str}:∀ {fs:List Str} {us:List V} {n:Nat} {w:V},ixS f fs = some n → us[n]? = some w → (fs.zip us).lookup f = some w
  | [],us,n,w,h,e=>by cases h
  | g :: fs,[],n,w,h,e=>by simp at e
  | g :: fs,u :: us,n,w,h,e=>by
    unfold ixS at h
    rw [List.zip_cons_cons,List.lookup_cons]
    split at h
    · rename_i hg
      cases h
      subst hg
      simp only [beq_self_eq_true]
      simpa using e
    · rename_i hg
      obtain ⟨m,h1,rfl⟩:=Option.map_eq_some_iff.mp h
      have:(f == g) = false:=by rw [beq_eq_false_iff_ne]; exact fun z=>hg z.symm
      rw [this]
      exact ZfE h1 (by simpa using e)
theorem sl_fld {K:PySem.W.Frag} {c:Nat} {f:Str} {pl:PL} (hc:Cls K (cl.c c)) (hn:NoAttr K (cl.c c) f) (h:SL cl te pl):SL cl (tUn (rFld K f) te) (plF c f pl):=by
  intro A L H δ σ g j π d c0 v0 vc Q hr e hd hp hv ha k
  unfold plF at e
  obtain ⟨q,e1,e2⟩:=Option.bind_eq_some_iff.mp e
  obtain ⟨x,e3,e4⟩:=Option.bind_eq_some_iff.mp e2
  split at e4
  · rename_i c' fs w ds
    split at e4
    · rename_i hcc
      subst hcc
      obtain ⟨n,e5,e6⟩:=Option.map_eq_some_iff.mp e4
      cases e6
      obtain ⟨a,o,us,k1,k2,k3,k4⟩:=ZjF ha
      unfold atPl at e3
      rw [hd] at e3
      simp only [Option.bind_some] at e3
      refine h A L H δ σ g q.1 q.2 d _ v0 (.ref a) _ hr (by rw [e1]) hd e3 hv k1 ?_
      obtain ⟨v1,f1,g1,g2,g3⟩:=hr.get (join_some hd)
      rw [hv] at g1
      cases g1
      obtain ⟨fp',g4⟩:=g2.atP e3 k1
      obtain ⟨a',o',us',fp2,e',ho,hs,hr2,_⟩:=g4.node
      cases e'
      obtain ⟨hl,dx,rfl⟩:=hs
      rw [ho] at k2
      cases k2
      simp only [kids,Option.some.injEq] at k3
      rw [ZeM _ _ hl] at k3
      subst k3
      exact ⟨a,_,dx,_,vc,rfl,ho,hc,hn,ZfE e5 k4,k⟩
    · cases e4
  · cases e4
theorem Jt.backQ {us:List D} {xs:List V} (h0:Jt p cl A L B H ts vs δ σ) (x:Nx A A H A' H') (j:Jt true cl A' L A H' us xs δ σ):Jt p cl A' L B H' (ts ++ us) (vs ++ xs) δ σ:=by
  obtain ⟨f,g,h1,h2,h3,h4,h5⟩:=h0.ex
  obtain ⟨f2,g2,k1,k2,k3,k4,k5⟩:=j.ex
  have nd:=List.nodup_append.mp h3
  have fA:∀ a ∈ f,A a:=fun a ha=>(h1.inA a ha).1
  have gA:∀ a ∈ g,A a:=fun a ha=>(h2.inA a ha).1
  have nd2:=List.nodup_append.mp k3
  refine ⟨⟨f ++ f2,g,Rps.append (h1.step x.both (fun a ha=>x.prot a (fA a ha)) (by simp)) k1,h2.step x.both (fun a ha=>x.prot a (gA a ha)) (fun a h=>⟨(x.prot a (h0.ba a (h0.lb a h))).1,h⟩),?_,?_,h5⟩,h0.lb,fun a h=>(x.prot a (h0.ba a h)).2,j.ad,j.tb⟩
  · rw [List.append_assoc]
    refine List.nodup_append.mpr ⟨nd.1,List.nodup_append.mpr ⟨nd2.1,nd.2.1,fun a ha c hc e=>?_⟩,fun a ha c hc e=>?_⟩
    · subst e; exact k4 a ha (gA a hc)
    · subst e
      rcases List.mem_append.mp hc with hc | hc
      · exact k4 a hc (fA a ha)
      · exact nd.2.2 a ha a hc rfl
  · intro a ha q
    rcases List.mem_append.mp ha with ha | ha
    · exact h4 a ha q
    · exact k4 a ha (h0.ba a q)
theorem Jt.swap {x y:D} {u w:V} (j:Jt p cl A L B H [x,y] [u,w] δ σ):Jt p cl A L B H [y,x] [w,u] δ σ:=by
  obtain ⟨f,g,h1,h2,h3,h4,h5⟩:=j.ex
  simp only [Rps] at h1
  obtain ⟨_,_,f1,f2,e,rfl,hx,_,_,f3,f4,e2,rfl,hy,rfl,rfl⟩:=h1
  cases e; cases e2
  refine ⟨⟨f3 ++ (f1 ++ []),g,by simp only [Rps]; exact ⟨w,[u],f3,f1 ++ [],rfl,rfl,hy,u,[],f1,[],rfl,rfl,hx,rfl,rfl⟩,h2,?_,fun a ha=>h4 a (by simp at ha ⊢; exact ha.symm),h5⟩,j.lb,j.ba,j.ad,j.tb⟩
  have hp:(f3 ++ (f1 ++ []) ++ g).Perm (f1 ++ (f3 ++ []) ++ g):=Zg9 fun x=>by simp only [List.count_append,List.count_nil]; omega
  exact hp.nodup_iff.mpr h3
def dMutC (pl:PL) (chk:D → Bool) (k:Nat → List Nat → D → D → Out D):DE:=fun δ=>match pl δ with
  | none=>.bad
  | some (i,π)=>match (δ[i]?).join with
    | none=>.bad
    | some d=>match getP π d with
      | none=>.bad
      | some c=>if d.free && ownP π d && chk c then k i π d c else .bad
def mutEnd (op:D → List D → Option (D × D)) (i:Nat) (π:List Nat) (d c:D) (xs:List D) (δ1:Sl):Out D:=match op c xs with
  | some r=>.ok r.2 (δ1.set i (some (setP π d r.1)))
  | none=>.bad
def dMut (pl:PL) (T:String) (op:D → List D → Option (D × D)) (r:DA):DE:=fun δ=>dMutC pl (fun c=>(tyF T c).isSome) (fun i π d c=>(r δ).bind fun xs δ1=>mutEnd op i π d c xs δ1) δ
theorem se_mut {pl:PL} {T:String} {rr:V → List V → Hp → VK → Prop} {op:D → List D → Option (D × D)} {r:DA} (ho:SL cl te pl) (hr:SA cl xf W true tA r) (mo:MOp cl rr op):SE cl xf W false (tBM cl.K T rr te tA) (dMut pl T op r):=by
  refine ⟨fun z=>(by cases z),fun A L B H δ σ Q j k=>?_⟩
  unfold dMut dMutC at k
  split at k
  · exact k.elim
  · rename_i i π e1
    split at k
    · exact k.elim
    · rename_i d e2
      split at k
      · exact k.elim
      · rename_i c e3
        split at k
        · rename_i hc
          simp only [Bool.and_eq_true] at hc
          obtain ⟨⟨hfr,how⟩,hty⟩:=hc
          obtain ⟨v0,vc,B',h1,h2,_,_,_,_⟩:=j.focus e2 hfr e3 how
          obtain ⟨g,hg,nd,_⟩:=j.drop0
          refine ho A L H δ σ g i π d c v0 vc _ hg e1 e2 e3 h1 h2 ?_
          obtain ⟨v1,f1,g1,g2,g3⟩:=hg.get (join_some e2)
          rw [h1] at g1
          cases g1
          obtain ⟨fp',g4⟩:=g2.atP e3 h2
          obtain ⟨z,hz⟩:=Option.isSome_iff_exists.mp hty
          refine ⟨(tyF_ok g4 hz).2,?_⟩
          have hp:=hr.pure rfl δ
          refine hr.run A L A H δ σ _ j.toPure ?_
          cases e4:r δ with
          | bad=>rw [e4] at k; exact k.elim
          | exc cc xs s =>
            rw [e4] at k hp
            cases (show s = δ from hp)
            exact fun d us A2 H2 n2 x2 j2=>k d us A2 H2 (n2.weak j.ba) x2 (j.ofPure2 n2 j2)
          | ok xs s =>
            rw [e4] at k hp
            cases (show s = δ from hp)
            simp only [Out.bind] at k
            intro us A1 H1 n1 j1
            have j1':=j.ofPure n1 j1
            obtain ⟨v0',vc',B2,q1,q2,q3,q3',q4,q5⟩:=j1'.focus e2 hfr e3 how
            rw [h1] at q1
            cases q1
            have ev:=(h2.ex n1.ex).det q2
            subst ev
            unfold mutEnd at k
            cases e5:op c xs with
            | none=>rw [e5] at k; exact k.elim
            | some rs =>
              obtain ⟨c',y⟩:=rs
              rw [e5] at k
              simp only at k
              have hlen:i < δ.length:=by
                have:=join_some e2
                exact (List.getElem?_eq_some_iff.mp this).1
              refine mo A1 L B2 H1 (δ.set i none) σ c vc xs us c' y Q q4 e5 fun w A2 H2 n2 j2=>?_
              have j3:=q5 A2 H2 c' [y] [w] (δ.set i none) (by simp [hlen]) n2 j2
              rw [List.set_set] at j3
              exact k [w] A2 H2 ((n1.weak j.ba).trans (n2.weak q3)) j3 w rfl
        · exact k.elim
end
end Fs
set_option maxHeartbeats 1000000
namespace Fs
open PySem PySem.Spec PyProof.Rows L2
def stEnd (op:D → List D → Option (D × D)) (i:Nat) (π:List Nat) (d c:D) (xs:List D) (δ1:Sl):Out Flow:=match op c xs with
  | some r=>.ok .nx (δ1.set i (some (setP π d r.1)))
  | none=>.bad
def stC (pl:PL) (δ:Sl) (k:Nat → List Nat → D → D → Out Flow):Out Flow:=match pl δ with
  | none=>.bad
  | some (i,π)=>match (δ[i]?).join with
    | none=>.bad
    | some d=>match getP π d with
      | none=>.bad
      | some c=>if d.free && ownP π d then k i π d c else .bad
def ZcB (pl:PL) (kd:DE) (fz:Bool) (e:DE):DS:=fun δ=>(e δ).bind fun y δ1=>stC pl δ1 fun i π d c=>(noX (kd δ1)).bind fun kk δ2=>stEnd mSet i π d c [kk,if fz then frz y else y] δ2
def dsFldS (pl:PL) (c0:Nat) (f:Str) (e:DE):DS:=fun δ=>(e δ).bind fun y δ1=>stC pl δ1 fun i π d c=>stEnd (mFld c0 f) i π d c [y] δ1
section
variable {cl:Ec} {xf:Nat → List Str} {W:WX} {ws:Nat → Bool} {A A' L L' B:Addr → Prop} {H H':Hp} {δ δ':Sl} {σ σ':L2.St} {p q b:Bool} {te ta tb tc:TE} {tA:TA} {tt tu:TT} {t u:TS} {ts:List D} {vs:List V}
theorem st_run {rr:V → List V → Hp → VK → Prop} {op:D → List D → Option (D × D)} {E:Ends} {i:Nat} {π:List Nat} {d c:D} {xs:List D} {us:List V} {v0 vc:V} (mo:MOp cl rr op) (j:Jt false cl A L B H xs us δ σ) (e2:(δ[i]?).join = some d) (hfr:d.free = true) (e3:getP π d = some c) (how:ownP π d = true) (h1:σ[i]? = some (some v0)) (h2:AtP H v0 π vc)
    (k:PostS cl xf W ws (stEnd op i π d c xs δ) A L B H σ E):rr vc us H fun _ H'=>E.nx σ H':=by
  obtain ⟨v0',vc',B2,q1,q2,q3,q3',q4,q5⟩:=j.focus e2 hfr e3 how
  rw [h1] at q1
  cases q1
  have ev:=h2.det q2
  subst ev
  unfold stEnd at k
  cases e5:op c xs with
  | none=>rw [e5] at k; exact k.elim
  | some rs =>
    obtain ⟨c',y⟩:=rs
    rw [e5] at k
    simp only at k
    have hlen:i < δ.length:=(List.getElem?_eq_some_iff.mp (join_some e2)).1
    refine mo A L B2 H (δ.set i none) σ c vc xs us c' y _ q4 e5 fun w A2 H2 n2 j2=>?_
    have j3:=q5 A2 H2 c' [y] [w] (δ.set i none) (by simp [hlen]) n2 j2
    rw [List.set_set] at j3
    exact k A2 H2 σ (n2.weak q3) (Kp.refl σ) j3.drop
theorem ZjR {pl:PL} {kd e:DE} {fz:Bool} (ho:SL cl te pl) (hk:SE cl xf W true tb kd) (he:SE cl xf W false ta e):SS cl xf W ws (tAsg ta (gSub te tb fun o i v H Q=>rSetL o i v H Q ∨ rSetD o i v H Q)) (ZcB pl kd fz e):=fun A L B H δ σ E j k=>by
  refine he.run A L B H δ σ _ j (PostS.bind k fun y δ1 vs A1 H1 e0 n1 j1 k1 v ev=>?_)
  subst ev
  unfold stC at k1
  split at k1
  · exact k1.elim
  · rename_i i π e1
    split at k1
    · exact k1.elim
    · rename_i d e2
      split at k1
      · exact k1.elim
      · rename_i c e3
        split at k1
        · rename_i hc
          simp only [Bool.and_eq_true] at hc
          obtain ⟨hfr,how⟩:=hc
          dsimp only at k1
          obtain ⟨v0,vc,B1,h1,h2,_,_,_,_⟩:=j1.focus e2 hfr e3 how
          obtain ⟨g,hg,nd,_⟩:=j1.drop0
          refine ho A1 L H1 δ1 σ g i π d c v0 vc _ hg e1 e2 e3 h1 h2 ?_
          have hp:=hk.pure rfl δ1
          refine hk.run A1 L A1 H1 δ1 σ _ j1.drop.toPure ?_
          cases e4:kd δ1 with
          | bad=>rw [e4] at k1; exact k1.elim
          | exc cc xs s=>rw [e4] at k1; exact k1.elim
          | ok kk s =>
            rw [e4] at k1 hp
            cases (show s = δ1 from hp)
            simp only [noX,Out.bind] at k1
            intro us A2 H2 n2 j2 kv ek
            subst ek
            have j3:Jt false cl A2 L B H2 [kk,y] [kv,v] δ1 σ:=(Jt.backQ j1 n2 j2).swap
            have n3:Nx A B H A2 H2:=n1.trans (n2.weak j1.ba)
            cases fz with
            | false=>exact st_run (rr:=rSetA) mo_set j3 e2 hfr e3 how h1 (h2.ex n2.ex) (PostS.step k1 n3 (Kp.refl σ))
            | true =>
              obtain ⟨A3,n4,j4⟩:=j3.freezeTail
              simp only [frzs] at j4
              exact st_run (rr:=rSetA) mo_set j4 e2 hfr e3 how h1 (h2.ex n2.ex) (PostS.step k1 (n3.trans n4) (Kp.refl σ))
        · exact k1.elim
theorem ZkC {pl:PL} {c0:Nat} {f:Str} {e:DE} (hc0:Cls cl.K (cl.c c0)) (hn0:NoAttr cl.K (cl.c c0) f) (ho:SL cl te pl) (he:SE cl xf W false ta e):SS cl xf W ws (sFld cl.K te ta f) (dsFldS pl c0 f e):=fun A L B H δ σ E j k=>by
  refine he.run A L B H δ σ _ j (PostS.bind k fun y δ1 vs A1 H1 e0 n1 j1 k1 v ev=>?_)
  subst ev
  unfold stC at k1
  split at k1
  · exact k1.elim
  · rename_i i π e1
    split at k1
    · exact k1.elim
    · rename_i d e2
      split at k1
      · exact k1.elim
      · rename_i c e3
        split at k1
        · rename_i hc
          simp only [Bool.and_eq_true] at hc
          obtain ⟨hfr,how⟩:=hc
          dsimp only at k1
          obtain ⟨v0,vc,B1,h1,h2,_,_,_,_⟩:=j1.focus e2 hfr e3 how
          obtain ⟨g,hg,nd,_⟩:=j1.drop0
          refine ho A1 L H1 δ1 σ g i π d c v0 vc _ hg e1 e2 e3 h1 h2 ?_
          exact st_run (rr:=rPutF cl.K f) (mo_fld hc0 hn0) j1 e2 hfr e3 how h1 h2 (PostS.step k1 n1 (Kp.refl σ))
        · exact k1.elim
end
end Fs
namespace Rm
open PySem PySem.W PySem.Spec PyProof.Rows L2
abbrev tupIt (a:Addr):Obj:={ cls:=.type "tuple_iterator",data:=.fields #[.ref a,.int 0 0] }
abbrev enObj (i:Addr):Obj:={ cls:=.type "enumerate",data:=.fields #[.none,.bool false,.ref i,rawInt 0,.none,.none] }
theorem Zjq {v:Value} {o:Obj} {G:Heap → Prop} (B:Begins v o G):Meets (Builtin.«enumerate.__new__» ⟨[.type "enumerate",v],[]⟩) (fun _ R s=>G s.heap ∧ R (.ok (.ret (.ref (s.heap.push o).objs.size))) { s with heap:=(s.heap.push o).push (enObj s.heap.objs.size) }):=.of_wp fun P wo B0 R st hR=>by
    rcases st with ⟨hp,gn,dr,n,out⟩
    have sub:=sub_enumerate
    have walk:∀ {B1:Around} {E1:Value → Shared → Prop} {Q1:Value → Shared → Prop},Q1 (.ref hp.objs.size) ⟨hp.push o,gn,dr,n,out⟩ → wpAny (model P wo) B1 (pyIter v) Q1 E1 ⟨hp,gn,dr,n,out⟩:=B.iter P wo _ _ ⟨hp,gn,dr,n,out⟩ _ hR.1
    have fin:=hR.2
    wp_walk using walk
    apply wpAny_stack_any
    intro fr
    apply wpAny_pure
    split
    case h_1 c _ _ _ _ _=>cases (c == Value.type "enumerate") <;> (wp_walk using walk; exact ⟨_,rfl,fin⟩)
    all_goals (wp_walk using walk; exact ⟨_,rfl,fin⟩)
section
variable {P:Program} {wo:World} {B0:Around} {E0:Value → Shared → Prop} {st:Shared}
theorem Zkc {a:Addr} {vs:Array Value} {Q:Value → Shared → Prop} (ht:IsTup st.heap a vs) (k:∀ hp,IsEnum hp (st.heap.objs.size + 1) st.heap.objs.size 0 .none → hp.IsTupleIter st.heap.objs.size a 0 → (∀ b o,st.heap.get? b = some o → hp.get? b = some o) → Q (.ref (st.heap.objs.size + 1)) { st with heap:=hp }):wpAny (model P wo) B0 (call (.type "enumerate") [.ref a]) Q E0 st:=by
  have g0:(st.heap.push (tupIt a)).get? st.heap.objs.size = some (tupIt a):=Heap.get?_push_size _ rfl
  have n1:(st.heap.push (tupIt a)).objs.size = st.heap.objs.size + 1:=Heap.size_push ..
  have g1:((st.heap.push (tupIt a)).push (enObj st.heap.objs.size)).get? (st.heap.objs.size + 1) = some (enObj st.heap.objs.size):=n1 ▸ Heap.get?_push_size _ rfl
  refine callType_new F.called_enumerate (by decide) (F.typeCall_enumerate_1 _) (F.newCall_enumerate_1 _) (fun ob=>F.args_object_init_2 ob _) F.entry_enumerate_new (Zjq (begins_tuple a vs)) ⟨ht,?_⟩
  rw [n1]
  exact ⟨⟨_,g1,rfl⟩,k _ g1 ⟨_,Heap.get?_push_of_some _ g0,rfl,rfl⟩ fun b o q=>Heap.get?_push_of_some _ (Heap.get?_push_of_some _ q)⟩
theorem Zjr {e i a:Addr} {j:Nat} {vs:Array Value} {c:Int} {z:Value} {Q:Option Value → Shared → Prop} (nh:B0.handled = none) (g1:IsEnum st.heap e i c z) (g2:st.heap.IsTupleIter i a j) (ht:IsTup st.heap a vs) (hj:vs[j]? = none) (k:∀ hp,Heap.ExtBut i st.heap hp → Q none { st with heap:=hp }):wpAny (model P wo) B0 (pyNext (.ref e)) Q E0 st:=by
  have ty:st.TypeIs (.ref e) "enumerate":=⟨_,g1,rfl⟩
  exact wpAny_pyNext_enum_endD (n:=0) (P:=fun _ _=>False) (St:=fun m hp=>m = 0 ∧ hp.IsTupleIter i a j ∧ IsTup hp a vs) (fp:=[i,a])
    { live:=fun _ _ q=>let ⟨o,ho,_⟩:=q.2.1; ⟨o,ho⟩
      frame:=fun _ _ _ q hk=>⟨q.1,q.2.1.at fun o=>hk i (by simp) o,Heap.IsTuple.at (show Heap.IsTuple _ _ _ from q.2.2) fun o=>hk a (by simp) o⟩
      item:=fun m _ _ _ hm=>absurd hm (Nat.not_lt_zero m)
      done:=fun s1 Q1 E1 q hE=>wpAny_nextOf_tuple_end (A:=B0.in1) nh q.2.1 q.2.2 hj hE } g1 ⟨rfl,g2,ht⟩ k
end
def IteT (K:Frag) (a:Addr):It where
  go j G:=∃ (vs:List V) (x:V),SqT K G a vs ∧ vs[j]? = some x
  yld j G v G':=∃ n x,v = .ref n ∧ G n = none ∧ G' = upd G n (.tup [.int (j:Nat),x]) ∧ ∀ vs,SqT K G a vs → vs[j]? = some x
  stop j G:=∃ vs:List V,SqT K G a vs ∧ vs.length ≤ j
def EnT (a e i:Addr) (j:Nat) (hp:Heap):Prop:=(∃ z,IsEnum hp e i ((j:Nat):Int) z) ∧ hp.IsTupleIter i a j ∧ e ≠ i
theorem cls_ne {hp:Heap} {a b:Addr} {o o':Obj} {n m:String} (g:hp.get? a = some o) (g':hp.get? b = some o') (c:o.cls = .type n) (c':o'.cls = .type m) (h:n ≠ m):a ≠ b:=fun q=>by
  subst q
  rw [g'] at g
  obtain rfl:=Option.some.inj g
  rw [c'] at c
  exact h (Value.type.inj c).symm
theorem ZgX {P:Addr → Prop} {e i:Addr} (h1:P e) (h2:P i):∀ b ∈ [e,i],P b:=fun b q=>by
  cases q with
  | head=>exact h1
  | tail _ q=>cases q with
    | head=>exact h2
    | tail _ q=>cases q
theorem Zh5 {P:Program} {wo:World} {K:Frag} {es:List Expr} {c:Nat} {ps:Pos} (a e i:Addr):Turn P wo K (.Tuple es c ps) (IteT K a) [e,i] e (EnT a e i):=by
  refine ⟨List.mem_cons_self,?_,?_,?_,?_,?_⟩
  case refine_1 =>
    rintro j hp ⟨⟨z,g1⟩,⟨o,g2,_,g3⟩,_⟩
    exact ZgX ⟨_,g1,fun _ q=>by cases q⟩ ⟨o,g2,fun _ q=>by rw [g3] at q; cases q⟩
  case refine_2 =>
    rintro j hp hp' ⟨⟨z,g1⟩,g2,ne⟩ k
    exact ⟨⟨z,k e List.mem_cons_self _ g1⟩,g2.at (k i (List.mem_cons_of_mem _ List.mem_cons_self)),ne⟩
  case refine_3 =>
    rintro X rfl rfl rfl calm j pn st σ G E I fr ⟨⟨z,g1⟩,g2,ne⟩ ⟨vs,x,sq,gx⟩
    obtain ⟨us,rel,tup,_⟩:=I.tuple sq
    obtain ⟨u,gu,ru⟩:=rel.get gx
    have lt1:=Heap.lt_size g1
    have lt2:i < st.heap.objs.size:=let ⟨_,q,_⟩:=g2; Heap.lt_size q
    have ai:a ≠ i:=let ⟨_,q1,q2,_⟩:=tup; let ⟨_,q3,q4,_⟩:=g2; cls_ne q1 q3 q2 q4 (by decide)
    have ea:e ≠ a:=let ⟨_,q1,q2,_⟩:=tup; cls_ne g1 q1 rfl q2 (by decide)
    have lj:j < us.toArray.size:=by rw [List.size_toArray]; exact (List.getElem?_eq_some_iff.mp gu).1
    have efp:e ∉ [i,a]:=by simp [ne,ea]
    refine wpAny_pyNext_enum_itemD (Draws.tuple (A:=X.A.in1) (I.ok.hd calm) i a ai us.toArray) g1 ⟨g2,tup⟩ lj ne efp ?_
    intro y hp tk hy out stp gT _ kp
    have hyu:y = u:=Option.some.inj (((show us.toArray[j]? = some y from hy).symm.trans (by simp)).trans gu)
    subst hyu
    refine ⟨_,rfl,wpAny_letOwnedTupleGo_enum (s:={ st with heap:=hp,toks:=tk + 1 }) out ?_⟩
    intro hp2 g3 sb
    have gT2:=(sb.2 _ (Nat.ne_of_gt lt1)).trans gT
    have I1:=I.turnedNew (t':=tk + 1) (ch:=[e,i]) (T:=st.heap.objs.size) (ob:=.tup [.int (j:Nat),x]) (h':=hp2) (fun b o nb q=>by
      simp only [List.mem_cons,List.not_mem_nil,or_false,not_or] at nb
      exact (sb.2 b nb.1).trans (kp b o nb.1 nb.2 q)) fr (Nat.le_refl _) ⟨by show 2 ≤ sizeLine; decide,[.int j tk,y],.cons ⟨_,rfl⟩ (.cons ru .nil),⟨_,gT2,rfl,_,rfl⟩⟩
    have g4:∃ z,IsEnum hp2 e i ((j + 1:Nat):Int) z:=⟨y,by rw [Int.natCast_add]; exact g3⟩
    refine ⟨.ref _,_,I1,rfl,⟨_,x,rfl,I.hok.fresh (Nat.le_refl _),rfl,fun ws q=>I.tuple_inj sq q ▸ gx⟩,⟨g4,stp.1.at fun o q=>(sb.2 i ne.symm).trans q,ne⟩,?_⟩
    intro b hb
    have lb:=ZgX (P:=fun b=>b < st.heap.objs.size) lt1 lt2 b hb
    rw [upd_ne (Nat.ne_of_lt lb)]
    exact (fr b hb).1
  case refine_4 =>
    rintro X rfl rfl rfl calm j pn st σ G E I fr ⟨⟨z,g1⟩,g2,ne⟩ ⟨vs,sq,le⟩
    obtain ⟨us,rel,tup,_⟩:=I.tuple sq
    have hn:us.toArray[j]? = none:=by
      have:=rel.length
      simp only [List.getElem?_toArray,List.getElem?_eq_none_iff]
      omega
    obtain ⟨q0,q1,_,q3,q4,q5⟩:=fr i (List.mem_cons_of_mem _ List.mem_cons_self)
    exact Zjr (I.ok.hd calm) g1 g2 tup hn fun hp xb=>⟨rfl,I.turned (t':=st.toks) xb q0 q1 q3 q4 q5⟩
  case refine_5 =>
    rintro B j st Q E ⟨⟨z,g1⟩,_⟩ q
    exact wpAny_pyIter_enum g1 q
def iEnX (K:Frag) (ta:TA):TI:=fun σ G R=>ta σ G fun vs G1=>∃ a xs,vs = [.ref a] ∧ (SqL K G1 a xs ∧ R (Ite K a) G1 ∨ SqT K G1 a xs ∧ R (IteT K a) G1)
theorem pi_enX {X:Cx} {e:Expr} {ta:TA} {p1 p2 p3:Pos} {es:List Expr} {c:Nat} (gl:Gl X "enumerate") (hm:X.mg "enumerate" = none) (ha:PA X [e] ta) (hs:starEach [e] X.env = [(false,eval e X.env)]:=by rfl):PI X (.Tuple es c p3) (.Call (.Name "enumerate" p1) [e] [] p2) (iEnX X.K ta) where
  run pn st σ G R I h:=by
    refine Call_ (ld_blt I gl hm boot_enumerate (PyProof.Rows.callWith_type1 (thn (ha.run p2 pn st σ G _ I h) ?_) hs rfl))
    rintro us s1 ⟨vs,G1,I1,rel,a,xs,rfl,q⟩
    rcases rel with _ | ⟨r,r'⟩
    cases r'
    cases r
    have new:∀ b ∈ [s1.heap.objs.size + 1,s1.heap.objs.size],FpOk X pn G1 b:=ZgX (I1.fpOk (Nat.le_succ _) (I1.hok.fresh (Nat.le_succ _))) (I1.fpOk (Nat.le_refl _) (I1.hok.fresh (Nat.le_refl _)))
    rcases q with ⟨sq,q⟩ | ⟨sq,q⟩
    · obtain ⟨_,_,l,_⟩:=I1.list sq
      refine call_enumerate_list l.isList fun hp g1 g2 _ kp=>wpAny_pyIter_enum g1 ?_
      exact ⟨_,_,_,_,G1,rfl,I1.kept (t':=s1.toks) kp,turn_enum a _ _,⟨⟨_,g1⟩,g2,Nat.succ_ne_self _⟩,new,q⟩
    · obtain ⟨_,_,l,_⟩:=I1.tuple sq
      refine Zkc l fun hp g1 g2 kp=>wpAny_pyIter_enum g1 ?_
      exact ⟨_,_,_,_,G1,rfl,I1.kept (t':=s1.toks) kp,Zh5 a _ _,⟨⟨_,g1⟩,g2,Nat.succ_ne_self _⟩,new,q⟩
end Rm
set_option maxHeartbeats 1000000
namespace Fs
open PySem PySem.Spec PyProof.Rows L2
def iAny (K:PySem.W.Frag) (te:TE):TI:=fun σ H R=>te σ H fun x H1=>(∃ a,x = .ref a ∧ (∃ xs,SqL K H1 a xs) ∧ R (Itl K a) H1) ∨ (∃ a,x = .ref a ∧ (∃ xs,SqT K H1 a xs) ∧ R (Itt K a) H1) ∨ (∃ z,x = .str z ∧ R (Its z) H1)
theorem pi_any {X:Cx} {tg e:Expr} {te:TE} (he:PE X e te):PI X tg e (iAny X.K te):=by
  refine ⟨fun pins s σ H R I h=>thn (he.run pins s σ H _ I h) fun v s1 ⟨x,H1,I1,r1,q1⟩=>?_⟩
  have fp:∀ b ∈ [s1.heap.objs.size],FpOk X pins H1 b:=fun b hb=>by
    have e:b = s1.heap.objs.size:=by simpa using hb
    rw [e]; exact I1.fpOk (Nat.le_refl _) (I1.hok.fresh (Nat.le_refl _))
  rcases q1 with ⟨a,rfl,⟨xs,hq⟩,q⟩ | ⟨a,rfl,⟨xs,hq⟩,q⟩ | ⟨z,rfl,q⟩
  · cases r1
    obtain ⟨its,rv,pl,hz⟩:=I1.list hq
    exact wpAny_pyIter_list pl.isList ⟨s1.heap.objs.size,[s1.heap.objs.size],_,_,H1,rfl,I1.kept (t':=s1.toks) fun b o e=>Heap.get?_push_of_some _ e,turn_list a _,⟨_,Heap.get?_push_size _ rfl,rfl,rfl⟩,fp,q⟩
  · cases r1
    obtain ⟨its,rv,pl,hz⟩:=I1.tuple hq
    exact wpAny_pyIter_tuple (show s1.heap.IsTuple a its.toArray from pl) ⟨s1.heap.objs.size,[s1.heap.objs.size],_,_,H1,rfl,I1.kept (t':=s1.toks) fun b o e=>Heap.get?_push_of_some _ e,turn_tuple a _,⟨_,Heap.get?_push_size _ rfl,rfl,rfl⟩,fp,q⟩
  · obtain ⟨t,rfl⟩:=r1
    cases ha:z.cps.all (· < 128)
    · exact wpAny_pyIter_wide ha (pi_one (tk:=s1.toks) I1 _ (turn_str _ z t "str_iterator" (.inr rfl)) ⟨_,Heap.get?_push_size _ rfl,rfl,rfl⟩ q)
    · exact wpAny_pyIter_ascii ha (pi_one (tk:=s1.toks) I1 _ (turn_str _ z t "str_ascii_iterator" (.inl rfl)) ⟨_,Heap.get?_push_size _ rfl,rfl,rfl⟩ q)
def itA (p:Bool):D → Option (List D)
  | .n .lst w xs=>if xs.all D.kept = true ∧ (p = true ∨ w ≠ .own) then some xs else none
  | .n .tup w xs=>if xs.all D.kept = true ∧ (p = true ∨ w ≠ .own) then some xs else none
  | .s ns=>some (ns.map D.int)
  | .v (.str s)=>some (s.cps.toList.map fun c=>D.str ⟨#[c]⟩)
  | _=>none
section
variable {cl:Ec} {xf:Nat → List Str} {W:WX} {ws:Nat → Bool} {A A' L L' B:Addr → Prop} {H H':Hp} {δ δ':Sl} {σ σ':L2.St} {p q b:Bool} {te ta tb tc:TE} {tA:TA} {tt tu:TT} {t u:TS} {ts:List D} {vs:List V}
theorem it_str {s:Str}:ItOk cl L B (Its s) (s.cps.toList.map fun c=>D.str ⟨#[c]⟩) A H:=by
  intro A1 H1 n1
  refine ⟨fun i hi=>by simpa [Its] using hi,fun i hi=>by simpa [Its] using hi,fun i x H2 d e hy p B1 δ σ hb j=>?_⟩
  obtain ⟨rfl,c,hc,rfl⟩:=hy
  have ed:d = D.str ⟨#[c]⟩:=by
    rw [List.getElem?_map] at e
    have:s.cps.toList[i]? = some c:=by rw [Array.getElem?_toList]; exact hc
    rw [this] at e
    simpa using e.symm
  subst ed
  exact ⟨A1,Nx.refl j.ba,j.leaf rfl⟩
theorem Zjf {d:D} {v:V} {fp:List Addr} {its:List D} {R:It → Hp → Prop} (lb:∀ a,L a → B a) (h1:Rp cl A L H true d v fp) (hb:∀ a,B a → A a) (hw:∀ w:Fl,(p = true ∨ w ≠ .own) → w = .own → ∀ a ∈ fp,B a) (e2:itA p d = some its) (k:∀ J,ItOk cl L B J its A H → R J H) :
    (∃ a,v = .ref a ∧ (∃ xs,SqL cl.K H a xs) ∧ R (Itl cl.K a) H) ∨ (∃ a,v = .ref a ∧ (∃ xs,SqT cl.K H a xs) ∧ R (Itt cl.K a) H) ∨ (∃ z,v = .str z ∧ R (Its z) H):=by
  unfold itA at e2
  split at e2
  · split at e2
    · rename_i w xs hk
      cases e2
      obtain ⟨a0,o,us,fp',rfl,hs,hst,hr⟩:=h1.stands (B:=B) lb (hw w hk.2)
      cases hs
      exact .inl ⟨a0,rfl,⟨us,SqL.of (hst A H (Nx.refl hb))⟩,k _ (Zjc lb (fun A1 H1 n=>SqL.of (hst A1 H1 n)) hr hk.1)⟩
    · cases e2
  · split at e2
    · rename_i w xs hk
      cases e2
      obtain ⟨a0,o,us,fp',rfl,hs,hst,hr⟩:=h1.stands (B:=B) lb (hw w hk.2)
      cases hs
      exact .inr (.inl ⟨a0,rfl,⟨us,SqT.of (hst A H (Nx.refl hb))⟩,k _ (it_tup lb (fun A1 H1 n=>SqT.of (hst A1 H1 n)) hr hk.1)⟩)
    · cases e2
  · cases e2
    obtain ⟨a0,rfl,hs,rfl,hor⟩:=h1.scr
    exact .inl ⟨a0,rfl,⟨_,hs⟩,k _ (it_scr hor lb)⟩
  · rename_i s
    cases e2
    obtain ⟨rfl,_,_⟩:=h1.leafv
    exact .inr (.inr ⟨s,rfl,k _ it_str⟩)
  · cases e2
theorem ZkL {a:PP} (ha:SP cl ta a):SI cl xf W p (iAny cl.K ta) (diP (itA p) a):=by
  refine ⟨fun _ δ=>Out.same_ofO,fun A L B H δ σ R j k=>?_⟩
  unfold diP at k
  cases e:(a δ).bind (itA p) with
  | none=>rw [e] at k; exact k.elim
  | some its =>
    rw [e] at k
    obtain ⟨d,e1,e2⟩:=Option.bind_eq_some_iff.mp e
    obtain ⟨g,hg,_,_⟩:=j.drop0
    refine ha A L H δ σ g d _ hg e1 fun v fp h1 n1=>?_
    have key:∃ B',(∀ a,B a → B' a) ∧ Jt p cl A L B' H [] [] δ σ ∧ ∀ w:Fl,(p = true ∨ w ≠ .own) → w = .own → ∀ a ∈ fp,B' a:=by
      cases p with
      | true=>exact ⟨A,j.ba,j.toPure,fun w _ _ a ha=>(h1.inA a ha).1⟩
      | false=>exact ⟨B,fun _ h=>h,j,fun w hw e=>absurd e (hw.resolve_left (by simp))⟩
    obtain ⟨B',hb,j',hw⟩:=key
    exact Zjf (p:=p) j'.lb h1 j'.ba hw e2 fun J hJ=>k J A H B' (Nx.refl j.ba) hb j' hJ
theorem Zfc {d:D} {v:V} (j1:Jt p cl A L B H [d] [v] δ σ):∃ B' fp,(∀ a,B a → B' a) ∧ Jt p cl A L B' H [] [] δ σ ∧ Rp cl A L H true d v fp ∧ ∀ a ∈ fp,B' a:=by
  obtain ⟨v',f1,e0,h1⟩:=j1.one
  cases e0
  cases p with
  | true=>exact ⟨A,f1,j1.ba,j1.drop.toPure,h1.weak,fun a ha=>(h1.inA a ha).1⟩
  | false =>
    obtain ⟨f,q1,q2,q3,q4⟩:=j1.hide
    simp only [Rps] at q1
    obtain ⟨v0,vs0,f2,f3,e1,rfl,q1,rfl,rfl⟩:=q1
    cases e1
    exact ⟨_,f2,fun a h=>.inl h,q4,q1.weak,fun a ha=>.inr (by simpa using ha)⟩
theorem ZkM {a:DE} (ha:SE cl xf W p ta a):SI cl xf W p (iAny cl.K ta) (diD (itA true) a):=by
  refine ⟨fun hp δ=>Out.same_bind (ha.pure hp δ) fun x=>Out.same_ofO,fun A L B H δ σ R j k=>?_⟩
  unfold diD at k
  refine ha.run A L B H δ σ _ j ?_
  cases e:a δ with
  | bad=>rw [e] at k; exact k
  | exc c xs s=>rw [e] at k; exact k
  | ok d s =>
    rw [e] at k
    simp only [Out.bind] at k
    intro us A1 H1 n1 j1 v ev
    subst ev
    cases e2:itA true d with
    | none=>rw [e2] at k; exact k.elim
    | some its =>
      rw [e2] at k
      obtain ⟨B',fp,hb,j',h1,hfp⟩:=Zfc j1
      exact Zjf (p:=true) j'.lb h1 j'.ba (fun _ _ _=>hfp) e2 fun J hJ=>k J A1 H1 B' n1 hb j' hJ
def pairsE:Nat → List D → List D
  | _,[]=>[]
  | n,x :: xs=>.n .tup .shr [.int (n:Int),x] :: pairsE (n + 1) xs
theorem Zen:∀ {xs:List D} {n i:Nat} {d:D},(pairsE n xs)[i]? = some d → ∃ x,xs[i]? = some x ∧ d = .n .tup .shr [.int ((n + i:Nat):Int),x]
  | [],n,i,d,h=>by simp [pairsE] at h
  | x :: xs,n,0,d,h=>by simp [pairsE] at h; exact ⟨x,rfl,by rw [← h]; simp⟩
  | x :: xs,n,i + 1,d,h=>by
    simp only [pairsE,List.getElem?_cons_succ] at h
    obtain ⟨y,h1,h2⟩:=Zen h
    exact ⟨y,by simpa using h1,by rw [h2]; congr 4; omega⟩
theorem Zem:∀ {xs:List D} {n:Nat},(pairsE n xs).length = xs.length
  | [],_=>rfl
  | x :: xs,n=>by simp [pairsE,Zem]
theorem Zjd {K:PySem.W.Frag} {a:Addr} {us:List V} {ds:List D} {fp:List Addr} (lb:∀ a,L a → B a) (hst:∀ A1 H1,Nx A B H A1 H1 → SqL K H1 a us) (hr:Rps cl A L H b ds us fp) (hk:ds.all D.kept = true):ItOk cl L B (Ite K a) (pairsE 0 ds) A H:=by
  intro A1 H1 n1
  have hs:=hst A1 H1 n1
  have hl:=hr.length
  rw [Zem]
  refine ⟨fun i hi=>⟨us,us[i]'(by omega),hs,List.getElem?_eq_getElem (by omega)⟩,fun i hi=>⟨us,hs,by omega⟩,fun i x H2 d e hy p B1 δ σ hb j=>?_⟩
  obtain ⟨T,y,rfl,hT,rfl,hy⟩:=hy
  obtain ⟨dx,e1,rfl⟩:=Zen e
  obtain ⟨v,f1,g1,g2,_⟩:=(hr.keptS hk).get e1
  rw [hy us hs] at g1
  cases g1
  have hkd:dx.kept = true:=List.all_eq_true.mp hk dx (List.mem_of_getElem? e1)
  obtain ⟨g3,rfl⟩:=g2.strong hkd
  have g4:=g3.step (A':=A1) (L':=L) (H':=H1) n1.both (by simp) (by simp)
  have hr2:Rps cl A1 L H1 true [.int ((0 + i:Nat):Int),dx] [.int ((0 + i:Nat):Int),y] []:=by
    simp only [Rps]
    exact ⟨_,[y],[],[],rfl,rfl,Rp.leaf rfl,y,[],[],[],rfl,rfl,g4.weak,rfl,rfl⟩
  have hk2:([.int ((0 + i:Nat):Int),dx]:List D).all D.kept = true:=by rw [List.all_cons,List.all_cons,hkd]; rfl
  rw [Nat.zero_add] at hr2 hk2 ⊢
  have h:=(j.keptL hk2 hr2).allocS (k:=.tup) hk2 hT rfl
  exact ⟨A1,h.1,h.2⟩
theorem Zkp {K:PySem.W.Frag} {a:Addr} {us:List V} {ds:List D} {fp:List Addr} (lb:∀ a,L a → B a) (hst:∀ A1 H1,Nx A B H A1 H1 → SqT K H1 a us) (hr:Rps cl A L H b ds us fp) (hk:ds.all D.kept = true):ItOk cl L B (Rm.IteT K a) (pairsE 0 ds) A H:=by
  intro A1 H1 n1
  have hs:=hst A1 H1 n1
  have hl:=hr.length
  rw [Zem]
  refine ⟨fun i hi=>⟨us,us[i]'(by omega),hs,List.getElem?_eq_getElem (by omega)⟩,fun i hi=>⟨us,hs,by omega⟩,fun i x H2 d e hy p B1 δ σ hb j=>?_⟩
  obtain ⟨T,y,rfl,hT,rfl,hy⟩:=hy
  obtain ⟨dx,e1,rfl⟩:=Zen e
  obtain ⟨v,f1,g1,g2,_⟩:=(hr.keptS hk).get e1
  rw [hy us hs] at g1
  cases g1
  have hkd:dx.kept = true:=List.all_eq_true.mp hk dx (List.mem_of_getElem? e1)
  obtain ⟨g3,rfl⟩:=g2.strong hkd
  have g4:=g3.step (A':=A1) (L':=L) (H':=H1) n1.both (by simp) (by simp)
  have hr2:Rps cl A1 L H1 true [.int ((0 + i:Nat):Int),dx] [.int ((0 + i:Nat):Int),y] []:=by
    simp only [Rps]
    exact ⟨_,[y],[],[],rfl,rfl,Rp.leaf rfl,y,[],[],[],rfl,rfl,g4.weak,rfl,rfl⟩
  have hk2:([.int ((0 + i:Nat):Int),dx]:List D).all D.kept = true:=by rw [List.all_cons,List.all_cons,hkd]; rfl
  rw [Nat.zero_add] at hr2 hk2 ⊢
  have h:=(j.keptL hk2 hr2).allocS (k:=.tup) hk2 hT rfl
  exact ⟨A1,h.1,h.2⟩
def itEn (p:Bool):D → Option (List D)
  | .n .lst w xs=>if xs.all D.kept = true ∧ (p = true ∨ w ≠ .own) then some (pairsE 0 xs) else none
  | .s ns=>some (pairsE 0 (ns.map D.int))
  | .n .tup w xs=>if xs.all D.kept = true ∧ (p = true ∨ w ≠ .own) then some (pairsE 0 xs) else none
  | _=>none
def iEn1 (K:PySem.W.Frag) (te:TE):TI:=fun σ H R=>te σ H fun v H1=>∃ a xs,[v] = [V.ref a] ∧ (SqL K H1 a xs ∧ R (Ite K a) H1 ∨ SqT K H1 a xs ∧ R (Rm.IteT K a) H1)
theorem ZhQ {d:D} {v:V} {fp:List Addr} {its:List D} {R:It → Hp → Prop} (lb:∀ a,L a → B a) (h1:Rp cl A L H true d v fp) (hb:∀ a,B a → A a) (hw:∀ w:Fl,(p = true ∨ w ≠ .own) → w = .own → ∀ a ∈ fp,B a) (e2:itEn p d = some its) (k:∀ J,ItOk cl L B J its A H → R J H) :
    ∃ a xs,[v] = [V.ref a] ∧ (SqL cl.K H a xs ∧ R (Ite cl.K a) H ∨ SqT cl.K H a xs ∧ R (Rm.IteT cl.K a) H):=by
  unfold itEn at e2
  split at e2
  · split at e2
    · rename_i w xs hk
      cases e2
      obtain ⟨a0,o,us,fp',rfl,hs,hst,hr⟩:=h1.stands (B:=B) lb (hw w hk.2)
      cases hs
      exact ⟨a0,us,rfl,.inl ⟨SqL.of (hst A H (Nx.refl hb)),k _ (Zjd lb (fun A1 H1 n=>SqL.of (hst A1 H1 n)) hr hk.1)⟩⟩
    · cases e2
  · rename_i ns
    cases e2
    obtain ⟨a0,rfl,hs,rfl,hor⟩:=h1.scr
    refine ⟨a0,_,rfl,.inl ⟨hs,k _ (Zjd lb (fun A1 H1 n=>?_) (Rps.ints (b:=true)) (Ze8 ns))⟩⟩
    rcases hor with ⟨ob,h1,h2⟩ | h
    · exact .inl (.inr ⟨ob,n.keep a0 _ h1 h2 NT.frz⟩)
    · exact .inr h
  · split at e2
    · rename_i w xs hk
      cases e2
      obtain ⟨a0,o,us,fp',rfl,hs,hst,hr⟩:=h1.stands (B:=B) lb (hw w hk.2)
      cases hs
      exact ⟨a0,us,rfl,.inr ⟨SqT.of (hst A H (Nx.refl hb)),k _ (Zkp lb (fun A1 H1 n=>SqT.of (hst A1 H1 n)) hr hk.1)⟩⟩
    · cases e2
  · cases e2
theorem si_enP {a:PP} (ha:SP cl ta a):SI cl xf W p (iEn1 cl.K ta) (diP (itEn p) a):=by
  refine ⟨fun _ δ=>Out.same_ofO,fun A L B H δ σ R j k=>?_⟩
  unfold diP at k
  cases e:(a δ).bind (itEn p) with
  | none=>rw [e] at k; exact k.elim
  | some its =>
    rw [e] at k
    obtain ⟨d,e1,e2⟩:=Option.bind_eq_some_iff.mp e
    obtain ⟨g,hg,_,_⟩:=j.drop0
    refine ha A L H δ σ g d _ hg e1 fun v fp h1 n1=>?_
    have key:∃ B',(∀ a,B a → B' a) ∧ Jt p cl A L B' H [] [] δ σ ∧ ∀ w:Fl,(p = true ∨ w ≠ .own) → w = .own → ∀ a ∈ fp,B' a:=by
      cases p with
      | true=>exact ⟨A,j.ba,j.toPure,fun w _ _ a ha=>(h1.inA a ha).1⟩
      | false=>exact ⟨B,fun _ h=>h,j,fun w hw e=>absurd e (hw.resolve_left (by simp))⟩
    obtain ⟨B',hb,j',hw⟩:=key
    exact ZhQ (p:=p) j'.lb h1 j'.ba hw e2 fun J hJ=>k J A H B' (Nx.refl j.ba) hb j' hJ
theorem si_enD {a:DE} (ha:SE cl xf W p ta a):SI cl xf W p (iEn1 cl.K ta) (diD (itEn true) a):=by
  refine ⟨fun hp δ=>Out.same_bind (ha.pure hp δ) fun x=>Out.same_ofO,fun A L B H δ σ R j k=>?_⟩
  unfold diD at k
  refine ha.run A L B H δ σ _ j ?_
  cases e:a δ with
  | bad=>rw [e] at k; exact k
  | exc c xs s=>rw [e] at k; exact k
  | ok d s =>
    rw [e] at k
    simp only [Out.bind] at k
    intro us A1 H1 n1 j1 v ev
    subst ev
    cases e2:itEn true d with
    | none=>rw [e2] at k; exact k.elim
    | some its =>
      rw [e2] at k
      obtain ⟨B',fp,hb,j',h1,hfp⟩:=Zfc j1
      exact ZhQ (p:=true) j'.lb h1 j'.ba (fun _ _ _=>hfp) e2 fun J hJ=>k J A1 H1 B' n1 hb j' hJ
variable {X:Cx} {e a tg:Expr} {pos pp tpos:Pos} {pa:PP} {da:DE}
theorem i_anyP (hK:X.K = cl.K) (ha:Rk cl X a pa):Ri cl xf X W p tg a (diP (itA p) pa):=by obtain ⟨ta,h1,h2⟩:=ha; exact ⟨_,pi_any h1,by rw [hK]; exact ZkL h2⟩
theorem i_anyD (hK:X.K = cl.K) (ha:Rd cl xf X W p a da):Ri cl xf X W p tg a (diD (itA true) da):=by obtain ⟨ta,h1,h2⟩:=ha; exact ⟨_,pi_any h1,by rw [hK]; exact ZkM h2⟩
theorem i_enP {elts:List Expr} {kk:Nat} (hK:X.K = cl.K) (hm:X.mg "enumerate" = none) (ha:Rk cl X a pa) (hg:Gl X "enumerate":=by rfl) (hs:starEach [a] X.env = [(false,eval a X.env)]:=by rfl) (hs2:starEach (a :: []) X.env = (false,eval a X.env) :: starEach [] X.env:=by rfl):Ri cl xf X W p (.Tuple elts kk tpos) (.Call (.Name "enumerate" pp) [a] [] pos) (diP (itEn p) pa):=by
  obtain ⟨ta,h1,h2⟩:=ha
  exact ⟨iEn1 X.K ta,Rm.pi_enX hg hm (pa_cons h1 pa_nil hs2) hs,by rw [hK]; exact si_enP h2⟩
theorem i_enD {elts:List Expr} {kk:Nat} (hK:X.K = cl.K) (hm:X.mg "enumerate" = none) (ha:Rd cl xf X W p a da) (hg:Gl X "enumerate":=by rfl) (hs:starEach [a] X.env = [(false,eval a X.env)]:=by rfl) (hs2:starEach (a :: []) X.env = (false,eval a X.env) :: starEach [] X.env:=by rfl):Ri cl xf X W p (.Tuple elts kk tpos) (.Call (.Name "enumerate" pp) [a] [] pos) (diD (itEn true) da):=by
  obtain ⟨ta,h1,h2⟩:=ha
  exact ⟨iEn1 X.K ta,Rm.pi_enX hg hm (pa_cons h1 pa_nil hs2) hs,by rw [hK]; exact si_enD h2⟩
end
end Fs
set_option maxHeartbeats 1000000
namespace Fs
open PySem PySem.Spec PyProof.Rows L2
section
variable {cl:Ec} {xf:Nat → List Str} {X:Cx} {W:WX} {ws:Nat → Bool} {e a b c o tg ix:Expr} {es:List Expr} {pos pos' pp p2 apos q1 q2 kpos:Pos} {p:Bool} {pa pb:PP} {da db:DE} {r:R2} {R:List V → Hp → VK → Prop} {F:List D → Option D} {os:List Od} {ks:List AK}
theorem t_n (oo:C2 X e a b r) (h:NOp cl (rL2 r) F) (hr:Rn cl xf X W [a,b] os):Rt cl xf X W p e (dtV (dN F os)):=by
  obtain ⟨tes,h1,h2⟩:=hr
  cases h1 with
  | cons q1 h1=>cases h1 with
    | cons q2 h1=>cases h1 with
      | nil=>exact ⟨_,oo _ _ q1 q2,sb_v (se_n h h2)⟩
theorem t_ni (oo:C2 X e a b r) (h:NOp cl (rL2 r) F) (hr:Rz cl xf X W [a,b] ks):Rt cl xf X W false e (dtV (dNI F ks)):=by
  obtain ⟨tes,h1,h2⟩:=hr
  cases h1 with
  | cons q1 h1=>cases h1 with
    | cons q2 h1=>cases h1 with
      | nil=>exact ⟨_,oo _ _ q1 q2,sb_v (se_ni h h2)⟩
theorem o_addB (hK:X.K = cl.K):B2 X (.BinOp a .Add b pos) a b (rAddB cl.K):=by rw [← hK]; exact fun _ _ ha hb=>pe_op Zlc ha hb
theorem o_mulA:B2 X (.BinOp a .Mult b pos) a b rMulA:=fun _ _ ha hb=>pe_op Zlb ha hb
theorem opk_in (hK:X.K = cl.K) (hu:X.A.units + 65 < cLine):OpR X (compareOp .In) (rInA cl.K):=by rw [← hK]; exact op_inA hu
theorem Zd0 (hK:X.K = cl.K) (hu:X.A.units + 65 < cLine):OpR X (compareOp .NotIn) (Zg7 cl.K):=by rw [← hK]; exact ZiL hu
theorem bn_T1 {T:String} {x:Str} (hc:CallR X (.type T) R) (hm:X.mg x = none) (hv:bootBuiltins x = some (.type T)) (hg:Gl X x:=by rfl) (hn:x ≠ "__name__":=by decide) (hd:(x == ("__debug__":Str)) = false:=by decide)
    (h1:starEach [a] X.env = (false,eval a X.env) :: starEach [] X.env:=by rfl) (h2:(backTo pos (starEach [] X.env)).any (·.1) = false:=by rfl):BN X (.Call (.Name x pp) [a] [] pos) [a] (rL1 fun x H Q=>R [x] H Q):=fun tes h=>by
  cases h with
  | cons q1 h=>cases h with
    | nil =>
      have h9:=pe_callTy (p:=pp) (pos:=pos) hc hg hm hv (pa_cons q1 pa_nil h1) hn hd h1 h2
      exact ⟨fun pins s σ H Q I hq=>h9.run pins s σ H Q I hq⟩
theorem CallR.or' {f:Value} {r r':List V → Hp → VK → Prop} (h:CallR X f r) (h':CallR X f r'):CallR X f (fun xs H Q=>r xs H Q ∨ r' xs H Q):=by
  intro pins s σ H xs us Q I rx q
  rcases q with q | q
  · exact h pins s σ H xs us Q I rx q
  · exact h' pins s σ H xs us Q I rx q
theorem ZjA (hK:X.K = cl.K) (hm:X.mg "list" = none) (hc:X.calm = true:=by rfl) (hg:Gl X "list":=by rfl) (h1:starEach [a] X.env = (false,eval a X.env) :: starEach [] X.env:=by rfl) (h2:(backTo pos (starEach [] X.env)).any (·.1) = false:=by rfl):BN X (.Call (.Name "list" pp) [a] [] pos) [a] (rL1 (rListA cl.K)):=by
  rw [← hK]; exact bn_T1 (CallR.or' call_list_of (call_listD hc)) hm PyProof.Rows.boot_list hg (by decide) (by decide) h1 h2
theorem bn_tup (hK:X.K = cl.K) (hm:X.mg "tuple" = none) (hg:Gl X "tuple":=by rfl) (h1:starEach [a] X.env = (false,eval a X.env) :: starEach [] X.env:=by rfl) (h2:(backTo pos (starEach [] X.env)).any (·.1) = false:=by rfl):BN X (.Call (.Name "tuple" pp) [a] [] pos) [a] (rL1 (rTupA cl.K)):=by
  rw [← hK]; exact bn_T1 call_tuple_of hm PyProof.Rows.boot_tuple hg (by decide) (by decide) h1 h2
theorem bn_str (hm:X.mg "str" = none) (hg:Gl X "str":=by rfl) (h1:starEach [a] X.env = (false,eval a X.env) :: starEach [] X.env:=by rfl) (h2:(backTo pos (starEach [] X.env)).any (·.1) = false:=by rfl):BN X (.Call (.Name "str" pp) [a] [] pos) [a] (rL1 rStr):=bn_T1 (CallR.or' call_str_int SkE.call_str_str) hm PyProof.Rows.boot_str hg (by decide) (by decide) h1 h2
theorem ZhX (hm:X.mg "tuple" = none) (hc:X.calm = true:=by rfl) (hg:Gl X "tuple":=by rfl) (hbase:attributeBase a "values" X.env (eval a X.env) = eval a X.env:=by rfl) (hline:(apos.endLine == p2.line) = true:=by rfl)
    (hs:starEach [.Call (.Attribute a "values" apos) [] [] p2] X.env = (false,eval (.Call (.Attribute a "values" apos) [] [] p2) X.env) :: starEach [] X.env:=by rfl):BN X (.Call (.Name "tuple" pp) [.Call (.Attribute a "values" apos) [] [] p2] [] pos) [a] (rL1 Rm.rValsT):=fun tes h=>by
  cases h with
  | cons q1 h=>cases h with
    | nil=>exact Rm.pe_tupVals hc q1 hg hm PyProof.Rows.boot_tuple hbase hline hs
def Rpl (cl:Ec) (X:Cx) (e:Expr) (pl:PL):Prop:=∃ te,PE X e te ∧ SL cl te pl
theorem pl_var (i:Nat) {x:Str} (hN:X.N[i]? = some x:=by rfl) (hv:Vis X.env.scope x:=by first | exact Or.inl rfl | exact Or.inr (Or.inl rfl) | exact Or.inr (Or.inr rfl)) (hd:(x == ("__debug__":Str)) = false:=by decide) (hcd:(x == ("__classdict__":Str)) = false:=by decide):Rpl cl X (.Name x pos) (plV i):=⟨_,pe_var hN hv hd hcd,sl_var⟩
theorem pl_fld {f:Str} {pl:PL} {c0:Nat} (hc:Cls X.K (cl.c c0)) (hn:NoAttr X.K (cl.c c0) f) (h:Rpl cl X o pl) (hb:attributeBase o f X.env (eval o X.env) = eval o X.env:=by rfl):Rpl cl X (.Attribute o f pos) (plF c0 f pl):=by
  obtain ⟨te,h1,h2⟩:=h
  exact ⟨_,o_fld hb _ h1,sl_fld hc hn h2⟩
theorem d_mut {T id:String} {name:Str} {rr:V → List V → Hp → VK → Prop} {op:D → List D → Option (D × D)} {pl:PL} {rd:DA} (hK:X.K = cl.K) (mo:MOp cl rr op) (hm:MtR X id rr) (pa:PlainAttrs T) (slot:Slot T name id) (hty:typeOf (.builtin id) = pure (.type "method_descriptor")) (ho:Rpl cl X o pl) (ha:Ra cl xf X W true (e :: es) rd)
    (hbase:attributeBase o name X.env (eval o X.env) = eval o X.env:=by rfl)
    (hfew:((backTo pos (starEach (e :: es) X.env)).all (fun x=>!x.1) && (backToKw pos (keywordEach [] X.env)).all (fun x=>x.1.isSome) && decide ((e :: es).length + ([]:List Keyword).length + (if ([]:List Keyword).isEmpty then 0 else 1) < 30)) = true:=by rfl)
    (hline:(apos.endLine == pos.line) = true:=by rfl) (hs:starEach (e :: es) X.env = (false,eval e X.env) :: starEach es X.env:=by rfl) (hplain:(backTo pos (starEach es X.env)).any (·.1) = false:=by rfl) :
    Rd cl xf X W false (.Call (.Attribute o name apos) (e :: es) [] pos) (dMut pl T op rd):=by
  obtain ⟨te,h1,h2⟩:=ho
  obtain ⟨ta,h3,h4⟩:=ha
  exact ⟨_,pe_bm pa slot hty hm h1 h3 hbase hfew hline hs hplain,by rw [hK]; exact se_mut h2 h4 mo⟩
theorem PSet.or' {t t':TSet} (h:PSet X t) (h':PSet X t'):PSet X (fun o i v H Q=>t o i v H Q ∨ t' o i v H Q):=by
  intro pins s σ H o i v ov iv u Q I ro ri rv q
  rcases q with q | q
  · exact h pins s σ H o i v ov iv u Q I ro ri rv q
  · exact h' pins s σ H o i v ov iv u Q I ro ri rv q
theorem ZeT {pl:PL} {fz:Bool} (hu:X.A.units + 1 < cLine) (ho:Rpl cl X o pl) (hk:Rd cl xf X W true ix db) (he:Rd cl xf X W false e da)
    (hq:∀ to ti,PE X o to → PE X ix ti → PG X (.Subscript o ix pp) (gSub to ti fun o i v H Q=>rSetL o i v H Q ∨ rSetD o i v H Q))
    (hs:swapsWithSole [.Subscript o ix pp] e pos.line X.env = pure false:=by rfl) (hw:swappedStores [.Subscript o ix pp] e X.env = pure none:=by rfl) (h1:(assignEach [.Subscript o ix pp] X.env).map (·.2) = [assign (.Subscript o ix pp) X.env]:=by rfl) :
    Rs cl xf X W ws (.Assign [.Subscript o ix pp] e pos) (ZcB pl db fz da):=by
  obtain ⟨to,q1,q2⟩:=ho
  obtain ⟨ti,q3,q4⟩:=hk
  obtain ⟨te,q5,q6⟩:=he
  exact ⟨_,ps_asg q5 (hq _ _ q1 q3) hs hw h1,ZjR q2 q4 q6⟩
theorem s_fld {f:Str} {pl:PL} {c0:Nat} (hK:X.K = cl.K) (hc:Cls X.K (cl.c c0)) (hn:NoAttr X.K (cl.c c0) f) (ho:Rpl cl X o pl) (he:Rd cl xf X W false e da) (hs:swapsWith e (some (.Attribute o f pos')) pos.line X.env = pure false:=by rfl):Rs cl xf X W ws (.Assign [.Attribute o f pos'] e pos) (dsFldS pl c0 f da):=by
  obtain ⟨to,q1,q2⟩:=ho
  obtain ⟨te,q5,q6⟩:=he
  exact ⟨_,ps_fld q1 q5 hs,by rw [hK]; exact ZkC (by rw [← hK]; exact hc) (by rw [← hK]; exact hn) q2 q6⟩
end
end Fs
set_option maxHeartbeats 1000000
namespace Fs
open PySem PySem.Spec PyProof.Rows L2
def cnames:List Str:=([("SlackError":Str),("BadPieces":Str),("BadText":Str),("NoPiece":Str),("NoTurn":Str),("NoStretch":Str),("NoFailings":Str),("NoCounts":Str)]:List Str) ++ ([("NotRefused":Str),("Past":Str),("Waits":Str),("NoWord":Str),("NoFailing":Str),("NoRest":Str),("Over":Str),("NoLine":Str)]:List Str) ++ ([("NotKept":Str),("BadSeries":Str),("":Str),("":Str),("Pieces":Str),("Run":Str),("Paper":Str),("Kept":Str)]:List Str) ++ ([("Crowd":Str),("Busy":Str),("State":Str),("Open":Str),("Waiting":Str),("Begun":Str),("Ended":Str),("Finished":Str)]:List Str) ++ ([("Off":Str),("Refused":Str),("Book":Str),("Desk":Str),("Series":Str),("Lazy":Str)]:List Str)
def xfG:Nat → List Str
  | 1=>["at","why"] | 2=>["at","why"] | 3=>["found"] | 4=>["found"] | 5=>["found"] | 6=>["found"] | 7=>["found"] | 9=>["last"] | 10=>["name"] | 13=>["start","end"] | 15=>["found"] | 17=>["at","why"]
  | _=>[]
def clG (K:PySem.W.Frag):Ec:={ c:=fun n=>He.ga K (cnames.getD n ""),K:=K }
theorem Zhe {K:PySem.W.Frag} {C:Addr} (h:oexB K C = true):OexC K C:=by
  unfold oexB at h
  obtain ⟨h0,h⟩:=He.ba h
  obtain ⟨h1,h⟩:=He.ba h
  obtain ⟨h2,h⟩:=He.ba h
  obtain ⟨h3,h4⟩:=He.ba h
  refine ⟨?_,of_decide_eq_true h1,of_decide_eq_true h2,of_decide_eq_true h3,h4⟩
  split at h0
  · rename_i t dd cd sl ho
    obtain ⟨ht,h0⟩:=He.ba h0
    split at h0
    · rename_i C' bm k0 k1 k2 k3 n k5 hm hs
      obtain ⟨q1,h0⟩:=He.ba h0
      obtain ⟨q2,h0⟩:=He.ba h0
      obtain ⟨q3,h0⟩:=He.ba h0
      obtain ⟨q4,q5⟩:=He.ba h0
      have e1:=eq_of_beq ht
      have e2:=eq_of_beq q1
      have e3:=eq_of_beq q2
      have e4:cd.hasDel = false:=by simpa using q3
      subst e1 e2 e3
      obtain ⟨nm,bs,mro,ns,qn,hd,sn,sub,ab,col,del⟩:=cd
      dsimp only at hm e4 q4
      subst hm e4 q4
      have hsl:sl = #[k0,k1,k2,k3,some (.builtin "ValueError.__new__"),k5]:=by
        obtain ⟨l⟩:=sl
        simp only at hs
        rw [hs]
      subst hsl
      exact ⟨nm,qn,ns,bs,bm,sn,sub,ab,col,dd,k0,k1,k2,k3,k5,ho,q5⟩
    · cases h0
  · cases h0
theorem Zgf {K:PySem.W.Frag} {C:Addr} (h:baseB K C = true):BaseI K C:=by
  unfold baseB at h
  obtain ⟨h0,h⟩:=He.ba h
  obtain ⟨h1,h⟩:=He.ba h
  obtain ⟨h2,h3⟩:=He.ba h
  refine ⟨of_decide_eq_true h0,of_decide_eq_true h1,h2,?_⟩
  split at h3
  · rename_i n e
    rw [e,eq_of_beq h3]
  · cases h3
def SaysX (chk:List Lk) (fn:List He.DefD) (K:PySem.W.Frag):Prop:=obsX chk fn K = He.valD fn
section
variable {chk:List Lk} {fn:List He.DefD} {K:PySem.W.Frag}
theorem SaysX.fact (c:SaysX chk fn K) (i:Nat) {f:Lk} (h:chk[i]? = some f:=by rfl):f K = true:=by
  have c1:=(He.ba (show ((chk.all fun f=>f K) && fn.all fun d=>d.ok K) = true from congrArg (fun z:He.AlD=>z.1) c)).1
  exact List.all_eq_true.mp c1 f (List.mem_of_getElem? h)
theorem SaysX.def_ (c:SaysX chk fn K) (i:Nat) {d:He.DefD} (h:fn[i]? = some d:=by rfl):∃ fd,FunD K d.name d.qual d.params d.body d.scope (d.dvs K) (d.kws K) (He.fAd K d.at_) fd:=by
  have c2:=(He.ba (show ((chk.all fun f=>f K) && fn.all fun d=>d.ok K) = true from congrArg (fun z:He.AlD=>z.1) c)).2
  have e:fn.map (fun d=>He.fnW K d.at_) = fn.map He.DefD.val:=congrArg (fun z:He.AlD=>z.2) c
  have e2:(fn.map fun d=>He.fnW K d.at_)[i]? = (fn.map He.DefD.val)[i]?:=by rw [e]
  rw [List.getElem?_map,List.getElem?_map,h] at e2
  exact He.DefD.funD (Option.some.inj e2) (List.all_eq_true.mp c2 d (List.mem_of_getElem? h))
end
end Fs
namespace Fs
open PySem PySem.Spec PyProof.Rows L2
theorem hu65 {A:Around} {k:Nat} (hr:RoomG k A):A.units + 65 < cLine:=by have:=hr.un; omega
end Fs
namespace Fs
open PySem PySem.Spec PyProof.Rows L2
section
variable {cl:Ec} {xf:Nat → List Str} {X:Cx} {W:WX} {a:Expr} {pos cp:Pos} {p:Bool} {os:List Od} {ks:List AK} {j:Nat}
theorem Zix (hr:Rn cl xf X W [a] os):Rt cl xf X W p (.Compare a [.IsNot] [.Constant .none j cp] pos) (dtV (dN (f1 notND) os)):=by
  obtain ⟨tes,h1,h2⟩:=hr
  cases h1 with
  | cons q1 h1=>cases h1 with
    | nil=>exact ⟨_,pt_cmp (pc_notN q1) (nobehind _ (by decide) (by decide)),sb_v (se_n g_notN.n h2)⟩
end
end Fs
set_option maxHeartbeats 1000000
namespace Fs
open PySem PySem.Spec PyProof.Rows L2
section
variable {cl:Ec} {xf:Nat → List Str} {W:WX} {ws:Nat → Bool} {A A' L B:Addr → Prop} {H H':Hp} {δ δ':Sl} {σ σ':L2.St} {t:TS} {E:Ends}
theorem ZhT {J:It} {its:List D} {g:TG} {tg:D → Sl → Option Sl} {body:DS} (hg:SG cl ws g tg) (hb:SS cl xf W ws t body) (j1:Jt false cl A L B H [] [] δ σ) (hit:ItOk cl L B J its A H) (k0:PostS cl xf W ws (loop tg body its δ) A L B H σ E) :
    ∃ Wf:Nat → Nat → L2.St → Hp → Prop,(∃ m,Wf 0 m σ H) ∧ ∀ i m σ H,Wf i m σ H → (J.stop i H ∧ E.nx σ H) ∨ (J.go i H ∧ ∃ N:L2.St → Hp → Prop,(∀ σ' H',N σ' H' → ∃ m',m' < m ∧ Wf (i + 1) m' σ' H') ∧ ∀ x H',J.yld i H x H' → g x σ H' fun σ2 H2=>t { E with nx:=N,ct:=N,bk:=E.nx } σ2 H2):=by
  refine ⟨fun i m σi Hi=>∃ Ai δi,m = its.length - i ∧ i ≤ its.length ∧ ItOk cl L B J its Ai Hi ∧ Jt false cl Ai L B Hi [] [] δi σi ∧ PostS cl xf W ws (loop tg body (its.drop i) δi) Ai L B Hi σi E,⟨its.length,A,δ,by simp,Nat.zero_le _,hit,j1,by rw [List.drop_zero]; exact k0⟩,?_⟩
  rintro i m σi Hi ⟨Ai,δi,rfl,hi',hit',ji,ki⟩
  have tf:=hit' Ai Hi (Nx.refl ji.ba)
  by_cases hlt:i < its.length
  · refine .inr ⟨tf.1 i hlt,fun σ2 H2=>∃ A2 δ2,ItOk cl L B J its A2 H2 ∧ Jt false cl A2 L B H2 [] [] δ2 σ2 ∧ PostS cl xf W ws (loop tg body (its.drop (i + 1)) δ2) A2 L B H2 σ2 E,fun σ2 H2 ⟨A2,δ2,h1,h2,h3⟩=>⟨its.length - (i + 1),by omega,A2,δ2,rfl,hlt,h1,h2,h3⟩,fun x H2 hy=>?_⟩
    have ed:its.drop i = its[i] :: its.drop (i + 1):=List.drop_eq_getElem_cons hlt
    rw [ed] at ki
    unfold loop at ki
    obtain ⟨A2,n2,j2⟩:=tf.2.2 i x H2 its[i] (List.getElem?_eq_getElem hlt) hy false B δi σi (fun _ h=>h) ji
    split at ki
    · exact ki.elim
    · rename_i δ2 e2
      refine hg false A2 L B H2 δi δ2 σi its[i] x _ j2 e2 fun σ2 kp2 j3=>?_
      refine hb A2 L B H2 δ2 σ2 _ j3 ?_
      have ki2:=PostS.step ki n2 kp2
      cases e3:body δ2 with
      | bad=>rw [e3] at ki2; exact ki2
      | exc c xs s=>rw [e3] at ki2; exact ki2
      | ok f s =>
        rw [e3] at ki2
        simp only [Out.bind] at ki2
        cases f with
        | nx=>exact fun A3 H3 σ3 n3 kp3 j4=>⟨A3,s,(hit'.step n2).step n3,j4,PostS.step ki2 n3 kp3⟩
        | ct=>exact fun A3 H3 σ3 n3 kp3 j4=>⟨A3,s,(hit'.step n2).step n3,j4,PostS.step ki2 n3 kp3⟩
        | bk=>exact ki2
        | rt d=>exact ki2
  · have ed:its.drop i = []:=List.drop_eq_nil_of_le (by omega)
    rw [ed] at ki
    exact .inl ⟨tf.2.1 i (by omega),ki Ai Hi σi (Nx.refl ji.ba) (Kp.refl σi) ji⟩
variable {X:Cx} {tg:Expr} {pos pos':Pos} {body:List Stmt}
end
end Fs
namespace Fs
open PySem PySem.Spec PyProof.Rows L2
end Fs
namespace Fs
open PySem PySem.Spec PyProof.Rows L2
theorem is_nil {P:Nat → Prop}:∀ c,([]:List Nat).contains c = true → P c:=fun c h=>by simp at h
theorem Zjj {P:Nat → Prop} {a:Nat} {l:List Nat} (h:P a) (hl:∀ c,l.contains c = true → P c):∀ c,(a :: l).contains c = true → P c:=fun c hc=>by
  rw [List.contains_cons,Bool.or_eq_true] at hc
  rcases hc with q | q
  · rw [eq_of_beq q]; exact h
  · exact hl c q
theorem one_of {l:List Nat} {c0:Nat} (h:l = [c0]):∀ c,l.contains c = true → c = c0:=fun c hc=>by
  subst h
  simpa using hc
end Fs
set_option maxHeartbeats 2000000
namespace Fs
open PySem PySem.Spec PyProof.Rows L2
end Fs
set_option maxHeartbeats 2000000
namespace Fs
open PySem PySem.Spec PyProof.Rows L2
end Fs
set_option maxHeartbeats 2000000
namespace Fs
open PySem PySem.Spec PyProof.Rows L2
def dFr (a:DE):DE:=fun δ=>(a δ).bind fun x δ1=>.ok (frz x) δ1
section
variable {cl:Ec} {xf:Nat → List Str} {W:WX} {A L B:Addr → Prop} {H:Hp} {δ:Sl} {σ:L2.St} {p:Bool} {te:TE} {X:Cx} {e:Expr}
theorem se_fr {a:DE} (ha:SE cl xf W p te a):SE cl xf W p te (dFr a):=by
  refine ⟨fun hp δ=>Out.same_bind (ha.pure hp δ) fun x=>rfl,fun A L B H δ σ Q j k=>?_⟩
  refine ha.run A L B H δ σ _ j (Post.bind (γ:=D) k fun x δ1 vs A1 H1 e1 n1 j1 k1 v ev=>?_)
  subst ev
  obtain ⟨A2,n2,j2⟩:=j1.freeze
  exact k1 [v] A2 H1 (n1.trans n2) j2 v rfl
theorem d_fr {a:DE} (h:Rd cl xf X W p e a):Rd cl xf X W p e (dFr a):=by obtain ⟨ta,h1,h2⟩:=h; exact ⟨_,h1,se_fr h2⟩
end
end Fs
set_option maxHeartbeats 2000000
namespace Fs
open PySem PySem.Spec PyProof.Rows L2
def keyP:Key → PyData | .inl i=>.int i | .inr x=>.str x
mutual
def pdx:D → Option PyData
  | .v .non=>some .none
  | .v (.bl b)=>some (.bool b)
  | .v (.int i)=>some (.int i)
  | .v (.str s)=>some (.str s)
  | .n .lst _ xs=>(pdxs xs).map .list
  | .n .tup _ xs=>(pdxs xs).map .tuple
  | .n (.dct ks) _ xs=>if ks.length = xs.length then (pdxs xs).map fun ds=>.dict ((ks.map keyP).zip ds) else none
  | _=>none
def pdxs:List D → Option (List PyData)
  | []=>some []
  | d :: ds=>(pdx d).bind fun x=>(pdxs ds).map fun xs=>x :: xs
end
def reprX (x:D):Option D:=(pdx x).bind fun d=>if d.showable = true ∧ d.depth ≤ 60 ∧ d.shown.length ≤ 1000000 then some (.str d.shown) else none
end Fs
set_option maxHeartbeats 2000000
namespace Fs
open PySem PySem.Spec PyProof.Rows L2
end Fs
set_option maxHeartbeats 2000000
namespace Fs
open PySem PySem.Spec PyProof.Rows L2
def longE:D → D → Bool
  | .n .lst _ (_ :: _),.n .lst _ []=>true
  | .n .tup _ (_ :: _),.n .tup _ []=>true
  | _,_=>false
def eqE (x y:D):Option D:=if longE x y then some (.bl false) else eqD x y
def neE (x y:D):Option D:=if longE x y then some (.bl true) else neD x y
def rLong (H:Hp) (x y:V):Prop:=∃ p q v vs,x = .ref p ∧ y = .ref q ∧ ((H p = some (.lst (v :: vs)) ∧ H q = some (.lst [])) ∨ (H p = some (.tup (v :: vs)) ∧ H q = some (.tup [])))
def rEqE (K:PySem.W.Frag):R2:=fun x y H Q=>rEqD K x y H Q ∨ (rLong H x y ∧ Q (.bl false) H)
def rNeE (K:PySem.W.Frag):R2:=fun x y H Q=>rNeD K x y H Q ∨ (rLong H x y ∧ Q (.bl true) H)
section
variable {X:Cx} {cl:Ec} {pins:List (Addr × Obj)} {σ:List (Option V)} {H:Hp} {s:Shared}
theorem Zd5 {a:Addr} {its:List Value} (h:PlainL s.heap a its.toArray):s.heap.IsList a its.toArray:=by
  obtain ⟨o,n,ho,hc,_,hd⟩:=h
  exact ⟨o,ho,hc,n,hd⟩
theorem ZeJ {a:Addr} {its:List Value} (h:IsTup s.heap a its.toArray):s.heap.IsTuple a its.toArray:=h
theorem op_eqE (hu:X.A.units + 64 < cLine):OpR X (compareOp .Eq) (rEqE X.K):=by
  intro pins s σ H x y v u Q I rx ry h
  rcases h with h | ⟨⟨p,q,z,zs,rfl,rfl,h⟩,k⟩
  · exact op_eqD hu pins s σ H x y v u Q I rx ry h
  · cases rx; cases ry
    rcases h with ⟨h1,h2⟩ | ⟨h1,h2⟩
    · obtain ⟨its,rv,l1,_⟩:=I.list (SqL.of h1)
      obtain ⟨jts,rv2,l2,_⟩:=I.list (SqL.of h2)
      cases rv2
      cases rv
      exact SeqAt.RcAt.lists_lengths (Zd5 l1) (Zd5 l2) (by simp) (by omega) _ _ _ _ ⟨.bl _,H,I,rfl,k⟩
    · obtain ⟨its,rv,l1,_⟩:=I.tuple (SqT.of h1)
      obtain ⟨jts,rv2,l2,_⟩:=I.tuple (SqT.of h2)
      cases rv2
      cases rv
      exact SeqAt.RcAt.tuples (e:=fun _=>true) (ZeJ l1) (ZeJ l2) (by omega) (fun j _ h2=>by simp at h2) _ _ _ _ ⟨.bl _,H,I,rfl,by simpa using k⟩
theorem op_neE (hu:X.A.units + 64 < cLine):OpR X (compareOp .NotEq) (rNeE X.K):=by
  intro pins s σ H x y v u Q I rx ry h
  rcases h with h | ⟨⟨p,q,z,zs,rfl,rfl,h⟩,k⟩
  · exact op_neD hu pins s σ H x y v u Q I rx ry h
  · cases rx; cases ry
    rcases h with ⟨h1,h2⟩ | ⟨h1,h2⟩
    · obtain ⟨its,rv,l1,_⟩:=I.list (SqL.of h1)
      obtain ⟨jts,rv2,l2,_⟩:=I.list (SqL.of h2)
      cases rv2
      cases rv
      exact SeqAt.RcNeAt.lists_lengths (Zd5 l1) (Zd5 l2) (by simp) (by omega) _ _ _ _ ⟨.bl _,H,I,rfl,k⟩
    · obtain ⟨its,rv,l1,_⟩:=I.tuple (SqT.of h1)
      obtain ⟨jts,rv2,l2,_⟩:=I.tuple (SqT.of h2)
      cases rv2
      cases rv
      exact SeqAt.RcNeAt.tuples (e:=fun _=>true) (ZeJ l1) (ZeJ l2) (by omega) (fun j _ h2=>by simp at h2) _ _ _ _ ⟨.bl _,H,I,rfl,by simpa using k⟩
theorem Zi0 {A L:Addr → Prop} {x y:D} {u w:V} {f1 f2:List Addr} (h1:Rp cl A L H true x u f1) (h2:Rp cl A L H true y w f2) (h:longE x y = true):rLong H u w:=by
  unfold longE at h
  split at h
  · obtain ⟨a,o,vs,fp,rfl,ho,hs,hr,hf⟩:=h1.node
    obtain ⟨b,o',vs',fp',rfl,ho',hs',hr',hf'⟩:=h2.node
    cases hs; cases hs'
    simp only [Rps] at hr hr'
    obtain ⟨v,vs1,_,_,rfl,_⟩:=hr
    obtain ⟨rfl,_⟩:=hr'
    exact ⟨a,b,v,vs1,rfl,rfl,.inl ⟨ho,ho'⟩⟩
  · obtain ⟨a,o,vs,fp,rfl,ho,hs,hr,hf⟩:=h1.node
    obtain ⟨b,o',vs',fp',rfl,ho',hs',hr',hf'⟩:=h2.node
    cases hs; cases hs'
    simp only [Rps] at hr hr'
    obtain ⟨v,vs1,_,_,rfl,_⟩:=hr
    obtain ⟨rfl,_⟩:=hr'
    exact ⟨a,b,v,vs1,rfl,rfl,.inr ⟨ho,ho'⟩⟩
  · cases h
theorem Zk6 {K:PySem.W.Frag}:POp cl (rEqE K) eqE:=by
  intro A L H x y u w f1 f2 z Q h1 h2 e k
  unfold eqE at e
  split at e
  · rename_i hl
    cases e
    exact .inr ⟨Zi0 h1 h2 hl,k _ [] (Rp.leaf rfl) (by simp)⟩
  · exact .inl (pop_eq A L H x y u w f1 f2 z Q h1 h2 e k)
theorem Zk5 {K:PySem.W.Frag}:POp cl (rNeE K) neE:=by
  intro A L H x y u w f1 f2 z Q h1 h2 e k
  unfold neE at e
  split at e
  · rename_i hl
    cases e
    exact .inr ⟨Zi0 h1 h2 hl,k _ [] (Rp.leaf rfl) (by simp)⟩
  · exact .inl (pop_ne A L H x y u w f1 f2 z Q h1 h2 e k)
theorem Zku:∀ x y z,eqE x y = some z → z.kept = true:=by
  intro x y z e
  unfold eqE at e
  split at e
  · cases e; rfl
  · exact ZhV x y z e
theorem Zka:∀ x y z,neE x y = some z → z.kept = true:=by
  intro x y z e
  unfold neE at e
  split at e
  · cases e; rfl
  · exact ZhK x y z e
end
end Fs
set_option maxHeartbeats 2000000
namespace Fs
open PySem PySem.Spec PyProof.Rows L2
open PySem.SeqAt (EqIn)
open PySem.AutoSeq1 (wpAny_loadPart')
section
variable {P:Program} {w:World}
theorem ZjM {p q:Addr} {us ws:Array Value} {m k:Nat} {d1 d2:Option Addr} {s1 s2:Array (Option Value)} (hz:us.size = ws.size) :
    MeetsIn P w (Builtin.«tuple.__ne__» ⟨[.ref p,.ref q],[]⟩) fun A R s =>
      (s.heap.get? p = some ⟨.type "tuple",d1,.seq us m,s1⟩ ∧ s.heap.get? q = some ⟨.type "tuple",d2,.seq ws k,s2⟩) ∧
      (∀ z ∈ us.toList.zip ws.toList,EqIn P w A.in1 s z.1 z.2 true) ∧ R (.ok (.ret (.bool false))) s :=
  .of_wp fun A R s ⟨⟨g1,g2⟩,he,hr⟩=>by
    obtain ⟨hp,gs,dr,tk,os⟩:=s
    have st:=AutoSeq1.sub_tuple_tuple
    wp_walk using wpAny_loadPart' g1,wpAny_loadPart' g2,wpAny_forIn_list _ (fun r b t=>b.1 = none ∧ t = ⟨hp,gs,dr,tk,os⟩ ∧ ∀ z ∈ r,EqIn P w A.in1 ⟨hp,gs,dr,tk,os⟩ z.1 z.2 true) _
    case turn =>
      rintro ⟨y,x⟩ r b t ⟨e1,rfl,all⟩
      refine wpAny_bind (all (y,x) List.mem_cons_self _ _ ?_)
      wp_walk
      exact ⟨rfl,rfl,fun z m=>all z (List.mem_cons_of_mem _ m)⟩
    case fin =>
      rintro ⟨b1,b2⟩ t ⟨e1,rfl,_⟩
      simp only at e1
      subst e1
      wp_walk
      exact ⟨_,rfl,by simpa [Builtin.Tuple.tupleCompareSizes,bne,hz] using hr⟩
    case h=>exact ⟨rfl,rfl,he⟩
theorem Zle {A:Around} {E:Value → Shared → Prop} {s:Shared} {p q:Addr} {us ws:Array Value} {Q:Value → Shared → Prop} (g1:s.heap.IsTuple p us) (g2:s.heap.IsTuple q ws) (hz:us.size = ws.size) (hu:A.units < cLine)
    (he:∀ z ∈ us.toList.zip ws.toList,EqIn P w A.in1 s z.1 z.2 true) (k:Q (.bool false) s):wpAny (model P w) A (richCompare .NotEq (.ref p) (.ref q)) Q E s:=by
  obtain ⟨⟨c1,d1,x1,s1⟩,a1,b1,m1,e1⟩:=g1
  obtain ⟨⟨c2,d2,x2,s2⟩,a2,b2,m2,e2⟩:=g2
  simp only at b1 e1 b2 e2
  subst b1; subst e1; subst b2; subst e2
  exact wpAny_richCompare_same_room (op:=.NotEq) (T:="tuple") ⟨_,a1,rfl⟩ ⟨_,a2,rfl⟩ F.slot_tuple_ne (call_meetsIn F.slot_tuple_ne ⟨_,a1,rfl⟩ F.entry_tuple_ne (F.args_tuple_ne_2 _ _) (ZjM hz) ⟨⟨a1,a2⟩,he,⟨(fun z=>nomatch z),k⟩⟩) hu
end
def SmT (K:PySem.W.Frag) (H:Hp) (E:V → V → Prop) (x y:V):Prop:=∃ a b xs ys,x = .ref a ∧ y = .ref b ∧ SqT K H a xs ∧ SqT K H b ys ∧ Paired E xs ys
def SmK (H:Hp) (E:V → V → Prop) (x y:V):Prop:=∃ a b ks ls,x = .ref a ∧ y = .ref b ∧ L2.Rd H a (.dK ks) ∧ L2.Rd H b (.dK ls) ∧ ks.length = ls.length ∧ ∀ p ∈ ks,∃ u,valV ls p.1 = some u ∧ E p.2 u
def SmV (K:PySem.W.Frag) (H:Hp):Nat → V → V → Prop
  | 0=>fun _ _=>False
  | n + 1=>fun x y=>(x = y ∧ flatB x = true) ∨ EqR K H (SmV K H n) x y ∨ SmT K H (SmV K H n) x y ∨ SmK H (SmV K H n) x y
section
variable {X:Cx} {pins:List (Addr × Obj)} {σ:List (Option V)} {H:Hp} {s:Shared}
theorem Zis {P:Program} {w:World} {A:Around} {F:V → V → Prop} (ih:∀ x y v u,F x y → RelV x v → RelV y u → EqIn P w A s v u true) {xs ys:List V} (hp:Paired F xs ys):∀ {us ws:List Value},Vals xs us → Vals ys ws → (∀ z ∈ us.zip ws,EqIn P w A s z.1 z.2 true) ∧ us.length = ws.length:=by
  induction hp with
  | nil=>intro us ws r1 r2; cases r1; cases r2; exact ⟨fun z m=>(by cases m),rfl⟩
  | cons h _ k =>
    intro us ws r1 r2
    cases r1 with
    | cons p1 q1 =>
      cases r2 with
      | cons p2 q2 =>
        obtain ⟨k1,k2⟩:=k q1 q2
        refine ⟨fun z m=>?_,by simp [k2]⟩
        rcases List.mem_cons.mp m with rfl | m
        · exact ih _ _ _ _ h p1 p2
        · exact k1 z m
theorem smT_eq (I:Inv X pins σ H s) {A:Around} {F:V → V → Prop} (hu:A.units < cLine) (ih:∀ x y v u,F x y → RelV x v → RelV y u → EqIn X.prog X.w A.in1 s v u true) {x y:V} {v u:Value} (h:SmT X.K H F x y) (rx:RelV x v) (ry:RelV y u) (E Q:Value → Shared → Prop) (k:Q (.bool true) s):wpAny (model X.prog X.w) A (richCompare .Eq v u) Q E s:=by
  obtain ⟨a,b,xs,ys,rfl,rfl,ha,hb,hp⟩:=h
  cases (show v = Value.ref a from rx)
  cases (show u = Value.ref b from ry)
  obtain ⟨us,r1,p1,_⟩:=I.tuple ha
  obtain ⟨ws,r2,p2,_⟩:=I.tuple hb
  obtain ⟨z1,z2⟩:=Zis ih hp r1 r2
  refine PySem.SeqAt.rcIn_tuples (e:=fun _=>true) p1 p2 hu (fun j h1 h2=>?_) (by rw [show ((List.range (min us.toArray.size ws.toArray.size)).all fun _=>true) = true from List.all_eq_true.mpr fun _ _=>rfl]; simpa [z2] using k)
  have h1':j < us.length:=by simpa using h1
  have h2':j < ws.length:=by simpa using h2
  have:=z1 (us[j],ws[j]) (List.mem_iff_getElem.mpr ⟨j,by simp; omega,by simp⟩)
  simpa using this
theorem smK_eq (I:Inv X pins σ H s) {A:Around} {F:V → V → Prop} (hu:A.units < cLine) (ih:∀ x y v u,F x y → RelV x v → RelV y u → EqIn X.prog X.w A.in1 s v u true) {x y:V} {v u:Value} (h:SmK H F x y) (rx:RelV x v) (ry:RelV y u) (E Q:Value → Shared → Prop) (k:Q (.bool true) s):wpAny (model X.prog X.w) A (richCompare .Eq v u) Q E s:=by
  obtain ⟨a,b,ks,ls,rfl,rfl,ha,hb,hl,hp⟩:=h
  cases (show v = Value.ref a from rx)
  cases (show u = Value.ref b from ry)
  obtain ⟨_,n1,v1,r1,d1⟩:=dk_rd I.hok ha
  obtain ⟨_,n2,v2,r2,d2⟩:=dk_rd I.hok hb
  have same:v1.length = v2.length:=r1.length ▸ r2.length ▸ hl
  exact PySem.W.rcP_dicts (knd:=mixKind X.prog X.w) (r:=true) n1 n2 d1 d2 hu (fun _=>hits_run ih r2 r1 hp) E Q (by simpa [same] using k)
theorem Zg0 (I:Inv X pins σ H s):∀ (n:Nat) (A:Around),A.units + n < cLine → ∀ (x y:V) (v u:Value),SmV X.K H n x y → RelV x v → RelV y u → EqIn X.prog X.w A s v u true
  | 0,_,_,_,_,_,_,h,_,_=>h.elim
  | n + 1,A,hu,x,y,v,u,h,rx,ry=>by
    have ih:=Zg0 I n A.in1 (by show A.units + 1 + n < cLine; omega)
    have fin:∀ {a b:Addr},x = .ref a → y = .ref b → (∀ E Q:Value → Shared → Prop,Q (.bool true) s → wpAny (model X.prog X.w) A (richCompare .Eq v u) Q E s) → EqIn X.prog X.w A s v u true:=by
      rintro a b rfl rfl st
      cases (show v = Value.ref a from rx)
      cases (show u = Value.ref b from ry)
      by_cases e:a = b
      · subst e
        exact (SeqAt.EqAt.same _).inModel _ _
      · exact SeqAt.EqIn.of_refs e st
    rcases h with ⟨rfl,f⟩ | h | h | h
    · exact (eqAt_same rx ry f).inModel _ _
    · obtain ⟨a,b,rfl,rfl⟩:∃ a b,x = .ref a ∧ y = .ref b:=by
        rcases h with ⟨a,b,_,_,e1,e2,_⟩ | ⟨a,b,_,_,e1,e2,_⟩ <;> exact ⟨a,b,e1,e2⟩
      exact fin rfl rfl (eqR_run I (by omega) ih h rx ry)
    · have h0:=h
      obtain ⟨a,b,_,_,rfl,rfl,_⟩:=h0
      exact fin rfl rfl (smT_eq I (by omega) ih h rx ry)
    · have h0:=h
      obtain ⟨a,b,_,_,rfl,rfl,_⟩:=h0
      exact fin rfl rfl (smK_eq I (by omega) ih h rx ry)
def rEqM (K:PySem.W.Frag):R2:=fun x y H Q=>rEqE K x y H Q ∨ (∃ n,n ≤ 40 ∧ (EqR K H (SmV K H n) x y ∨ SmT K H (SmV K H n) x y ∨ SmK H (SmV K H n) x y) ∧ Q (.bl true) H)
def rNeM (K:PySem.W.Frag):R2:=fun x y H Q=>rNeE K x y H Q ∨ (∃ n,n ≤ 40 ∧ SmT K H (SmV K H n) x y ∧ Q (.bl false) H)
theorem op_eqM (hu:X.A.units + 64 < cLine):OpR X (compareOp .Eq) (rEqM X.K):=by
  intro pins s σ H x y v u Q I rx ry h
  rcases h with h | ⟨n,hn,h,k⟩
  · exact op_eqE hu pins s σ H x y v u Q I rx ry h
  · have ih:=Zg0 I n X.A.in1 (by show X.A.units + 1 + n < cLine; omega)
    rcases h with h | h | h
    · exact eqR_run I (A:=X.A) (by omega) ih h rx ry _ _ ⟨.bl true,H,I,rfl,k⟩
    · exact smT_eq I (A:=X.A) (by omega) ih h rx ry _ _ ⟨.bl true,H,I,rfl,k⟩
    · exact smK_eq I (A:=X.A) (by omega) ih h rx ry _ _ ⟨.bl true,H,I,rfl,k⟩
theorem op_neM (hu:X.A.units + 64 < cLine):OpR X (compareOp .NotEq) (rNeM X.K):=by
  intro pins s σ H x y v u Q I rx ry h
  rcases h with h | ⟨n,hn,h,k⟩
  · exact op_neE hu pins s σ H x y v u Q I rx ry h
  · have ih:=Zg0 I n X.A.in1 (by show X.A.units + 1 + n < cLine; omega)
    obtain ⟨a,b,xs,ys,rfl,rfl,ha,hb,hp⟩:=h
    cases (show v = Value.ref a from rx)
    cases (show u = Value.ref b from ry)
    obtain ⟨us,r1,p1,_⟩:=I.tuple ha
    obtain ⟨ws,r2,p2,_⟩:=I.tuple hb
    obtain ⟨z1,z2⟩:=Zis ih hp r1 r2
    exact Zle p1 p2 (by simpa using z2) (by omega) (by simpa using z1) ⟨.bl false,H,I,rfl,k⟩
end
def scE:V → V → Bool
  | .non,.non=>true
  | .bl a,.bl b=>a == b
  | .int a,.int b=>a == b
  | .str a,.str b=>a == b
  | _,_=>false
def allE (f:D → D → Bool):List D → List D → Bool
  | [],[]=>true
  | x :: xs,y :: ys=>f x y && allE f xs ys
  | _,_=>false
def boxE (f:D → D → Bool):D → D → Bool
  | .n .lst _ xs,.n .lst _ ys=>allE f xs ys
  | .n .tup _ xs,.n .tup _ ys=>allE f xs ys
  | .n (.dct ks) _ xs,.n (.dct ls) _ ys=>decide (ks = ls) && (decide ks.Nodup && allE f xs ys)
  | _,_=>false
def tupE (f:D → D → Bool):D → D → Bool
  | .n .tup _ xs,.n .tup _ ys=>allE f xs ys
  | _,_=>false
def sameF:Nat → D → D → Bool
  | 0,_,_=>false
  | n + 1,x,y=>(match x,y with | .v a,.v b=>scE a b | _,_=>false) || boxE (sameF n) x y
def eqM (x y:D):Option D:=if boxE (sameF 20) x y then some (.bl true) else eqE x y
def neM (x y:D):Option D:=if tupE (sameF 20) x y then some (.bl false) else neE x y
section
variable {cl:Ec} {A L:Addr → Prop} {H:Hp}
theorem scE_eq {a b:V} (h:scE a b = true):a = b ∧ flatB a = true:=by
  unfold scE at h
  split at h
  · exact ⟨rfl,rfl⟩
  all_goals first | (have:=eq_of_beq h; subst this; exact ⟨rfl,rfl⟩) | cases h
theorem Zea {f:D → D → Bool} {F:V → V → Prop} (hf:∀ x y u w f1 f2,f x y = true → Rp cl A L H true x u f1 → Rp cl A L H true y w f2 → F u w):∀ {xs ys:List D} {us ws:List V} {f1 f2:List Addr},allE f xs ys = true → Rps cl A L H true xs us f1 → Rps cl A L H true ys ws f2 → Paired F us ws
  | [],[],us,ws,f1,f2,_,h1,h2=>by
    simp only [Rps] at h1 h2
    rw [h1.1,h2.1]; exact .nil
  | [],_ :: _,_,_,_,_,h,_,_=>by cases h
  | _ :: _,[],_,_,_,_,h,_,_=>by cases h
  | x :: xs,y :: ys,us,ws,f1,f2,h,h1,h2=>by
    simp only [allE,Bool.and_eq_true] at h
    simp only [Rps] at h1 h2
    obtain ⟨v,vs,_,_,rfl,_,a1,a2⟩:=h1
    obtain ⟨v',vs',_,_,rfl,_,b1,b2⟩:=h2
    exact .cons (hf _ _ _ _ _ _ h.1 a1 b1) (Zea hf h.2 a2 b2)
theorem ZjK {ks:List Key} (hn:ks.Nodup):∀ {us ws:List V} {F:V → V → Prop},Paired F us ws → ∀ p ∈ ks.zip us,∃ u,valV (ks.zip ws) p.1 = some u ∧ F p.2 u:=by
  induction ks with
  | nil=>intro us ws F h p hp; simp at hp
  | cons k ks ih =>
    intro us ws F h p hp
    obtain ⟨h1,h2⟩:=List.nodup_cons.mp hn
    cases h with
    | nil=>simp at hp
    | @cons u w us ws q qs =>
      simp only [List.zip_cons_cons,List.mem_cons] at hp
      rcases hp with rfl | hp
      · exact ⟨w,by simp [valV],q⟩
      · obtain ⟨z,e,f⟩:=ih h2 qs p hp
        have:p.1 ∈ ks:=(List.of_mem_zip hp).1
        have hne:¬ k = p.1:=fun e=>h1 (e ▸ this)
        exact ⟨z,by simp [valV,hne] at e ⊢; exact e,f⟩
theorem Zjw {K:PySem.W.Frag} {f:D → D → Bool} {F:V → V → Prop} (hf:∀ x y u w f1 f2,f x y = true → Rp cl A L H true x u f1 → Rp cl A L H true y w f2 → F u w) {x y:D} {u w:V} {f1 f2:List Addr} (h:boxE f x y = true) (h1:Rp cl A L H true x u f1) (h2:Rp cl A L H true y w f2):EqR K H F u w ∨ SmT K H F u w ∨ SmK H F u w:=by
  unfold boxE at h
  split at h
  · obtain ⟨a,o,vs,fp,rfl,ho,hs,hr,hf1⟩:=h1.node
    obtain ⟨b,o',vs',fp',rfl,ho',hs',hr',hf'⟩:=h2.node
    cases hs; cases hs'
    exact .inl (.inl ⟨a,b,vs,vs',rfl,rfl,SqL.of ho,SqL.of ho',Zea hf h hr hr'⟩)
  · obtain ⟨a,o,vs,fp,rfl,ho,hs,hr,hf1⟩:=h1.node
    obtain ⟨b,o',vs',fp',rfl,ho',hs',hr',hf'⟩:=h2.node
    cases hs; cases hs'
    exact .inr (.inl ⟨a,b,vs,vs',rfl,rfl,SqT.of ho,SqT.of ho',Zea hf h hr hr'⟩)
  · simp only [Bool.and_eq_true,decide_eq_true_eq] at h
    obtain ⟨rfl,hn,h⟩:=h
    obtain ⟨a,vs,fp,rfl,ho,l1,hr,hf1⟩:=h1.nodeD
    obtain ⟨b,vs',fp',rfl,ho',l2,hr',hf'⟩:=h2.nodeD
    have hp:=Zea hf h hr hr'
    exact .inr (.inr ⟨a,b,_,_,rfl,rfl,ho,ho',by simp; omega,ZjK hn hp⟩)
  · cases h
theorem ZfR {K:PySem.W.Frag}:∀ (n:Nat) (x y:D) (u w:V) (f1 f2:List Addr),sameF n x y = true → Rp cl A L H true x u f1 → Rp cl A L H true y w f2 → SmV K H n u w
  | 0,_,_,_,_,_,_,h,_,_=>by cases h
  | n + 1,x,y,u,w,f1,f2,h,h1,h2=>by
    simp only [sameF,Bool.or_eq_true] at h
    rcases h with h | h
    · split at h
      · obtain ⟨e,hf⟩:=scE_eq h
        obtain ⟨rfl,_,_⟩:=h1.leafv
        obtain ⟨rfl,_,_⟩:=h2.leafv
        exact .inl ⟨e,hf⟩
      · cases h
    · rcases Zjw (K:=K) (ZfR n) h h1 h2 with h | h
      · exact .inr (.inl h)
      · exact .inr (.inr h)
theorem pop_eqM {K:PySem.W.Frag}:POp cl (rEqM K) eqM:=by
  intro A L H x y u w f1 f2 z Q h1 h2 e k
  unfold eqM at e
  split at e
  · rename_i hl
    cases e
    exact .inr ⟨20,by decide,Zjw (ZfR 20) hl h1 h2,k _ [] (Rp.leaf rfl) (by simp)⟩
  · exact .inl (Zk6 A L H x y u w f1 f2 z Q h1 h2 e k)
theorem pop_neM {K:PySem.W.Frag}:POp cl (rNeM K) neM:=by
  intro A L H x y u w f1 f2 z Q h1 h2 e k
  unfold neM at e
  split at e
  · rename_i hl
    cases e
    have hb:boxE (sameF 20) x y = true:=by unfold tupE at hl; split at hl; exact hl; cases hl
    refine .inr ⟨20,by decide,?_,k _ [] (Rp.leaf rfl) (by simp)⟩
    unfold tupE at hl
    split at hl
    · obtain ⟨a,o,vs,fp,rfl,ho,hs,hr,hf1⟩:=h1.node
      obtain ⟨b,o',vs',fp',rfl,ho',hs',hr',hf'⟩:=h2.node
      cases hs; cases hs'
      exact ⟨a,b,vs,vs',rfl,rfl,SqT.of ho,SqT.of ho',Zea (ZfR 20) hl hr hr'⟩
    · cases hl
  · exact .inl (Zk5 A L H x y u w f1 f2 z Q h1 h2 e k)
theorem Zkt:∀ x y z,eqM x y = some z → z.kept = true:=by
  intro x y z e
  unfold eqM at e
  split at e
  · cases e; rfl
  · exact Zku x y z e
theorem Zj9:∀ x y z,neM x y = some z → z.kept = true:=by
  intro x y z e
  unfold neM at e
  split at e
  · cases e; rfl
  · exact Zka x y z e
theorem g_eqM {K:PySem.W.Frag}:GOp cl (rEqM K) eqM:=pop_eqM.gs Zkt
theorem g_neM {K:PySem.W.Frag}:GOp cl (rNeM K) neM:=pop_neM.gs Zj9
end
end Fs
set_option maxHeartbeats 2000000
namespace Fs
open PySem PySem.Spec PyProof.Rows L2
end Fs
set_option maxHeartbeats 2000000
namespace Fs
open PySem PySem.Spec PyProof.Rows L2
structure ObT (K:PySem.W.Frag) (C:Addr):Prop where
  (cls:Cls K C) (ha:PySem.W.findIn K (.ref C) "__class__" = some (some (.builtin "object.__class__"))) (hn:PySem.W.specialIn K (.builtin "object.__class__") "__get__" = some (some (.builtin "getset_descriptor.__get__"))) (ht:PySem.W.takesIn K (.builtin "object.__class__") = some true) (hm:PySem.W.mroIn K C (.type "object") = some true)
theorem Zld {K:PySem.W.Frag} {C:Addr} (c:Cls K C) (h:obTB K C = true):ObT K C:=by
  unfold obTB at h
  obtain ⟨h0,h⟩:=He.ba h
  obtain ⟨h1,h⟩:=He.ba h
  obtain ⟨h2,h3⟩:=He.ba h
  exact ⟨c,of_decide_eq_true h0,of_decide_eq_true h1,of_decide_eq_true h2,of_decide_eq_true h3⟩
structure IsC (cl:Ec) (CB:Addr) (cs:List (Nat × Bool)):Prop where
  o:∀ c ∈ cs,ObT cl.K (cl.c c.1) ∧ PySem.W.kitOne cl.K (.ref (cl.c c.1)) (.ref CB) = some c.2
  t:∀ s ∈ tyNames,PySem.W.kitOne cl.K (.type s) (.ref CB) = some false
def isoD (cs:List (Nat × Bool)) (x:D):Option D:=match x with
  | .n (.obj c _) _ _=>(cs.lookup c).map fun b=>.bl b
  | _=>(tyD x).map fun _=>.bl false
section
variable {cl:Ec} {xf:Nat → List Str} {X:Cx} {W:WX} {p:Bool} {a:Expr} {pos pp:Pos} {A L:Addr → Prop} {H:Hp}
theorem lookup_mem {c:Nat} {b:Bool}:∀ {cs:List (Nat × Bool)},cs.lookup c = some b → (c,b) ∈ cs
  | [],h=>by simp at h
  | (c',b') :: cs,h=>by
    by_cases e:c = c'
    · subst e
      simp [List.lookup] at h
      subst h
      exact List.mem_cons_self
    · have:(c == c') = false:=by simpa using e
      simp only [List.lookup,this] at h
      exact List.mem_cons_of_mem _ (lookup_mem h)
theorem Zk2 {CB:Addr} {cs:List (Nat × Bool)} (T:IsC cl CB cs):PUn cl (fun x H Q=>rIsi cl.K [x,.ref CB] H Q) (isoD cs):=by
  intro A L H x u f1 z Q h1 e k
  have key:∀ s,tyD x = some s → z = .bl false → rIsi cl.K [u,.ref CB] H Q:=fun s e1 e2=>by
    subst e2
    exact ⟨u,.ref CB,.type s,.ref CB,false,rfl,.own CB,h1.ty e1,T.t s (ZgV e1),k _ [] (Rp.leaf rfl) (by simp)⟩
  unfold isoD at e
  split at e
  · rename_i c fs w xs
    obtain ⟨b,e1,rfl⟩:=Option.map_eq_some_iff.mp e
    obtain ⟨q1,q2⟩:=T.o (c,b) (lookup_mem e1)
    obtain ⟨ad,o,vs,fp',rfl,ho,⟨hl,dx,rfl⟩,hr,hf⟩:=h1.node
    exact ⟨.ref ad,.ref CB,.ref (cl.c c),.ref CB,b,rfl,.own CB,.base (.ins ho q1.cls q1.ha q1.hn q1.ht q1.hm),q2,k _ [] (Rp.leaf rfl) (by simp)⟩
  · obtain ⟨s,e1,rfl⟩:=Option.map_eq_some_iff.mp e
    exact key s e1 rfl
theorem Zjh {cs:List (Nat × Bool)}:∀ x z,isoD cs x = some z → z.kept = true:=by
  intro x z e
  unfold isoD at e
  split at e
  · obtain ⟨b,e1,rfl⟩:=Option.map_eq_some_iff.mp e; rfl
  · obtain ⟨b,e1,rfl⟩:=Option.map_eq_some_iff.mp e; rfl
theorem g_iso {CB:Addr} {cs:List (Nat × Bool)} (T:IsC cl CB cs):GUn cl (fun x H Q=>rIsi cl.K [x,.ref CB] H Q) (isoD cs):=(Zk2 T).g Zjh
theorem o_iso {CB:Addr} {tn:Str} {pt:Pos} (hK:X.K = cl.K) (hm:X.mg "isinstance" = none) (ht:X.mg tn = some (.ref CB)) (hg:Gl X "isinstance":=by rfl) (hgt:Gl X tn:=by rfl) (hd:(tn == ("__debug__":Str)) = false:=by decide)
    (h1:starEach [a,.Name tn pt] X.env = (false,eval a X.env) :: starEach [.Name tn pt] X.env:=by rfl) (h0:starEach [.Name tn pt] X.env = (false,eval (.Name tn pt) X.env) :: starEach [] X.env:=by rfl) (h2:(backTo pos (starEach [.Name tn pt] X.env)).any (·.1) = false:=by rfl):B1 X (.Call (.Name "isinstance" pp) [a,.Name tn pt] [] pos) a (fun x H Q=>rIsi cl.K [x,.ref CB] H Q) :=
  fun _ ha=>by rw [← hK]; exact pe_callB call_isi hg hm PyProof.Rows.boot_isinstance (pa_cons ha (pa_cons (pe_glob (v:=.ref CB) hgt ht rfl hd) pa_nil h0) h1) (by decide) (by decide) h1 h2
end
end Fs
set_option maxHeartbeats 2000000
namespace Fs
open PySem PySem.Spec PyProof.Rows L2
end Fs
set_option maxHeartbeats 2000000
namespace Fs
open PySem PySem.Spec PyProof.Rows L2
open PySem.SeqAt (EqIn)
open PySem.AutoSeq1 (wpAny_loadPart')
open PySem.MeetsSeq PySem.MeetsSeq2 PySem.MeetsSeq3 PySem.SeqRoads2
end Fs
namespace Fs
open PySem PySem.Spec PyProof.Rows L2
theorem Fn.als {cl:Ec} {xf:Nat → List Str} {P:Program} {w:World} {K:PySem.W.Frag} {mg:Str → Option Value} {base:Heap} {x y:Str} {k np:Nat} {F:List D → Out D} (h:Fn cl xf P w K mg base x k np F) (e:mg y = mg x):Fn cl xf P w K mg base y k np F:=by
  obtain ⟨f,fd,ps,h1,h2,h3,h4⟩:=h.ex
  exact ⟨f,fd,ps,h1,e.trans h2,h3,h4⟩
end Fs
namespace Fs
open PySem PySem.Spec PyProof.Rows
theorem Zj6 {a b:List Lk} {m n:List He.DefD} {K:PySem.W.Frag} (h1:obsX a m K = He.valD m) (h2:obsX b n K = He.valD n):obsX (a ++ b) (m ++ n) K = He.valD (m ++ n):=by
  have e1:((a.all fun f=>f K) && m.all fun d=>d.ok K) = true:=congrArg (fun z:He.AlD=>z.1) h1
  have e2:((b.all fun f=>f K) && n.all fun d=>d.ok K) = true:=congrArg (fun z:He.AlD=>z.1) h2
  have e3:m.map (fun d=>He.fnW K d.at_) = m.map He.DefD.val:=congrArg (fun z:He.AlD=>z.2) h1
  have e4:n.map (fun d=>He.fnW K d.at_) = n.map He.DefD.val:=congrArg (fun z:He.AlD=>z.2) h2
  rw [Bool.and_eq_true] at e1 e2
  show ((((a ++ b).all fun f=>f K) && (m ++ n).all fun d=>d.ok K),(m ++ n).map fun d=>He.fnW K d.at_) = (true,(m ++ n).map He.DefD.val)
  rw [List.all_append,List.all_append,List.map_append,List.map_append,e1.1,e1.2,e2.1,e2.2,e3,e4]
  rfl
def hookZ (n:Nat) (chk:List Lk) (fn:List He.DefD):PySem.W.Hook where
  α:=He.AlD
  obs:=fun s=>obsZG n chk fn s.heap.get?
  val:=fun _=>He.valD fn
  says:=fun _ h=>∃ K:PySem.W.Frag,K.In h ∧ SaysX chk fn K
  of:=fun _ _ e=>⟨_,He.frG_in,e⟩
  keeps:=fun _ _ _ ⟨K,hK,c⟩ k=>⟨K,PySem.W.Frag.In.keeps hK k,c⟩
theorem Zj5 {n:Nat} {chk:List Lk} {fn:List He.DefD} {g:Addr → Option Obj} {s:Shared} (h:∀ a,g a = s.heap.get? a):obsZG n chk fn g = (hookZ n chk fn).obs s:=by
  have e:g = s.heap.get?:=funext h
  rw [e] <;> rfl
end Fs
namespace Fs
open PySem PySem.W HandSHeadRun
section
variable {r:OpenRow} {q:Program} {n M:Nat} {a b:List Lk} {m k:List He.DefD} {loose:List Str} {w:World}
theorem ZfZ (r1:ObsEq r n a m M w) (r2:ObsEq r n b k M w):ObsEq r n (a ++ b) (m ++ k) M w:=fun os=>by
  have h1:=r1 os
  have h2:=r2 os
  cases e:endF (stepQ (denQ tabQ) r.prog w) M r.prog w os with
  | none=>rw [e] at h1; cases h1
  | some s =>
    rw [e] at h1 h2
    exact congrArg some (Zj6 (Option.some.inj h1) (Option.some.inj h2))
end
end Fs
namespace Fs
open PySem PySem.W HandSHeadRun
section
variable {r:OpenRow} {q:Program} {n M:Nat} {a:List Lk} {m:List He.DefD} {loose:List Str} {w:World}
theorem Zj0 (ha:LookEq r M w) (hb:SeenEq r q M loose w) (r1:ObsEq r n a m M w):RunEq r q (hookZ n a m) (fun s=>obsZG n a m (getT s)) M loose w:=fun os=>by
  have h0:=ha os
  have h1:=hb os
  have h2:=r1 os
  cases e:endF (stepQ (denQ tabQ) r.prog w) M r.prog w os with
  | none=>rw [e] at h1; cases h1
  | some s =>
    rw [e] at h0 h1 h2
    have h0:=Option.some.inj h0
    have h1:=Option.some.inj h1
    have h2:=Option.some.inj h2
    exact congrArg some (Prod.ext h0 (Prod.ext h1 h2))
end
end Fs
namespace Fs
open PySem PySem.Spec PyProof.Rows L2
end Fs
namespace Fs
open PySem PySem.Spec PyProof.Rows L2
end Fs
namespace Fs
open PySem PySem.Spec PyProof.Rows L2
section
variable {cl:Ec} {xf:Nat → List Str} {W:WX} {A A' L L' B:Addr → Prop} {H H':Hp} {δ δ':Sl} {σ σ':L2.St} {b:Bool}
theorem Rps.strs:∀ {zs:List Str},Rps cl A L H b (zs.map D.str) (zs.map V.str) []
  | []=>by simp [Rps]
  | z :: zs=>by
    simp only [List.map_cons,Rps]
    exact ⟨_,_,[],[],rfl,rfl,by simp [Rp,sc],Rps.strs⟩
end
end Fs
namespace Fs
open PySem PySem.Spec PyProof.Rows L2
section
variable {cl:Ec} {xf:Nat → List Str} {X:Cx} {W:WX} {A A' L L' B:Addr → Prop} {H H':Hp} {δ δ':Sl} {σ σ':L2.St} {b:Bool}
def idxP (d:PyData):List PyData → Option Nat
  | []=>none
  | y :: ys=>if PyData.eqv y d then some 0 else (idxP d ys).map (· + 1)
theorem Zjm {d:PyData}:∀ {ys:List PyData} {n:Nat},idxP d ys = some n → ∃ z,ys[n]? = some z ∧ PyData.eqv z d = true ∧ ∀ (m:Nat) (z':PyData),m < n → ys[m]? = some z' → PyData.eqv z' d = false
  | [],n,h=>by cases h
  | y :: ys,n,h=>by
    unfold idxP at h
    split at h
    · rename_i he
      cases h
      exact ⟨y,rfl,he,fun m z' hm=>absurd hm (Nat.not_lt_zero _)⟩
    · rename_i he
      obtain ⟨k,h1,rfl⟩:=Option.map_eq_some_iff.mp h
      obtain ⟨z,h2,h3,h4⟩:=Zjm h1
      refine ⟨z,h2,h3,fun m z' hm hz=>?_⟩
      cases m with
      | zero=>cases hz; exact Bool.eq_false_iff.mpr he
      | succ m=>exact h4 m z' (by omega) hz
def indexP:List D → Option D
  | [.n .lst w xs,y]=>(pd y).bind fun d=>(pds xs).bind fun es=>if SeqAt.shaped d = true ∧ SeqAt.shaped (.list es) = true then (idxP d es).map fun (n:Nat)=>D.int (n:Int) else none
  | _=>none
def indexX (xs:List D):Option D:=match indexD xs with | some z=>some z | none=>indexP xs
def rIndexX (K:PySem.W.Frag):V → List V → Hp → VK → Prop:=fun x xs H Q=>rIndex K x xs H Q ∨ rIndexD K x xs H Q
theorem mt_indexX (hu:X.A.units + 65 < cLine):MtR X "list.index" (rIndexX X.K):=fun pins s σ H x xs v us Q I rx rxs h=>by
  rcases h with h | h
  · exact mt_index pins s σ H x xs v us Q I rx rxs h
  · exact mt_indexD hu pins s σ H x xs v us Q I rx rxs h
theorem na_indexX:NA cl (rM (rIndexX cl.K)) indexX:=by
  intro A L H xs us z ad hr e
  unfold indexX at e
  cases h1:indexD xs with
  | some z' =>
    rw [h1] at e
    cases e
    refine (Zkb A L H xs us z ad hr h1).imp fun Q q=>?_
    cases us with
    | nil=>exact q
    | cons u us=>exact .inl q
  | none =>
    rw [h1] at e
    simp only at e
    unfold indexP at e
    split at e
    · rename_i w xs y
      obtain ⟨d,e1,e2⟩:=Option.bind_eq_some_iff.mp e
      obtain ⟨es,e3,e4⟩:=Option.bind_eq_some_iff.mp e2
      split at e4
      · rename_i hsh
        obtain ⟨n,e5,rfl⟩:=Option.map_eq_some_iff.mp e4
        obtain ⟨u,v,fp,gp,rfl,g1,g2⟩:=hr.two
        have k1:=g1.dp (K:=cl.K) (e:=.list es) (by simp [pd,e3])
        have k2:=g2.dp (K:=cl.K) e1
        obtain ⟨a,o,vs,fp',rfl,ho,hs,hr',hf⟩:=g1.node
        obtain ⟨z,q1,q2,q3⟩:=Zjm e5
        exact .sc rfl fun Q q=>.inr ⟨a,v,d,es,n,z,rfl,rfl,k1,k2,hsh.2,hsh.1,q1,q2,q3,q⟩
      · cases e4
    · cases e
end
end Fs
namespace Fs
open PySem PySem.Spec PyProof.Rows L2
end Fs
set_option maxHeartbeats 2000000
namespace Fs
open PySem PySem.Spec PyProof.Rows L2
end Fs
set_option maxHeartbeats 2000000
namespace Fs
open PySem PySem.Spec PyProof.Rows L2
end Fs
set_option maxHeartbeats 2000000
namespace Fs
open PySem PySem.Spec PyProof.Rows L2
end Fs
set_option maxHeartbeats 1000000
namespace Fs
open PySem PySem.Spec PyProof.Rows L2
def mendS (wr:Nat → Bool) (i:Nat):Nat → Sl → Sl → Option Sl
  | _,[],[]=>some []
  | n,x :: δ,y :: s=>(mendS wr i (n + 1) δ s).bind fun r=>if n = i then some (none :: r) else match y with
    | none=>some (none :: r)
    | some d=>if d.free then some (some d :: r) else if wr n then none else (match x with
      | some e=>if e.free then none else some (some e :: r)
      | none=>none)
  | _,_,_=>none
def backL (i:Nat) (wr:Nat → Bool) (δ:Sl) (d:D):Out Flow → Out Flow
  | .ok f s=>(match mendS wr i 0 (δ.set i none) s with | some r=>.ok f (r.set i (some d)) | none=>.bad)
  | .exc c xs s=>(match mendS wr i 0 (δ.set i none) s with | some r=>.exc c xs (r.set i (some d)) | none=>.bad)
  | .bad=>.bad
def Zgb (i:Nat) (wr:Nat → Bool) (ds:DS):DS:=fun δ=>match (δ[i]?).join with
  | some d=>if d.free then backL i wr δ d (ds (δ.set i (some (lend d)))) else .bad
  | none=>.bad
section
variable {cl:Ec} {xf:Nat → List Str} {W:WX} {ws:Nat → Bool} {A A' L L' B:Addr → Prop} {H H':Hp} {δ δ':Sl} {σ σ':L2.St} {t:TS} {E:Ends}
theorem bor_fp {e:D} {v:V} {f:List Addr} (h:Rp cl A L H true e v f) (hb:e.free = false):f = []:=by
  match e,h with
  | .v x,h=>simp [D.free] at hb
  | .s x,h=>simp [D.free] at hb
  | .n k .shr ds,h=>simp [D.free] at hb
  | .n k .own ds,h=>simp [D.free] at hb
  | .n k .bor ds,h =>
    simp only [Rp] at h
    obtain ⟨_,_,_,_,_,_,_,_,h,_⟩:=h
    exact h
theorem ZiX {wr:Nat → Bool} {i:Nat} (hk:∀ a o,H a = some o → ¬ A a → NT o → H' a = some o ∧ ¬ A' a) (hl:∀ a,L a → H' a = H a):∀ (δ s r:Sl) (n:Nat) (σ σ':L2.St) (g g':List Addr),Rpo cl A L H δ σ g → Rpo cl A' L' H' s σ' g' →
    (∀ k,n + k ≠ i → wr (n + k) = false → σ'[k]? = σ[k]?) → mendS wr i n δ s = some r → ∃ g2,Rpo cl A' L H' r σ' g2 ∧ g2.Sublist g'
  | [],[],r,n,σ,σ',g,g',h,h',hw,e=>by
    cases e
    simp only [Rpo] at h' ⊢
    exact ⟨[],⟨h'.1,rfl⟩,by simp⟩
  | [],_ :: _,r,n,σ,σ',g,g',h,h',hw,e=>by simp [mendS] at e
  | _ :: _,[],r,n,σ,σ',g,g',h,h',hw,e=>by simp [mendS] at e
  | x :: δ,y :: s,r,n,σ,σ',g,g',h,h',hw,e=>by
    unfold mendS at e
    obtain ⟨r0,e1,e2⟩:=Option.bind_eq_some_iff.mp e
    -- the rests
    have hx:∃ u σ0 gx g0,σ = u :: σ0 ∧ Rpo cl A L H δ σ0 g0 ∧ ∀ d,x = some d → ∃ v,u = some v ∧ Rp cl A L H true d v gx:=by
      cases x with
      | none =>
        simp only [Rpo] at h
        obtain ⟨u,σ0,h1,h2⟩:=h
        exact ⟨u,σ0,[],g,h1,h2,fun d e=>by cases e⟩
      | some d =>
        simp only [Rpo] at h
        obtain ⟨v,σ0,f1,f2,h1,_,h3,h4⟩:=h
        exact ⟨_,σ0,f1,f2,h1,h4,fun d' e=>by cases e; exact ⟨v,rfl,h3⟩⟩
    obtain ⟨u,σ0,gx,g0,rfl,hr,hxd⟩:=hx
    have rest:∀ (σ1:L2.St) (g1:List Addr) (u':Option V),σ' = u' :: σ1 → Rpo cl A' L' H' s σ1 g1 → ∃ g2,Rpo cl A' L H' r0 σ1 g2 ∧ g2.Sublist g1:=fun σ1 g1 u' e3 h2 =>
      ZiX hk hl δ s r0 (n + 1) σ0 σ1 g0 g1 hr h2 (fun k h3 h4=>by
        have h5:=hw (k + 1) (by omega) (by rw [show n + (k + 1) = n + 1 + k by omega]; exact h4)
        rw [e3] at h5
        simpa using h5) e1
    cases y with
    | none =>
      simp only [Rpo] at h'
      obtain ⟨u',σ1,rfl,h2⟩:=h'
      obtain ⟨g2,q1,q2⟩:=rest σ1 g' u' rfl h2
      have er:r = none :: r0:=by
        split at e2
        · exact (Option.some.inj e2).symm
        · exact (Option.some.inj e2).symm
      subst er
      exact ⟨g2,by simp only [Rpo]; exact ⟨u',σ1,rfl,q1⟩,q2⟩
    | some d =>
      simp only [Rpo] at h'
      obtain ⟨v,σ1,f1,f2,rfl,rfl,h1,h2⟩:=h'
      obtain ⟨g2,q1,q2⟩:=rest σ1 f2 _ rfl h2
      split at e2
      · cases e2
        exact ⟨g2,by simp only [Rpo]; exact ⟨some v,σ1,rfl,q1⟩,q2.trans (List.sublist_append_right f1 f2)⟩
      · rename_i hni
        simp only at e2
        split at e2
        · rename_i hf
          cases e2
          refine ⟨f1 ++ g2,?_,List.Sublist.append_left q2 f1⟩
          simp only [Rpo]
          exact ⟨v,σ1,f1,g2,rfl,rfl,((h1.free hf).step (fun a o q m _=>⟨q,m⟩) (fun a ha=>⟨rfl,(h1.inA a ha).1⟩) (by simp)).weak,q1⟩
        · split at e2
          · cases e2
          · rename_i hwr
            split at e2
            · rename_i e0
              split at e2
              · cases e2
              · rename_i hf
                cases e2
                obtain ⟨v0,rfl,h5⟩:=hxd _ rfl
                have hs:=hw 0 hni (by simpa using hwr)
                simp at hs
                subst hs
                have ex:=bor_fp h5 (by simpa using hf)
                subst ex
                refine ⟨g2,?_,q2.trans (List.sublist_append_right f1 f2)⟩
                simp only [Rpo]
                exact ⟨v,σ1,[],g2,rfl,rfl,h5.step hk (by simp) (fun _ a ha=>⟨hl a ha,ha⟩),q1⟩
            · cases e2
theorem Jt.unlend {i:Nat} {wr:Nat → Bool} {d:D} {v:V} {f:List Addr} {us:List D} {xs:List V} {s r:Sl} (j1:Jt false cl A L B H [d] [v] (δ.set i none) σ) (hi:i < δ.length) (hv:σ[i]? = some (some v)) (q1:Rps cl A L H false [d] [v] f) (q2:f.Nodup) (q3:∀ a ∈ f,¬ B a)
    (n:Nx A (fun a=>B a ∨ a ∈ f) H A' H') (kp:Kp ws σ σ') (hwi:ws i = false) (hw:∀ k,wr k = false → ws k = false) (j:Jt false cl A' L' (fun a=>B a ∨ a ∈ f) H' us xs s σ') (e:mendS wr i 0 (δ.set i none) s = some r) :
    Jt false cl A' L B H' us xs (r.set i (some d)) σ':=by
  obtain ⟨f0,g0,_,p2,_⟩:=j1.ex
  obtain ⟨F,G,m1,m2,m3,m4,m5⟩:=j.ex
  obtain ⟨g2,k1,k2⟩:=ZiX (H':=H') n.both (fun a ha=>(n.prot a (.inl (j1.lb a ha))).1) _ _ _ 0 σ σ' _ _ p2 m2 (fun k h1 h2=>kp.2 k (by
    rw [Nat.zero_add] at h1 h2
    exact hw k h2)) e
  have hv':σ'[i]? = some (some v):=by rw [kp.2 i hwi]; exact hv
  have nd:=List.nodup_append.mp m3
  have hsub:∀ a ∈ g2,a ∈ G:=fun a ha=>k2.subset ha
  have df:Rp cl A' L H' true d v f:=by
    simp only [Rps] at q1
    obtain ⟨_,_,f1,f2,e,rfl,h1,rfl,rfl⟩:=q1
    cases e
    rw [List.append_nil]
    exact (h1.step n.both (fun a ha=>n.prot a (.inr (by simpa using ha))) (by simp)).weak
  have ndp:(f ++ g2).Nodup:=List.nodup_append.mpr ⟨q2,nd.2.1.sublist k2,fun a ha c hc e=>m5 rfl c (hsub c hc) (.inr (e ▸ ha))⟩
  have hlr:i < r.length:=by
    have h1:=k1.length
    have h2:=kp.1
    have h3:=(List.getElem?_eq_some_iff.mp hv).1
    omega
  obtain ⟨g3,w1,w2,w3⟩:=k1.put (i:=i) hlr df ndp
  rw [ZcG hv'] at w1
  refine ⟨⟨F,g3,m1.step (fun a o q m _=>⟨q,m⟩) (fun a ha=>⟨rfl,(m1.inA a ha).1⟩) (by simp),w1,List.nodup_append.mpr ⟨nd.1,w2,fun a ha c hc e=>?_⟩,fun a ha q=>m4 a ha (.inl q),fun hp a ha q=>?_⟩,j1.lb,fun a h=>j.ba a (.inl h),j.ad,j.tb⟩
  · subst e
    rcases List.mem_append.mp (w3 a hc) with z | z
    · exact m4 a ha (.inr z)
    · exact nd.2.2 a ha a (hsub a z) rfl
  · rcases List.mem_append.mp (w3 a ha) with z | z
    · exact q3 a z q
    · exact m5 rfl a (hsub a z) (.inl q)
theorem ZjT {ws':Nat → Bool} {i:Nat} {wr:Nat → Bool} {ds:DS} (hs:∀ k,ws k = false → ws' k = false) (hwi:ws' i = false) (hw:∀ k,wr k = false → ws' k = false) (h:SS cl xf W ws' t ds):SS cl xf W ws t (Zgb i wr ds):=fun A L B H δ σ E j k=>by
  unfold Zgb at k
  split at k
  · rename_i d e1
    split at k
    · rename_i hf
      obtain ⟨v,hv,j1⟩:=j.take e1 hf
      obtain ⟨f,q1,q2,q3,j2⟩:=j1.hide
      have hi:i < δ.length:=(List.getElem?_eq_some_iff.mp (join_some e1)).1
      have df:Rp cl A L H false d v f:=by
        have q1':=q1
        simp only [Rps] at q1'
        obtain ⟨_,_,f1,f2,e,rfl,h1,rfl,rfl⟩:=q1'
        cases e
        simpa using h1
      have jL:Jt false cl A (fun a=>L a ∨ a ∈ f) (fun a=>B a ∨ a ∈ f) H [] [] (δ.set i (some (lend d))) σ:=by
        obtain ⟨f0,g,h1,h2,h3,h4,h5⟩:=j2.ex
        have ef:f0 = []:=by simp only [Rps] at h1; exact h1.2
        subst ef
        have h2':Rpo cl A (fun a=>L a ∨ a ∈ f) H (δ.set i none) σ g:=h2.step (fun a o q m _=>⟨q,m⟩) (fun a ha=>⟨rfl,(h2.inA a ha).1⟩) (fun a ha=>⟨rfl,.inl ha⟩)
        obtain ⟨g3,w1,w2,w3⟩:=h2'.put (i:=i) (by simpa using hi) (df.lend (L':=fun a=>L a ∨ a ∈ f) (fun a ha=>.inr ha) (fun a ha=>.inl ha)) (by simpa using h3)
        rw [ZcG hv,List.set_set] at w1
        exact ⟨⟨[],g3,by simp [Rps],w1,by simpa using w2,by simp,fun hp a ha=>h5 hp a (by simpa using w3 a ha)⟩,fun a ha=>ha.elim (fun z=>.inl (j1.lb a z)) .inr,j2.ba,j2.ad,j2.tb⟩
      refine h A _ _ H _ σ E jL ?_
      have kp:∀ {σ'},Kp ws' σ σ' → Kp ws σ σ':=fun k1=>k1.weak hs
      have nw:∀ {A' H'},Nx A (fun a=>B a ∨ a ∈ f) H A' H' → Nx A B H A' H':=fun n=>n.weak fun a h=>.inl h
      cases e4:ds (δ.set i (some (lend d))) with
      | bad=>rw [e4] at k; exact k
      | exc c xs s =>
        rw [e4] at k
        simp only [backL] at k
        split at k
        · rename_i r hr
          exact fun d' vs A2 H2 σ2 n2 k2 x2 j3=>k d' vs A2 H2 σ2 (nw n2) (kp k2) x2 (j1.unlend hi hv q1 q2 q3 n2 k2 hwi hw j3 hr)
        · exact k.elim
      | ok fl s =>
        rw [e4] at k
        simp only [backL] at k
        split at k
        · rename_i r hr
          cases fl with
          | nx=>exact fun A2 H2 σ2 n2 k2 j3=>k A2 H2 σ2 (nw n2) (kp k2) (j1.unlend hi hv q1 q2 q3 n2 k2 hwi hw j3 hr)
          | bk=>exact fun A2 H2 σ2 n2 k2 j3=>k A2 H2 σ2 (nw n2) (kp k2) (j1.unlend hi hv q1 q2 q3 n2 k2 hwi hw j3 hr)
          | ct=>exact fun A2 H2 σ2 n2 k2 j3=>k A2 H2 σ2 (nw n2) (kp k2) (j1.unlend hi hv q1 q2 q3 n2 k2 hwi hw j3 hr)
          | rt d'=>exact fun w A2 H2 σ2 n2 k2 j3=>k w A2 H2 σ2 (nw n2) (kp k2) (j1.unlend hi hv q1 q2 q3 n2 k2 hwi hw j3 hr)
        · exact k.elim
    · exact k.elim
  · exact k.elim
end
section
variable {cl:Ec} {xf:Nat → List Str} {W:WX} {ws:Nat → Bool} {X:Cx} {st:Stmt} {d:DS}
def lwr (i:Nat) (wr:Nat → Bool):Nat → Bool:=fun k=>wr k && decide (k ≠ i)
end
end Fs
set_option maxHeartbeats 1000000
namespace Fs
open PySem PySem.Spec PyProof.Rows L2
inductive Wk | ks | vs | its deriving DecidableEq
def itD:Wk → List Key → List D → Option (List D)
  | .ks,ks,_=>some (ks.map keyDv)
  | .vs,_,xs=>if xs.all D.kept then some xs else none
  | .its,ks,xs=>if xs.all D.kept then some ((ks.zip xs).map fun p=>.n .tup .shr [keyDv p.1,p.2]) else none
def noXc:Out Flow → Out Flow
  | .ok f s=>.ok f s
  | .exc _ _ _=>.bad
  | .bad=>.bad
section
variable {cl:Ec} {xf:Nat → List Str} {W:WX} {ws:Nat → Bool} {A A' L L' B:Addr → Prop} {H H':Hp} {δ δ':Sl} {σ σ':L2.St} {t:TS} {E:Ends} {b p:Bool} {a0:Addr} {o1 o2:HO}
structure Swp (cl:Ec) (a0:Addr) (o1 o2:HO) (H:Hp):Prop where
  at_:H a0 = some o1
  shp:∀ k w vs,w ≠ .own → Shp cl w k a0 vs o1 → Shp cl w k a0 vs o2
  nl:∀ ob xs,o1 ≠ .frz ob (.lst xs)
  nt:∀ ps,o1 ≠ .tbl ps
  nx:∀ φ,o1 ≠ .ext φ
  nt2:NT o2
theorem Swp.lock {od:Obj} {kvs:List (Key × V)} (h:H a0 = some (.dK kvs)):Swp cl a0 (.dK kvs) (.frz od (.dK kvs)) H:=by
  refine ⟨h,fun k w vs hw hs=>?_,(fun _ _ e=>by cases e),(fun _ e=>by cases e),(fun _ e=>by cases e),NT.frz⟩
  rcases hs with ⟨hs,_⟩ | ⟨_,_,_,_,_,e⟩
  · cases k with
    | tup=>cases hs
    | lst=>cases hs
    | dct ks =>
      obtain ⟨h1,h2⟩:=hs
      exact .inr ⟨hw,ks,od,rfl,h1,by rw [h2]⟩
    | dcl ks=>exact hs.elim
    | obj c fs=>obtain ⟨_,_,h⟩:=hs; cases h
    | fn i=>obtain ⟨_,_,_,_,_,h⟩:=hs; cases h
    | code q=>cases hs.2
    | cell=>obtain ⟨_,_,_,h⟩:=hs; cases h
  · cases e
theorem Swp.unlock {od:Obj} {kvs:List (Key × V)} (h:H a0 = some (.frz od (.dK kvs))):Swp cl a0 (.frz od (.dK kvs)) (.dK kvs) H:=by
  refine ⟨h,fun k w vs hw hs=>?_,(fun _ _ e=>by cases e),(fun _ e=>by cases e),(fun _ e=>by cases e),fun _ e=>by cases e⟩
  rcases hs with ⟨hs,_⟩ | ⟨_,ks,ob,rfl,h1,e⟩
  · cases k with
    | tup=>cases hs
    | lst=>cases hs
    | dct ks=>cases hs.2
    | dcl ks=>exact hs.elim
    | obj c fs=>obtain ⟨_,_,h⟩:=hs; cases h
    | fn i=>obtain ⟨_,_,_,_,_,h⟩:=hs; cases h
    | code q=>cases hs.2
    | cell=>obtain ⟨_,_,_,h⟩:=hs; unfold CellC at h; cases h
  · cases e
    exact .inl ⟨⟨h1,rfl⟩,fun z=>absurd z hw⟩
mutual
theorem Rp.swap (S:Swp cl a0 o1 o2 H):∀ {d:D} {v:V} {fp:List Addr} {b:Bool},Rp cl A L H b d v fp → a0 ∉ fp → Rp cl A L (upd H a0 o2) b d v fp
  | .v x,v,fp,b,h,_=>by simp only [Rp] at h ⊢; exact h
  | .s x,v,fp,b,h,_=>by
    simp only [Rp] at h ⊢
    obtain ⟨h1,a,h2,h3⟩:=h
    refine ⟨h1,a,h2,?_⟩
    rcases h3 with ⟨ob,h3,h4⟩ | h3
    · have ne:a ≠ a0:=fun e=>by subst e; rw [S.at_] at h3; exact S.nl _ _ (Option.some.inj h3)
      exact .inl ⟨ob,by rw [upd_ne ne]; exact h3,h4⟩
    · exact .inr h3
  | .n k .shr ds,v,fp,b,h,_=>by
    simp only [Rp] at h ⊢
    obtain ⟨a,o,vs,h1,h2,h3,h4,h5,h6⟩:=h
    have h7:=Rps.swap S h6 (by simp)
    by_cases e:a = a0
    · subst e
      have eo:o = o1:=Option.some.inj (h2.symm.trans S.at_)
      subst eo
      exact ⟨a,o2,vs,h1,upd_same,S.shp _ _ _ (by simp) h3,h4,h5,h7⟩
    · exact ⟨a,o,vs,h1,by rw [upd_ne e]; exact h2,h3,h4,h5,h7⟩
  | .n k .own ds,v,fp,b,h,nf=>by
    simp only [Rp] at h ⊢
    obtain ⟨a,o,vs,h1,h2,h3,h4,fp',h5,h6⟩:=h
    subst h5
    have ne:a ≠ a0:=fun e=>nf (by rw [e]; exact List.mem_cons_self)
    exact ⟨a,o,vs,h1,by rw [upd_ne ne]; exact h2,h3,h4,fp',rfl,Rps.swap S h6 fun q=>nf (List.mem_cons_of_mem _ q)⟩
  | .n k .bor ds,v,fp,b,h,_=>by
    simp only [Rp] at h ⊢
    obtain ⟨a,o,vs,h1,h2,h3,h4,h5,h6,h7⟩:=h
    have h8:=Rps.swap S h7 (by simp)
    by_cases e:a = a0
    · subst e
      have eo:o = o1:=Option.some.inj (h2.symm.trans S.at_)
      subst eo
      exact ⟨a,o2,vs,h1,upd_same,S.shp _ _ _ (by simp) h3,h4,h5,h6,h8⟩
    · exact ⟨a,o,vs,h1,by rw [upd_ne e]; exact h2,h3,h4,h5,h6,h8⟩
theorem Rps.swap (S:Swp cl a0 o1 o2 H):∀ {ds:List D} {vs:List V} {fp:List Addr} {b:Bool},Rps cl A L H b ds vs fp → a0 ∉ fp → Rps cl A L (upd H a0 o2) b ds vs fp
  | [],vs,fp,b,h,_=>by simp only [Rps] at h ⊢; exact h
  | d :: ds,vs,fp,b,h,nf=>by
    simp only [Rps] at h ⊢
    obtain ⟨v,vs',f1,f2,h1,h2,h3,h4⟩:=h
    subst h2
    exact ⟨v,vs',f1,f2,h1,rfl,Rp.swap S h3 fun q=>nf (List.mem_append_left _ q),Rps.swap S h4 fun q=>nf (List.mem_append_right _ q)⟩
end
theorem Rpo.swap (S:Swp cl a0 o1 o2 H):∀ {δ:Sl} {σ:List (Option V)} {fp:List Addr},Rpo cl A L H δ σ fp → a0 ∉ fp → Rpo cl A L (upd H a0 o2) δ σ fp
  | [],σ,fp,h,_=>by simp only [Rpo] at h ⊢; exact h
  | none :: δ,σ,fp,h,nf=>by
    simp only [Rpo] at h ⊢
    obtain ⟨x,σ',h1,h2⟩:=h
    exact ⟨x,σ',h1,h2.swap S nf⟩
  | some d :: δ,σ,fp,h,nf=>by
    simp only [Rpo] at h ⊢
    obtain ⟨v,σ',f1,f2,h1,h2,h3,h4⟩:=h
    subst h2
    exact ⟨v,σ',f1,f2,h1,rfl,h3.swap S fun q=>nf (List.mem_append_left _ q),h4.swap S fun q=>nf (List.mem_append_right _ q)⟩
theorem Swp.tabs {T:List NdefX.NTab} (S:Swp cl a0 o1 o2 H) (t:NdefX.TabsN T H):NdefX.TabsN T (upd H a0 o2):=fun q hq=>by
  obtain ⟨ps,e1,e2,e3⟩:=t q hq
  have ne:∀ c u,H c = some u → ((∃ qs,u = .tbl qs) ∨ ∃ φ,u = .ext φ) → c ≠ a0:=fun c u e r z=>by
    subst z
    rw [S.at_] at e
    cases e
    rcases r with ⟨_,r⟩ | ⟨_,r⟩
    · exact S.nt _ r
    · exact S.nx _ r
  refine ⟨ps,(upd_ne (ne _ _ e1 (.inl ⟨_,rfl⟩))).trans e1,e2,fun pos cv hc=>?_⟩
  obtain ⟨c,f1,f2⟩:=e3 pos cv hc
  exact ⟨c,f1,(upd_ne (ne _ _ f2 (.inr ⟨_,rfl⟩))).trans f2⟩
theorem Jt.swapO {us:List D} {xs:List V} (j:Jt false cl A L B H us xs δ σ) (S:Swp cl a0 o1 o2 H) (hb:B a0 ∨ ¬ A a0):Jt false cl A L B (upd H a0 o2) us xs δ σ:=by
  obtain ⟨f,g,h1,h2,h3,h4,h5⟩:=j.ex
  have nf:a0 ∉ f:=fun q=>hb.elim (h4 a0 q) fun n=>n (h1.inA a0 q).1
  have ng:a0 ∉ g:=fun q=>hb.elim (h5 rfl a0 q) fun n=>n (h2.inA a0 q).1
  refine ⟨⟨f,g,h1.swap S nf,h2.swap S ng,h3,h4,h5⟩,j.lb,j.ba,fun a h=>?_,j.tb.upd (S.tabs j.tb.n) S.at_ S.nt⟩
  by_cases e:a = a0
  · subst e; rw [upd_same]; simp
  · rw [upd_ne e]; exact j.ad a h
theorem Nx.swapO (S:Swp cl a0 o1 o2 H) (n:Nx A B (upd H a0 o2) A' H'):Nx A B H A' (upd H' a0 o1):=by
  have h0:∀ a,upd H a0 o2 a = none → H a = none:=fun a h=>by
    by_cases e:a = a0
    · subst e; rw [upd_same] at h; cases h
    · rw [upd_ne e] at h; exact h
  refine ⟨fun a h=>(n.new a h).elim .inl fun z=>.inr (h0 a z),fun a o h na nt=>?_,fun a h=>?_,fun a h=>?_⟩
  · by_cases e:a = a0
    · subst e
      rw [upd_same,← S.at_]; exact h
    · rw [upd_ne e]
      exact n.keep a o (by rw [upd_ne e]; exact h) na nt
  · have h1:=n.prot a h
    by_cases e:a = a0
    · subst e
      exact ⟨by rw [upd_same,S.at_],h1.2⟩
    · rw [upd_ne e]
      rw [upd_ne e] at h1
      exact h1
  · by_cases e:a = a0
    · subst e; rw [upd_same] at h; cases h
    · rw [upd_ne e] at h
      exact h0 a (n.low a h)
theorem Nx.at0 (S:Swp cl a0 o1 o2 H) (hb:B a0 ∨ ¬ A a0) (n:Nx A B (upd H a0 o2) A' H'):H' a0 = some o2 ∧ (B a0 ∨ ¬ A' a0):=by
  rcases hb with hb | hb
  · exact ⟨(n.prot a0 hb).1.trans upd_same,.inl hb⟩
  · refine ⟨n.keep a0 o2 upd_same hb S.nt2,.inr fun q=>(n.new a0 q).elim hb fun z=>by rw [upd_same] at z; cases z⟩
def iWk (w:Wk) (td:TE):TI:=match w with | .ks=>iKeys td | .vs=>iVals td | .its=>iItems td
def Jw (w:Wk) (d:Addr) (o:Obj) (kvs:List (Key × V)):It:=match w with | .ks=>Itk d o kvs | .vs=>Itd d o kvs | .its=>Iti d o kvs
theorem Zje {w:Wk} {a:Addr} {od:Obj} {ks:List Key} {xs its:List D} {vs:List V} {fp:List Addr} (lb:∀ a,L a → B a) (hst:∀ A1 H1,Nx A B H A1 H1 → H1 a = some (.frz od (.dK (ks.zip vs)))) (hl:ks.length = vs.length) (hr:Rps cl A L H b xs vs fp) (e:itD w ks xs = some its):ItOk cl L B (Jw w a od (ks.zip vs)) its A H:=by
  intro A1 H1 n1
  have hs:=hst A1 H1 n1
  have hlr:=hr.length
  have hz:(ks.zip vs).length = ks.length:=by simp [hl]
  have hzi:∀ {i:Nat} {k:Key} {v:V},(ks.zip vs)[i]? = some (k,v) → ks[i]? = some k ∧ vs[i]? = some v:=fun h=>List.getElem?_zip_eq_some.mp h
  cases w with
  | ks =>
    cases e
    refine ⟨fun i hi=>⟨hs,by simpa [hz] using hi⟩,fun i hi=>⟨hs,by simpa [hz] using hi⟩,fun i x H2 d e hy p B1 δ σ hb j=>?_⟩
    obtain ⟨rfl,k,v,hkv,rfl⟩:=hy
    rw [List.getElem?_map,(hzi hkv).1] at e
    cases e
    refine ⟨A1,Nx.refl j.ba,?_⟩
    cases k <;> exact j.leaf rfl
  | vs =>
    replace e:(if xs.all D.kept then some xs else none) = some its:=e
    split at e
    · rename_i hk
      cases e
      refine ⟨fun i hi=>⟨hs,by rw [hz]; omega⟩,fun i hi=>⟨hs,by rw [hz]; omega⟩,fun i x H2 d e hy p B1 δ σ hb j=>?_⟩
      obtain ⟨rfl,k,hkv⟩:=hy
      obtain ⟨v,f1,g1,g2,_⟩:=(hr.keptS hk).get e
      rw [(hzi hkv).2] at g1
      cases g1
      have hkd:d.kept = true:=List.all_eq_true.mp hk d (List.mem_of_getElem? e)
      obtain ⟨g3,rfl⟩:=g2.strong hkd
      exact ⟨A1,Nx.refl j.ba,j.kept hkd (g3.step (L':=L) n1.both (by simp) (by simp))⟩
    · cases e
  | its =>
    replace e:(if xs.all D.kept then some ((ks.zip xs).map fun p=>(.n .tup .shr [keyDv p.1,p.2]:D)) else none) = some its:=e
    split at e
    · rename_i hk
      cases e
      refine ⟨fun i hi=>⟨hs,by simp at hi; omega⟩,fun i hi=>⟨hs,by simp at hi ⊢; omega⟩,fun i x H2 d e hy p B1 δ σ hb j=>?_⟩
      obtain ⟨T,k,v,hkv,rfl,hT,rfl⟩:=hy
      rw [List.getElem?_map] at e
      obtain ⟨⟨k',y⟩,e1,e2⟩:=Option.map_eq_some_iff.mp e
      obtain ⟨e3,e4⟩:=List.getElem?_zip_eq_some.mp e1
      simp only at e3 e4
      rw [(hzi hkv).1] at e3
      cases e3
      cases e2
      obtain ⟨v',f1,g1,g2,_⟩:=(hr.keptS hk).get e4
      rw [(hzi hkv).2] at g1
      cases g1
      have hkd:y.kept = true:=List.all_eq_true.mp hk y (List.mem_of_getElem? e4)
      obtain ⟨g3,rfl⟩:=g2.strong hkd
      have hkk:(keyDv k).kept = true:=by cases k <;> rfl
      have g4:Rps cl A1 L H1 false [keyDv k,y] [kV k,v] []:=by
        simp only [Rps]
        refine ⟨_,_,[],[],rfl,rfl,?_,_,_,[],[],rfl,rfl,g3.step n1.both (by simp) (by simp),rfl,rfl⟩
        cases k <;> exact Rp.leaf rfl
      obtain ⟨n2,j2⟩:=(j.keptL (by simp [hkk,hkd]) g4).allocS (k:=.tup) (by simp [hkk,hkd]) hT rfl
      exact ⟨A1,n2,j2⟩
    · cases e
theorem Rp.dctN {ks:List Key} {fl:Fl} {xs:List D} {v:V} {fp:List Addr} (hf:fl ≠ .own) (h:Rp cl A L H true (.n (.dct ks) fl xs) v fp):∃ a vs,v = .ref a ∧ ks.length = vs.length ∧ (H a = some (.dK (ks.zip vs)) ∨ ∃ ob,H a = some (.frz ob (.dK (ks.zip vs)))) ∧ (L a ∨ ¬ A a) ∧ Rps cl A L H true xs vs []:=by
  have sh:∀ {a vs o},Shp cl fl (.dct ks) a vs o → H a = some o → ks.length = vs.length ∧ (H a = some (.dK (ks.zip vs)) ∨ ∃ ob,H a = some (.frz ob (.dK (ks.zip vs)))):=fun h e=>by
    rcases h with ⟨⟨h1,rfl⟩,_⟩ | ⟨_,ks',ob,e1,h1,rfl⟩
    · exact ⟨h1,.inl e⟩
    · cases e1
      exact ⟨h1,.inr ⟨ob,e⟩⟩
  cases fl with
  | own=>exact absurd rfl hf
  | shr =>
    simp only [Rp] at h
    obtain ⟨a,o,vs,h1,h2,h3,h4,h5,h6⟩:=h
    exact ⟨a,vs,h1,(sh h3 h2).1,(sh h3 h2).2,.inr h4,h6.weak⟩
  | bor =>
    simp only [Rp] at h
    obtain ⟨a,o,vs,h1,h2,h3,h4,h5,h6,h7⟩:=h
    exact ⟨a,vs,h1,(sh h3 h2).1,(sh h3 h2).2,.inl h5,h7⟩
def tOr (t u:TS):TS:=fun D σ H=>t D σ H ∨ u D σ H
end
section
variable {cl:Ec} {xf:Nat → List Str} {W:WX} {ws:Nat → Bool} {X:Cx} {tg:Expr} {pos pos' pos2 apos:Pos} {body:List Stmt} {d:DS} {gt:D → Sl → Option Sl}
theorem ps_or {st:Stmt} {t u:TS} (h:PS X st t) (h':PS X st u):PS X st (tOr t u):=⟨fun pins s σ H D I hw=>hw.elim (h.run pins s σ H D I) (h'.run pins s σ H D I)⟩
end
end Fs
namespace Fs
theorem lw_ok {ws:Nat → Bool} {l:List Nat} (h:l.all ws = true):∀ k,ws k = false → l.contains k = false:=fun k hk=>by
  cases e:l.contains k with
  | false=>rfl
  | true =>
    have:=List.all_eq_true.mp h k (by simpa using e)
    rw [hk] at this
    cases this
end Fs
set_option maxHeartbeats 1000000
namespace Fs
open PySem PySem.Spec PyProof.Rows L2
end Fs
set_option maxHeartbeats 1000000
namespace Fs
open PySem PySem.Spec PyProof.Rows L2
end Fs
set_option maxHeartbeats 1000000
namespace Fs
open PySem PySem.Spec PyProof.Rows L2
end Fs
set_option maxHeartbeats 2000000
set_option maxHeartbeats 1000000
namespace Fs
open PySem PySem.Spec PyProof.Rows L2
end Fs
set_option maxHeartbeats 1000000
namespace Fs
open PySem PySem.Spec PyProof.Rows L2
end Fs
set_option maxHeartbeats 2000000
set_option maxHeartbeats 1000000
namespace Fs
open PySem PySem.Spec PyProof.Rows L2
end Fs
set_option maxHeartbeats 1000000
namespace Fs
open PySem PySem.Spec PyProof.Rows L2
end Fs
set_option maxHeartbeats 1000000
namespace Fs
open PySem PySem.Spec PyProof.Rows L2
end Fs
set_option maxHeartbeats 1000000
namespace Fs
open PySem PySem.Spec PyProof.Rows L2
mutual
def D.plain:D → Bool
  | .v _=>true
  | .s _=>true
  | .n k _ xs=>k.data && plains xs
def plains:List D → Bool
  | []=>true
  | x :: xs=>x.plain && plains xs
end
end Fs
set_option maxHeartbeats 1000000
namespace Fs
open PySem PySem.Spec PyProof.Rows L2
end Fs
set_option maxHeartbeats 1000000
namespace Fs
open PySem PySem.Spec PyProof.Rows L2
end Fs
namespace Fs
open PySem PySem.Spec PyProof.Rows L2
end Fs
set_option maxHeartbeats 1000000
namespace Fs
open PySem PySem.Spec PyProof.Rows L2
end Fs
set_option maxHeartbeats 1000000
namespace Fs
open PySem PySem.Spec PyProof.Rows L2
end Fs
set_option maxHeartbeats 1000000
namespace Fs
open PySem PySem.Spec PyProof.Rows L2
end Fs
set_option maxHeartbeats 1000000
namespace Fs
open PySem PySem.Spec PyProof.Rows L2
end Fs
namespace Fs
open PySem PySem.Spec PyProof.Rows L2
end Fs
set_option maxHeartbeats 4000000
namespace Fs
open PySem PySem.Spec PyProof.Rows L2
section
variable {α β:Type} {x:Option D} {δ:Sl}
@[simp] theorem Z0 {a:α} {s:Sl} {f:α → Sl → Out β}:(Out.ok a s).bind f = f a s:=of_eq_true (eq_self _)
@[simp] theorem Zmc {c:Nat} {xs:List D} {s:Sl} {f:α → Sl → Out β}:(Out.exc c xs s).bind f = .exc c xs s:=of_eq_true (eq_self _)
@[simp] theorem Zmd {f:α → Sl → Out β}:(Out.bad:Out α).bind f = .bad:=of_eq_true (eq_self _)
@[simp] theorem Zmn {a:α} {s:Sl}:Out.ofO (some a) s = .ok a s:=of_eq_true (eq_self _)
def seqK (b:DS):Flow → Sl → Out Flow:=fun f δ1=>match f with | .nx=>b δ1 | f=>.ok f δ1
@[simp] theorem Znu {a b:DS}:dsSeq a b (x :: δ) = (a (x :: δ)).bind (seqK b):=of_eq_true (eq_self _)
theorem sq_c {a b:DS} {s:Sl}:dsSeq a b s = (a s).bind (seqK b):=of_eq_true (eq_self _)
@[simp] theorem ZmU {b:DS} {s:Sl}:seqK b .nx s = b s:=of_eq_true (eq_self _)
@[simp] theorem ZmT {b:DS} {d:D} {s:Sl}:seqK b (.rt d) s = .ok (.rt d) s:=of_eq_true (eq_self _)
def ifK (a b:DS):Bool → Sl → Out Flow:=fun x δ1=>match x with | true=>a δ1 | false=>b δ1
@[simp] theorem dsIf_c {c:DT} {a b:DS}:dsIf c a b (x :: δ) = (c (x :: δ)).bind (ifK a b):=of_eq_true (eq_self _)
@[simp] theorem ifK_t {a b:DS} {s:Sl}:ifK a b true s = a s:=of_eq_true (eq_self _)
@[simp] theorem ifK_f {a b:DS} {s:Sl}:ifK a b false s = b s:=of_eq_true (eq_self _)
@[simp] theorem ZmJ:dsNext (x :: δ) = .ok .nx (x :: δ):=of_eq_true (eq_self _)
def asgK (tg:D → Sl → Option Sl):D → Sl → Out Flow:=fun d δ1=>match tg d δ1 with | some δ2=>.ok .nx δ2 | none=>.bad
@[simp] theorem Znx {e:DE} {tg:D → Sl → Option Sl}:dsAsg e tg (x :: δ) = (e (x :: δ)).bind (asgK tg):=of_eq_true (eq_self _)
@[simp] theorem asgK_n {i:Nat} {d:D} {s:Sl}:asgK (tgN i) d s = .ok .nx (s.set i (some d)):=of_eq_true (eq_self _)
def retK:D → Sl → Out Flow:=fun d δ1=>.ok (.rt d) δ1
@[simp] theorem Znv {e:DE}:dsRet e (x :: δ) = (e (x :: δ)).bind retK:=of_eq_true (eq_self _)
@[simp] theorem retK_c {d:D} {s:Sl}:retK d s = .ok (.rt d) s:=of_eq_true (eq_self _)
def dropK:D → Sl → Out Flow:=fun _ δ1=>.ok .nx δ1
@[simp] theorem ZmL {e:DE}:dsDrop e (x :: δ) = (e (x :: δ)).bind dropK:=of_eq_true (eq_self _)
@[simp] theorem Zny {d:D} {s:Sl}:dropK d s = .ok .nx s:=of_eq_true (eq_self _)
def forK (tg:D → Sl → Option Sl) (body:DS):List D → Sl → Out Flow:=fun its δ1=>loop tg body its δ1
@[simp] theorem Znw {di:DA} {tg:D → Sl → Option Sl} {b:DS}:dsFor di tg b (x :: δ) = (di (x :: δ)).bind (forK tg b):=of_eq_true (eq_self _)
@[simp] theorem forK_c {tg:D → Sl → Option Sl} {b:DS} {its:List D} {s:Sl}:forK tg b its s = loop tg b its s:=of_eq_true (eq_self _)
def loopK (tg:D → Sl → Option Sl) (body:DS) (xs:List D):Flow → Sl → Out Flow:=fun f δ2=>match f with
  | .nx=>loop tg body xs δ2
  | .ct=>loop tg body xs δ2
  | .bk=>.ok .nx δ2
  | .rt d=>.ok (.rt d) δ2
theorem Zkf {tg:D → Sl → Option Sl} {b:DS} {s:Sl}:loop tg b [] s = .ok .nx s:=rfl
theorem Zd4 {tg:D → Sl → Option Sl} {b:DS} {d:D} {ds:List D} {s s1:Sl} (h:tg d s = some s1):loop tg b (d :: ds) s = (b s1).bind (loopK tg b ds):=by
  unfold loop; rw [h]; rfl
@[simp] theorem Zf2 {tg:D → Sl → Option Sl} {b:DS} {ds:List D} {s:Sl}:loopK tg b ds .nx s = loop tg b ds s:=of_eq_true (eq_self _)
@[simp] theorem ZhL {tg:D → Sl → Option Sl} {b:DS} {ds:List D} {s:Sl}:loopK tg b ds .ct s = loop tg b ds s:=of_eq_true (eq_self _)
@[simp] theorem Zkh {tg:D → Sl → Option Sl} {b:DS} {ds:List D} {s:Sl}:loopK tg b ds .bk s = .ok .nx s:=of_eq_true (eq_self _)
@[simp] theorem Zkg {tg:D → Sl → Option Sl} {b:DS} {ds:List D} {d:D} {s:Sl}:loopK tg b ds (.rt d) s = .ok (.rt d) s:=of_eq_true (eq_self _)
def dtVK:D → Sl → Out Bool:=fun x δ1=>match x with | .v (.bl c)=>.ok c δ1 | _=>.bad
@[simp] theorem dtV_c {a:DE}:dtV a (x :: δ) = (a (x :: δ)).bind dtVK:=of_eq_true (eq_self _)
@[simp] theorem dtVK_c {c:Bool} {s:Sl}:dtVK (.v (.bl c)) s = .ok c s:=of_eq_true (eq_self _)
def dtAndK (b:DT):Bool → Sl → Out Bool:=fun x δ1=>match x with | true=>b δ1 | false=>.ok false δ1
def dtOrK (b:DT):Bool → Sl → Out Bool:=fun x δ1=>match x with | true=>.ok true δ1 | false=>b δ1
def dtNotK:Bool → Sl → Out Bool:=fun x δ1=>.ok (!x) δ1
@[simp] theorem Zns {a b:DT}:dtAnd a b (x :: δ) = (a (x :: δ)).bind (dtAndK b):=of_eq_true (eq_self _)
@[simp] theorem dtOr_c {a b:DT}:dtOr a b (x :: δ) = (a (x :: δ)).bind (dtOrK b):=of_eq_true (eq_self _)
@[simp] theorem Znr {a:DT}:dtNot a (x :: δ) = (a (x :: δ)).bind dtNotK:=of_eq_true (eq_self _)
@[simp] theorem ZmH {b:DT} {s:Sl}:dtAndK b true s = b s:=of_eq_true (eq_self _)
@[simp] theorem ZmI {b:DT} {s:Sl}:dtAndK b false s = .ok false s:=of_eq_true (eq_self _)
@[simp] theorem Znp {b:DT} {s:Sl}:dtOrK b true s = .ok true s:=of_eq_true (eq_self _)
@[simp] theorem Znq {b:DT} {s:Sl}:dtOrK b false s = b s:=of_eq_true (eq_self _)
@[simp] theorem ZmG {b:Bool} {s:Sl}:dtNotK b s = .ok (!b) s:=of_eq_true (eq_self _)
@[simp] theorem Zno:dtYes (x :: δ) = .ok true (x :: δ):=of_eq_true (eq_self _)
@[simp] theorem pVar_z {d:D}:pVar 0 (some d :: δ) = some d:=of_eq_true (eq_self _)
@[simp] theorem pVar_s {i:Nat}:pVar (i + 1) (x :: δ) = pVar i δ:=of_eq_true (eq_self _)
@[simp] theorem pC_c {v:V} {s:Sl}:pC v s = some (.v v):=of_eq_true (eq_self _)
def pOp2 (f:D → D → Option D):Option D → Option D → Option D
  | some a,some b=>f a b
  | _,_=>none
@[simp] theorem pOp2_c {f:D → D → Option D} {a b:D}:pOp2 f (some a) (some b) = f a b:=of_eq_true (eq_self _)
@[simp] theorem pOp_c {f:D → D → Option D} {a b:PP}:pOp f a b (x :: δ) = pOp2 f (a (x :: δ)) (b (x :: δ)):=by unfold pOp pOp2; cases a (x :: δ) <;> cases b (x :: δ) <;> rfl
@[simp] theorem filt_v {v:V}:Option.filter D.kept (some (.v v)) = some (.v v):=of_eq_true (eq_self _)
@[simp] theorem dP_c {a:PP}:dP a (x :: δ) = Out.ofO (Option.filter D.kept (a (x :: δ))) (x :: δ):=of_eq_true (eq_self _)
def k2 (f:D → D → Option D) (a:Option D):D → Sl → Out D:=fun y δ2=>Out.ofO (pOp2 f a (some y)) δ2
def k1 (f:D → D → Option D) (b:PP):D → Sl → Out D:=fun x δ1=>Out.ofO ((b δ1).bind fun y=>f x y) δ1
def kd (f:D → D → Option D) (b:DE):D → Sl → Out D:=fun x δ1=>(b δ1).bind fun y δ2=>Out.ofO (f x y) δ2
@[simp] theorem d2_c {f:D → D → Option D} {a b:DE}:d2 f a b (x :: δ) = (a (x :: δ)).bind (kd f b):=by
  unfold d2 both kd
  cases a (x :: δ) with
  | ok d s=>simp only [Z0]; cases b s <;> rfl
  | exc c xs s=>rfl
  | bad=>rfl
def kf (f:D → Option D):D → Sl → Out D:=fun x δ2=>Out.ofO (f x) δ2
@[simp] theorem d1S_c {f:D → Option D} {a:DE}:d1S f a (x :: δ) = (a (x :: δ)).bind (kf f):=of_eq_true (eq_self _)
@[simp] theorem kf_c {f:D → Option D} {d:D} {s:Sl}:kf f d s = Out.ofO (f d) s:=of_eq_true (eq_self _)
def andK (b:DE):D → Sl → Out D:=fun x δ1=>match x with | .v (.bl true)=>b δ1 | .v (.bl false)=>.ok (.bl false) δ1 | _=>.bad
@[simp] theorem dAnd_c {a b:DE}:dAnd a b (x :: δ) = (a (x :: δ)).bind (andK b):=of_eq_true (eq_self _)
@[simp] theorem andK_b {b:DE} {c:Bool} {s:Sl}:andK b (.v (.bl c)) s = if c then b s else .ok (.bl false) s:=by cases c <;> rfl
@[simp] theorem notD_b {c:Bool}:notD (.v (.bl c)) = some (.bl !c):=of_eq_true (eq_self _)
def chK2 (g:D → D → Option D) (y:D):D → Sl → Out D:=fun z δ2=>Out.ofO ((g y z).filter D.kept) δ2
def chK (f g:D → D → Option D) (c:DE):D × D → Sl → Out D:=fun xy δ1=>match f xy.1 xy.2 with
  | some (.v (.bl true))=>(c δ1).bind (chK2 g xy.2)
  | some (.v (.bl false))=>.ok (.bl false) δ1
  | _=>.bad
def pairK (b:DE):D → Sl → Out (D × D):=fun x δ1=>(b δ1).bind fun y δ2=>.ok (x,y) δ2
def pairK2 (x:D):D → Sl → Out (D × D):=fun y δ2=>.ok (x,y) δ2
@[simp] theorem dCh_c {f g:D → D → Option D} {a b c:DE}:dCh f g a b c (x :: δ) = ((a (x :: δ)).bind (pairK b)).bind (chK f g c):=of_eq_true (eq_self _)
@[simp] theorem ZmY {b:DE} {d:D}:pairK b d (x :: δ) = (b (x :: δ)).bind (pairK2 d):=of_eq_true (eq_self _)
@[simp] theorem Zmj {a b:D} {s:Sl}:pairK2 a b s = .ok (a,b) s:=of_eq_true (eq_self _)
theorem chK_c {f g:D → D → Option D} {c:DE} {a b:D} {k:Bool} (h:f a b = some (.v (.bl k))):chK f g c (a,b) (x :: δ) = if k then (c (x :: δ)).bind (chK2 g b) else .ok (.bl false) (x :: δ):=by
  unfold chK
  simp only [h]
  cases k <;> rfl
@[simp] theorem chK_le {c:DE} {i j:Int}:chK leD leD c (.v (.int i),.v (.int j)) (x :: δ) = if decide (i ≤ j) then (c (x :: δ)).bind (chK2 leD (.v (.int j))) else .ok (.bl false) (x :: δ):=chK_c rfl
@[simp] theorem chK2_c {g:D → D → Option D} {y z:D} {s:Sl}:chK2 g y z s = Out.ofO ((g y z).filter D.kept) s:=of_eq_true (eq_self _)
@[simp] theorem Znz {s:Sl}:daNil s = .ok [] s:=of_eq_true (eq_self _)
def consK2 (d:D):List D → Sl → Out (List D):=fun xs δ2=>.ok (d :: xs) δ2
def consK (r:DA):D → Sl → Out (List D):=fun x δ1=>(r δ1).bind (consK2 x)
@[simp] theorem ZmO {a:DE} {r:DA}:daCons a r (x :: δ) = (a (x :: δ)).bind (consK r):=of_eq_true (eq_self _)
@[simp] theorem ZnE {r:DA} {d:D}:consK r d (x :: δ) = (r (x :: δ)).bind (consK2 d):=of_eq_true (eq_self _)
@[simp] theorem ZmP {d:D} {ds:List D} {s:Sl}:consK2 d ds s = .ok (d :: ds) s:=of_eq_true (eq_self _)
@[simp] theorem ZmM {i:Nat} {r:DA}:daLend (pVar i) r (x :: δ) = match ((x :: δ)[i]?).join with | some d=>(r (x :: δ)).bind (consK2 (lend d)) | none=>.bad:=by
  unfold daLend pVar
  cases ((x :: δ)[i]?).join <;> rfl
@[simp] theorem ZmN {v:V} {r:DA}:daLend (pC v) r (x :: δ) = (r (x :: δ)).bind (consK2 (.v v)):=by
  unfold daLend
  simp only [pC_c,lend]
  rfl
def fK (F:List D → Option D):List D → Sl → Out D:=fun xs δ1=>Out.ofO (F xs) δ1
@[simp] theorem dF_c {F:List D → Option D} {r:DA}:dF F r (x :: δ) = (r (x :: δ)).bind (fK F):=of_eq_true (eq_self _)
@[simp] theorem fK_c {F:List D → Option D} {ds:List D} {s:Sl}:fK F ds s = Out.ofO (F ds) s:=of_eq_true (eq_self _)
def callK (F:List D → Out D):List D → Sl → Out D:=fun ds δ1=>match F ds with
  | .ok d _=>.ok d δ1
  | .exc c xs _=>.exc c xs δ1
  | .bad=>.bad
@[simp] theorem ZnA {F:List D → Out D} {r:DA}:dCall F r (x :: δ) = (r (x :: δ)).bind (callK F):=of_eq_true (eq_self _)
theorem ZeL {F:List D → Out D} {ds:List D} {d:D} {s s':Sl} (h:F ds = .ok d s'):callK F ds s = .ok d s:=by unfold callK; rw [h]
def ioK (F:List D → Out D) (ks:List AK):List D → Sl → Out D:=fun ts δ1=>match tk ks ts δ1 with
  | none=>.bad
  | some r=>match res r.2 r.1 with
    | none=>.bad
    | some ds=>match F ds with
      | .ok d ios=>(match putB ks ios r.2 with | some δ2=>.ok d δ2 | none=>.bad)
      | .exc c xs ios=>(match putB ks ios r.2 with | some δ2=>.exc c xs δ2 | none=>.bad)
      | .bad=>.bad
@[simp] theorem Zma {F:List D → Out D} {ks:List AK}:Ze F ks (x :: δ) = (dArgs ks (x :: δ)).bind (ioK F ks):=of_eq_true (eq_self _)
def finF (io:List Bool):Out Flow → Out D
  | .ok .nx δ'=>.ok .non (ioF io δ')
  | .ok (.rt d) δ'=>.ok d (ioF io δ')
  | .ok .bk _=>.bad
  | .ok .ct _=>.bad
  | .exc c xs δ'=>.exc c xs (ioF io δ')
  | .bad=>.bad
theorem runF_c {N:Nat} {io:List Bool} {ds:DS} {args:List D} (h:args.length = io.length):runF N io ds args = finF io (ds (args.map some ++ List.replicate (N - args.length) none)):=by
  unfold runF
  rw [if_pos h]
  unfold finF
  split <;> simp_all
@[simp] theorem ZlH {io:List Bool} {s:Sl}:finF io (.ok .nx s) = .ok .non (ioF io s):=of_eq_true (eq_self _)
@[simp] theorem Zks {io:List Bool} {c:Nat} {xs:List D} {s:Sl}:finF io (.exc c xs s) = .exc c xs (ioF io s):=of_eq_true (eq_self _)
@[simp] theorem Zml {i j:Int}:modD (.v (.int i)) (.v (.int j)) = if cMod i j then some (.v (.int (i % j))) else none:=by simp only [modD,f2I]; split <;> rfl
@[simp] theorem Zmm {i j:Int}:divD (.v (.int i)) (.v (.int j)) = if cDiv i j then some (.v (.int (i / j))) else none:=by simp only [divD,f2I]; split <;> rfl
@[simp] theorem Zm1 {i j:Int}:gtD (.v (.int i)) (.v (.int j)) = some (.v (.bl (decide (j < i)))):=of_eq_true (eq_self _)
@[simp] theorem ZmZ {i j:Int}:ltD (.v (.int i)) (.v (.int j)) = some (.v (.bl (decide (i < j)))):=of_eq_true (eq_self _)
@[simp] theorem Zmk {i j:Int}:subD (.v (.int i)) (.v (.int j)) = some (.v (.int (i - j))):=of_eq_true (eq_self _)
@[simp] theorem ix3_0 {w:Fl} {a b c:D}:ixD (.n .lst w [a,b,c]) (.v (.int 0)) = some a:=of_eq_true (eq_self _)
@[simp] theorem ix3_1 {w:Fl} {a b c:D}:ixD (.n .lst w [a,b,c]) (.v (.int 1)) = some b:=of_eq_true (eq_self _)
@[simp] theorem ix3_2 {w:Fl} {a b c:D}:ixD (.n .lst w [a,b,c]) (.v (.int 2)) = some c:=of_eq_true (eq_self _)
theorem cMul_r {i j:Int} (h:j.natAbs < 2 ^ 64):cMul i j = true:=by simp [cMul,h]
theorem cMul_l {i j:Int} (h:i.natAbs < 2 ^ 64):cMul i j = true:=by simp [cMul,h]
theorem cMod_p {i j:Int} (h:0 < j):cMod i j = true:=by simp [cMod,h]
theorem cDiv_w {i j:Int} (h:0 < j) (h2:j < 1606938044258990275541962092341162602522202993782792835301376):cDiv i j = true:=by simp [cDiv,h,h2]
theorem cDiv_p {i j:Int} (h:0 < j) (h2:j < 1073741824):cDiv i j = true:=cDiv_w h (by omega)
@[simp] theorem frz_v {v:V}:frz (.v v) = .v v:=by simp [frz]
@[simp] theorem dMv_v {i:Nat} {δ:Sl} {v:V} (h:(δ[i]?).join = some (.v v)):dMv i δ = .ok (.v v) (δ.set i none):=by unfold dMv; rw [h]; rfl
@[simp] theorem Zm0 {i j:Int}:leD (.v (.int i)) (.v (.int j)) = some (.v (.bl (decide (i ≤ j)))):=of_eq_true (eq_self _)
end
end Fs
namespace Fs
open PySem PySem.Spec PyProof.Rows L2
section
variable {α β:Type} {x:Option D} {δ s:Sl}
@[simp] theorem Znm:evO [] s = .ok [] s:=of_eq_true (eq_self _)
def evK (o:Option D) (os:List Od) (δ:Sl):Out (List D):=match o with
  | some d=>(evO os δ).bind (consK2 d)
  | none=>.bad
@[simp] theorem evO_k {a:PP} {os:List Od}:evO (.k a :: os) s = evK (a s) os s:=of_eq_true (eq_self _)
@[simp] theorem evK_s {d:D} {os:List Od}:evK (some d) os s = (evO os s).bind (consK2 d):=of_eq_true (eq_self _)
def evV (os:List Od):D → Sl → Out (List D):=fun d s=>(evO os s).bind (consK2 d)
@[simp] theorem evO_v {e:DE} {os:List Od}:evO (.v e :: os) s = (e s).bind (evV os):=of_eq_true (eq_self _)
@[simp] theorem evV_c {d:D} {os:List Od}:evV os d s = (evO os s).bind (consK2 d):=of_eq_true (eq_self _)
@[simp] theorem dN_c {F:List D → Option D} {os:List Od}:dN F os s = (evO os s).bind (fK F):=of_eq_true (eq_self _)
@[simp] theorem f2_c {f:D → D → Option D} {a b:D}:f2 f [a,b] = f a b:=of_eq_true (eq_self _)
@[simp] theorem f1_c {f:D → Option D} {a:D}:f1 f [a] = f a:=of_eq_true (eq_self _)
@[simp] theorem Zmb:dArgs [] s = .ok [] s:=of_eq_true (eq_self _)
def argK (ks:List AK):D → Sl → Out (List D):=fun d s=>(dArgs ks s).bind (consK2 d)
@[simp] theorem ZnB {e:DE} {ks:List AK}:dArgs (.v e :: ks) s = (e s).bind (argK ks):=of_eq_true (eq_self _)
@[simp] theorem argK_c {d:D} {ks:List AK}:argK ks d s = (dArgs ks s).bind (consK2 d):=of_eq_true (eq_self _)
@[simp] theorem ZnD {i:Nat} {ks:List AK}:dArgs (.l i :: ks) s = if (s[i]?).join.isSome then dArgs ks s else .bad:=of_eq_true (eq_self _)
@[simp] theorem ZnC {i:Nat} {ks:List AK}:dArgs (.o i :: ks) s = if (s[i]?).join.isSome then dArgs ks s else .bad:=of_eq_true (eq_self _)
def niK (F:List D → Option D) (ks:List AK):List D → Sl → Out D:=fun ts s=>Out.ofO ((resN ks ts s).bind F) s
@[simp] theorem dNI_c {F:List D → Option D} {ks:List AK}:dNI F ks s = (dArgs ks s).bind (niK F ks):=by
  unfold dNI niK
  cases dArgs ks s with
  | ok a s1=>simp only [Z0]; cases resN ks a s1 <;> rfl
  | exc c xs s1=>rfl
  | bad=>rfl
@[simp] theorem niK_c {F:List D → Option D} {ks:List AK} {ts:List D}:niK F ks ts s = Out.ofO ((resN ks ts s).bind F) s:=of_eq_true (eq_self _)
@[simp] theorem Zmg:resN [] [] s = some []:=of_eq_true (eq_self _)
@[simp] theorem resN_v {e:DE} {ks:List AK} {t:D} {ts:List D}:resN (.v e :: ks) (t :: ts) s = (resN ks ts s).map (t :: ·):=by simp [resN]
@[simp] theorem resN_l {i:Nat} {ks:List AK} {ts:List D}:resN (.l i :: ks) ts s = ((s[i]?).join).bind fun d=>(resN ks ts s).map (d :: ·):=by simp [resN]
@[simp] theorem pUn_c {f:D → Option D} {a:PP}:pUn f a s = (a s).bind f:=of_eq_true (eq_self _)
def lendK (o:Option D) (r:DA) (s:Sl):Out (List D):=match o with
  | some d=>(r s).bind (consK2 (lend d))
  | none=>.bad
theorem Zgc {a:PP} {r:DA}:daLend a r s = lendK (a s) r s:=by
  unfold daLend lendK
  cases a s <;> rfl
@[simp] theorem Zm6 {d:D} {r:DA}:lendK (some d) r s = (r s).bind (consK2 (lend d)):=of_eq_true (eq_self _)
@[simp] theorem Zl7 {f:D → Option D} {a:PP} {r:DA}:daLend (pUn f a) r s = lendK (pUn f a s) r s:=Zgc
@[simp] theorem Zl9 {f:D → D → Option D} {a b:PP} {r:DA}:daLend (pOp f a b) r s = lendK (pOp f a b s) r s:=Zgc
@[simp] theorem Zl8 {c:Nat} {m:Str} {a:PP} {r:DA}:daLend (pRc c m a) r s = lendK (pRc c m a s) r s:=Zgc
@[simp] theorem lend_v {v:V}:lend (.v v) = .v v:=by simp [lend]
@[simp] theorem lend_s {ns:List Int}:lend (.s ns) = .s ns:=by simp [lend]
@[simp] theorem Zf3 {k:Kd} {ds:List D}:lend (.n k .shr ds) = .n k .shr ds:=by simp [lend]
@[simp] theorem Zkl {k:Kd} {ds:List D}:lend (.n k .bor ds) = .n k .bor ds:=by simp [lend]
@[simp] theorem Zkk {k:Kd} {ds:List D}:lend (.n k .own ds) = .n k .bor (lends ds):=by simp [lend]
@[simp] theorem ZlC {k:Kd} {ds:List D}:frz (.n k .shr ds) = .n k .shr ds:=by simp [frz]
@[simp] theorem Zms:frzs [] = []:=by simp [frzs]
@[simp] theorem Zl2 {d:D} {ds:List D}:frzs (d :: ds) = frz d :: frzs ds:=by simp [frzs]
@[simp] theorem ZlZ:lends [] = []:=by simp [lends]
@[simp] theorem ZfD {d:D} {ds:List D}:lends (d :: ds) = lend d :: lends ds:=by simp [lends]
@[simp] theorem addA_i {i j:Int}:addA (.v (.int i)) (.v (.int j)) = some (.v (.int (i + j))):=of_eq_true (eq_self _)
@[simp] theorem mulA_i {i j:Int}:mulA (.v (.int i)) (.v (.int j)) = if cMul i j then some (.v (.int (i * j))) else none:=by
  simp only [mulA]
@[simp] theorem maxD_i {i j:Int}:maxD (.v (.int i)) (.v (.int j)) = some (.v (.int (max i j))):=by
  show some (D.v (V.int (if j > i then j else i))) = _
  have:(if j > i then j else i) = max i j:=by split <;> omega
  rw [this]
@[simp] theorem minD_i {i j:Int}:minD (.v (.int i)) (.v (.int j)) = some (.v (.int (min i j))):=by
  show some (D.v (V.int (if j < i then j else i))) = _
  have:(if j < i then j else i) = min i j:=by split <;> omega
  rw [this]
@[simp] theorem ZlY:notND (.v .non) = some (.v (.bl false)):=of_eq_true (eq_self _)
def storeK (pl:PL) (kd:DE) (fz:Bool):D → Sl → Out Flow:=fun y δ1=>stC pl δ1 fun i π d c=>(noX (kd δ1)).bind fun kk δ2=>stEnd mSet i π d c [kk,if fz then frz y else y] δ2
@[simp] theorem Zl5 {pl:PL} {kd e:DE} {fz:Bool}:ZcB pl kd fz e s = (e s).bind (storeK pl kd fz):=of_eq_true (eq_self _)
@[simp] theorem Zmf {a b c d:D}:storeK (plV 0) (dP (pC (.int 0))) true d (some (.n .lst .own [a,b,c]) :: δ) = .ok .nx (some (.n .lst .own [frz d,b,c]) :: δ):=of_eq_true (eq_self _)
@[simp] theorem Zme {a b c d:D}:storeK (plV 0) (dP (pC (.int 2))) true d (some (.n .lst .own [a,b,c]) :: δ) = .ok .nx (some (.n .lst .own [a,b,frz d]) :: δ):=of_eq_true (eq_self _)
def fldSK (pl:PL) (c0:Nat) (f:Str):D → Sl → Out Flow:=fun y δ1=>stC pl δ1 fun i π d c=>stEnd (mFld c0 f) i π d c [y] δ1
@[simp] theorem ZmK {pl:PL} {c:Nat} {f:Str} {e:DE}:dsFldS pl c f e s = (e s).bind (fldSK pl c f):=of_eq_true (eq_self _)
def raiseK (c n:Nat):List D → Sl → Out Flow:=fun xs s=>if xs.length = n then .exc c xs s else .bad
@[simp] theorem Zl6 {c n:Nat} {da:DA}:ZbP c n da s = (da s).bind (raiseK c n):=of_eq_true (eq_self _)
@[simp] theorem Zmh {c n:Nat} {xs:List D}:raiseK c n xs s = if xs.length = n then .exc c xs s else .bad:=of_eq_true (eq_self _)
def sat (o:Out α) (Q:α → Sl → Prop):Prop:=∃ a s,o = .ok a s ∧ Q a s
@[simp] theorem sat_ok {a:α} {Q:α → Sl → Prop}:sat (.ok a s) Q ↔ Q a s:=⟨fun ⟨_,_,e,h⟩=>by cases e; exact h,fun h=>⟨a,s,rfl,h⟩⟩
@[simp] theorem ZmW {Q:α → Sl → Prop}:sat (.bad:Out α) Q ↔ False:=⟨fun ⟨_,_,e,_⟩=>(by cases e),False.elim⟩
@[simp] theorem ZkQ {c:Nat} {xs:List D} {Q:α → Sl → Prop}:sat (.exc c xs s:Out α) Q ↔ False:=⟨fun ⟨_,_,e,_⟩=>(by cases e),False.elim⟩
@[simp] theorem ZjY {o:Out α} {f:α → Sl → Out β} {Q:β → Sl → Prop}:sat (o.bind f) Q ↔ sat o fun a s=>sat (f a s) Q:=by
  cases o <;> simp
theorem Zg {o:Out α} {Q Q':α → Sl → Prop} (h:sat o Q) (k:∀ a s,Q a s → Q' a s):sat o Q':=by
  obtain ⟨a,s,e,h⟩:=h; exact ⟨a,s,e,k a s h⟩
@[simp] theorem tk_nil:tk [] [] s = some ([],s):=of_eq_true (eq_self _)
@[simp] theorem tk_v {e:DE} {ks:List AK} {t:D} {ts:List D}:tk (.v e :: ks) (t :: ts) s = (tk ks ts s).map fun r=>((some t,0) :: r.1,r.2):=by simp only [tk]
@[simp] theorem tk_l {i:Nat} {ks:List AK} {ts:List D}:tk (.l i :: ks) ts s = (tk ks ts s).map fun r=>((none,i) :: r.1,r.2):=by simp only [tk]
@[simp] theorem tk_o {i:Nat} {ks:List AK} {ts:List D}:tk (.o i :: ks) ts s = ((s[i]?).join).bind fun d=>if d.free then (tk ks ts (s.set i none)).map fun r=>((some d,0) :: r.1,r.2) else none:=by simp only [tk]
@[simp] theorem ZmX:res s [] = some []:=of_eq_true (eq_self _)
@[simp] theorem res_s {d:D} {n:Nat} {r:List (Option D × Nat)}:res s ((some d,n) :: r) = (res s r).map fun ds=>d :: ds:=by simp only [res]
@[simp] theorem res_n {i:Nat} {r:List (Option D × Nat)}:res s ((none,i) :: r) = ((s[i]?).join).bind fun d=>(res s r).map fun ds=>lend d :: ds:=by simp only [res]
@[simp] theorem Zmi:putB [] [] s = some s:=of_eq_true (eq_self _)
@[simp] theorem putB_o {i:Nat} {ks:List AK} {d:D} {ios:Sl}:putB (.o i :: ks) (some d :: ios) s = if d.free then putB ks ios (s.set i (some d)) else none:=by simp only [putB]
@[simp] theorem putB_v {e:DE} {ks:List AK} {x:Option D} {ios:Sl}:putB (.v e :: ks) (x :: ios) s = putB ks ios s:=by simp only [putB]
@[simp] theorem putB_l {i:Nat} {ks:List AK} {x:Option D} {ios:Sl}:putB (.l i :: ks) (x :: ios) s = putB ks ios s:=by simp only [putB]
def ioP (F:List D → Out D) (ks:List AK) (Q:D → Sl → Prop):Option (List (Option D × Nat) × Sl) → Prop
  | some r=>(match res r.2 r.1 with
    | some ds=>sat (F ds) fun y ios=>∃ δ2,putB ks ios r.2 = some δ2 ∧ Q y δ2
    | none=>False)
  | none=>False
@[simp] theorem ZmV {F:List D → Out D} {ks:List AK} {ts:List D} {Q:D → Sl → Prop}:sat (ioK F ks ts s) Q ↔ ioP F ks Q (tk ks ts s):=by
  unfold ioK ioP
  cases tk ks ts s with
  | none=>simp
  | some r =>
    simp only
    cases res r.2 r.1 with
    | none=>simp
    | some ds =>
      simp only
      cases F ds with
      | bad=>simp
      | exc c xs ios=>simp only [ZkQ,iff_false]; split <;> simp
      | ok d ios =>
        simp only [sat_ok]
        cases putB ks ios r.2 <;> simp
@[simp] theorem ioP_s {F:List D → Out D} {ks:List AK} {Q:D → Sl → Prop} {es:List (Option D × Nat)} {δr:Sl}:ioP F ks Q (some (es,δr)) = (match res δr es with
    | some ds=>sat (F ds) fun y ios=>∃ δ2,putB ks ios δr = some δ2 ∧ Q y δ2
    | none=>False):=rfl
theorem ZhE {F:List D → Out D} {ds:List D} {Q:D → Sl → Prop} (h:sat (F ds) fun y _=>Q y s):sat (callK F ds s) Q:=by
  obtain ⟨y,s',e,h⟩:=h
  rw [ZeL e]
  exact ⟨y,s,rfl,h⟩
theorem sat_F {N:Nat} {io:List Bool} {ds:DS} {args:List D} {Q:D → Sl → Prop} (hl:args.length = io.length) (h:sat (ds (args.map some ++ List.replicate (N - args.length) none)) fun f s=>match f with | .nx=>Q .non (ioF io s) | .rt d=>Q d (ioF io s) | _=>False):sat (runF N io ds args) Q:=by
  rw [runF_c hl]
  obtain ⟨f,s,e,h⟩:=h
  rw [e]
  cases f with
  | nx=>exact ⟨_,_,rfl,h⟩
  | rt d=>exact ⟨_,_,rfl,h⟩
  | bk=>exact h.elim
  | ct=>exact h.elim
theorem ZfQ {tg:D → Sl → Option Sl} {b:DS} (I:List D → Sl → Prop) (hs:∀ d r s,I (d :: r) s → ∃ s1,tg d s = some s1 ∧ sat (b s1) fun f s2=>(f = .nx ∨ f = .ct) ∧ I r s2):∀ {its:List D} {s:Sl},I its s → sat (loop tg b its s) fun f s2=>f = .nx ∧ I [] s2
  | [],s,h=>by rw [Zkf]; exact sat_ok.mpr ⟨rfl,h⟩
  | d :: r,s,h=>by
    obtain ⟨s1,e1,f,s2,e2,hf,h2⟩:=hs d r s h
    rw [Zd4 e1,e2,Z0]
    rcases hf with rfl | rfl
    · rw [Zf2]; exact ZfQ I hs h2
    · rw [ZhL]; exact ZfQ I hs h2
end
end Fs
namespace Fs
open PySem PySem.Spec PyProof.Rows L2
theorem Zbh:∀ {d:D},d.kept = true → lend d = d
  | .v _,_=>by simp
  | .s _,_=>by simp
  | .n _ .shr _,_=>by simp
  | .n _ .own _,h=>by simp [D.kept] at h
  | .n _ .bor _,h=>by simp [D.kept] at h
class Ke {ρ:Type} (enc:ρ → D):Prop where
  kept:∀ x,(enc x).kept = true
instance:Ke D.int:=⟨fun _=>rfl⟩
instance:Ke D.str:=⟨fun _=>rfl⟩
instance:Ke D.bl:=⟨fun _=>rfl⟩
def lnd:Fl → Fl | .own=>.bor | .bor=>.bor | .shr=>.shr
def fzd:Fl → Fl | .own=>.shr | .bor=>.bor | .shr=>.shr
@[simp] theorem Zm4:lnd .own = .bor:=rfl
@[simp] theorem Zm5:lnd .bor = .bor:=rfl
@[simp] theorem Zm3:lnd .shr = .shr:=rfl
@[simp] theorem Zne:fzd .own = .shr:=rfl
@[simp] theorem Znd:fzd .shr = .shr:=rfl
section
variable {ρ τ:Type} {enc:ρ → D} {w w':Fl} {xs ys:List ρ} {s δ:Sl}
def Lst (enc:ρ → D) (w:Fl) (xs:List ρ):D:=.n .lst w (xs.map enc)
def Tpl (enc:ρ → D) (xs:List ρ):D:=.n .tup .shr (xs.map enc)
instance [Ke enc]:Ke (Lst enc .shr):=⟨fun _=>rfl⟩
instance:Ke (Tpl enc):=⟨fun _=>rfl⟩
theorem ZeK [Ke enc]:∀ xs:List ρ,frzs (xs.map enc) = xs.map enc
  | []=>by simp
  | x :: xs=>by simp [ZeK xs,Zbs (Ke.kept (enc:=enc) x)]
theorem Zbm [Ke enc] (xs:List ρ):(xs.map enc).all D.kept = true:=by
  simp only [List.all_map,List.all_eq_true]
  intro x _; exact Ke.kept x
@[simp] theorem ZlE [Ke enc]:frz (Lst enc w xs) = Lst enc (fzd w) xs:=by
  unfold Lst; cases w <;> simp [fzd,ZeK,frz]
@[simp] theorem Zmr:(Lst enc .shr xs).kept = true:=rfl
@[simp] theorem Zmq:(Tpl enc xs).kept = true:=rfl
@[simp] theorem ZmB:Option.filter D.kept (some (Tpl enc xs)) = some (Tpl enc xs):=rfl
@[simp] theorem ZmE:Option.filter D.kept (some (Lst enc .shr xs)) = some (Lst enc .shr xs):=rfl
@[simp] theorem Zm9:lenD (Lst enc w xs) = some (.v (.int (xs.length:Int))):=by simp [Lst,lenD]
@[simp] theorem Zm8:lenD (Tpl enc xs) = some (.v (.int (xs.length:Int))):=by simp [Tpl,lenD]
@[simp] theorem Znb:isiD "list" (Lst enc w xs) = some (.v (.bl true)):=rfl
@[simp] theorem Zna:isiD "tuple" (Tpl enc xs) = some (.v (.bl true)):=rfl
@[simp] theorem it_Lst [Ke enc]:itA true (Lst enc w xs) = some (xs.map enc):=by
  simp only [Lst,itA]
  rw [if_pos ⟨Zbm xs,.inl (by trivial)⟩]
theorem ix_Lst [Ke enc] {i:Nat} {x:ρ} (h:xs[i]? = some x):ixD (Lst enc w xs) (.v (.int (i:Int))) = some (enc x):=by
  have hl:i < xs.length:=(List.getElem?_eq_some_iff.mp h).1
  simp only [Lst,ixD,atI,ixN]
  have h2:xs[i] = x:=by rw [List.getElem?_eq_getElem hl] at h; exact Option.some.inj h
  simp [hl,h2]
theorem Zlu [Ke enc] {i:Nat} {x:ρ} (h:xs[i]? = some x):ixK (Lst enc w xs) (.v (.int (i:Int))) = some (enc x):=by
  unfold ixK
  rw [ix_Lst h]
  simp [Option.filter,Ke.kept]
theorem Zep [Ke enc] {i:Int} (h0:0 ≤ i) (h1:i < xs.length):∃ x,x ∈ xs ∧ xs[i.toNat]? = some x ∧ ixK (Lst enc w xs) (.v (.int i)) = some (enc x) ∧ ixD (Lst enc w xs) (.v (.int i)) = some (enc x):=by
  obtain ⟨n,rfl⟩:∃ n:Nat,i = (n:Int):=⟨i.toNat,by omega⟩
  have h2:n < xs.length:=by omega
  have h3:xs[n]? = some xs[n]:=List.getElem?_eq_getElem h2
  exact ⟨xs[n],List.getElem_mem h2,h3,Zlu h3,ix_Lst h3⟩
theorem Zhv [Ke enc] (h:xs.length + ys.length ≤ 100000):addA (Lst enc w xs) (Lst enc w' ys) = some (Lst enc .own (xs ++ ys)):=by
  simp only [Lst,addA]
  rw [if_pos ⟨by simpa using h,Zbm xs,Zbm ys⟩]
  simp
@[simp] theorem Zkj [Ke enc]:listD (Lst enc w xs) = some (Lst enc .own xs):=by
  simp only [Lst,listD,Zbm,if_true]
@[simp] theorem ZeO [Ke enc]:tupD (Lst enc w xs) = some (Tpl enc xs):=by
  simp only [Lst,Tpl,tupD,Zbm,if_true]
@[simp] theorem mkI1 {a:Int}:mkLst [.v (.int a)] = some (Lst D.int .own [a]):=rfl
@[simp] theorem mkI2 {a b:Int}:mkLst [.v (.int a),.v (.int b)] = some (Lst D.int .own [a,b]):=rfl
@[simp] theorem mkI3 {a b c:Int}:mkLst [.v (.int a),.v (.int b),.v (.int c)] = some (Lst D.int .own [a,b,c]):=rfl
@[simp] theorem mkI4 {a b c d:Int}:mkLst [.v (.int a),.v (.int b),.v (.int c),.v (.int d)] = some (Lst D.int .own [a,b,c,d]):=rfl
@[simp] theorem mkI5 {a b c d e:Int}:mkLst [.v (.int a),.v (.int b),.v (.int c),.v (.int d),.v (.int e)] = some (Lst D.int .own [a,b,c,d,e]):=rfl
@[simp] theorem mkI6 {a b c d e f:Int}:mkLst [.v (.int a),.v (.int b),.v (.int c),.v (.int d),.v (.int e),.v (.int f)] = some (Lst D.int .own [a,b,c,d,e,f]):=rfl
@[simp] theorem mkI7 {a b c d e f g:Int}:mkLst [.v (.int a),.v (.int b),.v (.int c),.v (.int d),.v (.int e),.v (.int f),.v (.int g)] = some (Lst D.int .own [a,b,c,d,e,f,g]):=rfl
@[simp] theorem mkI8 {a b c d e f g h:Int}:mkLst [.v (.int a),.v (.int b),.v (.int c),.v (.int d),.v (.int e),.v (.int f),.v (.int g),.v (.int h)] = some (Lst D.int .own [a,b,c,d,e,f,g,h]):=rfl
class EqE {ρ:Type} (enc:ρ → D) (ok:outParam (ρ → Prop)) where
  p:ρ → PyData
  pd_eq:∀ x,pd (enc x) = some (p x)
  lay:∀ x,ok x → PyData.canLay0 (p x) = true
  dep:∀ x,PyData.depth (p x) ≤ 8
  eqv:∀ x y,PyData.eqv (p x) (p y) = true ↔ x = y
def okS (z:Str):Prop:=∀ c ∈ z.cps.toList,c < 1114112
theorem ZfL {z:Str} (h:okS z):PyData.strOk z = true:=by
  simp [PyData.strOk]; intro i hi; exact h _ (by simp)
instance:EqE D.int (fun _=>True):=⟨.int,fun _=>by simp [pd],fun _ _=>by simp [PyData.canLay0],fun _=>by simp [PyData.depth],fun x y=>by simp [PyData.eqv]⟩
instance:EqE D.str okS:=⟨.str,fun _=>by simp [pd],fun _ h=>by simpa [PyData.canLay0] using ZfL h,fun _=>by simp [PyData.depth],fun x y=>by simp [PyData.eqv]⟩
theorem Zdh {ok:ρ → Prop} [E:EqE enc ok]:∀ xs:List ρ,pds (xs.map enc) = some (xs.map E.p)
  | []=>rfl
  | x :: xs=>by simp [pds,E.pd_eq,Zdh xs]
theorem Zhf {ok:ρ → Prop} [E:EqE enc ok]:∀ xs:List ρ,(∀ x ∈ xs,ok x) → PyData.canLayAll0 (xs.map E.p) = true
  | [],_=>rfl
  | x :: xs,h=>by simp [PyData.canLayAll0,E.lay x (h x List.mem_cons_self),Zhf xs fun y hy=>h y (List.mem_cons_of_mem _ hy)]
theorem Zhr {ok:ρ → Prop} [E:EqE enc ok]:∀ xs:List ρ,PyData.depthAll (xs.map E.p) ≤ 8
  | []=>by simp [PyData.depthAll]
  | x :: xs=>by
    have h1:=E.dep x
    have h2:=Zhr (E:=E) xs
    simp only [List.map_cons,PyData.depthAll]
    omega
theorem Zf9 {ok:ρ → Prop} [E:EqE enc ok]:∀ xs ys:List ρ,PyData.eqvAll (xs.map E.p) (ys.map E.p) = true ↔ xs = ys
  | [],[]=>by simp [PyData.eqvAll]
  | [],y :: ys=>by simp [PyData.eqvAll]
  | x :: xs,[]=>by simp [PyData.eqvAll]
  | x :: xs,y :: ys=>by simp [PyData.eqvAll,E.eqv,Zf9 xs ys]
theorem eqD_of {x y:D} {a b:PyData} (hx:pd x = some a) (hy:pd y = some b) (ha:SeqAt.shaped a = true) (hb:SeqAt.shaped b = true):eqD x y = some (.v (.bl (PyData.eqv a b))):=by
  unfold eqD
  rw [hx,hy]
  simp only [Option.bind_some]
  rw [if_pos ⟨ha,hb⟩]
theorem neD_of {x y:D} {a b:PyData} (hx:pd x = some a) (hy:pd y = some b) (ha:SeqAt.shaped a = true) (hb:SeqAt.shaped b = true):neD x y = some (.v (.bl (!PyData.eqv a b))):=by
  unfold neD
  rw [hx,hy]
  simp only [Option.bind_some]
  rw [if_pos ⟨ha,hb⟩]
theorem sh_enc {ok:ρ → Prop} [E:EqE enc ok] (h:∀ x ∈ xs,ok x):SeqAt.shaped (.list (xs.map E.p)) = true:=by
  have h2:=Zhr (E:=E) xs
  simp [SeqAt.shaped,PyData.canLay0,PyData.depth,Zhf xs h]
  omega
theorem ZfN {ok:ρ → Prop} [E:EqE enc ok] (h:∀ x ∈ xs,ok x):SeqAt.shaped (.tuple (xs.map E.p)) = true:=by
  have h2:=Zhr (E:=E) xs
  simp [SeqAt.shaped,PyData.canLay0,PyData.depth,Zhf xs h]
  omega
theorem ne_Lst [DecidableEq ρ] {ok:ρ → Prop} [E:EqE enc ok] (hx:∀ x ∈ xs,ok x) (hy:∀ x ∈ ys,ok x):neD (Lst enc w xs) (Lst enc w' ys) = some (.v (.bl (!decide (xs = ys)))):=by
  rw [neD_of (a:=.list (xs.map E.p)) (b:=.list (ys.map E.p)) (by simp [Lst,pd,Zdh]) (by simp [Lst,pd,Zdh]) (sh_enc hx) (sh_enc hy)]
  have:=Zf9 (E:=E) xs ys
  simp only [PyData.eqv]
  congr 4
  rw [Bool.eq_iff_iff,this]; simp
theorem ZlI [DecidableEq ρ] {ok:ρ → Prop} [E:EqE enc ok] (hx:∀ x ∈ xs,ok x) (hy:∀ x ∈ ys,ok x):eqD (Tpl enc xs) (Tpl enc ys) = some (.v (.bl (decide (xs = ys)))):=by
  rw [eqD_of (a:=.tuple (xs.map E.p)) (b:=.tuple (ys.map E.p)) (by simp [Tpl,pd,Zdh]) (by simp [Tpl,pd,Zdh]) (ZfN hx) (ZfN hy)]
  have:=Zf9 (E:=E) xs ys
  simp only [PyData.eqv]
  congr 3
  rw [Bool.eq_iff_iff,this]; simp
theorem Zlg [DecidableEq ρ] {ok:ρ → Prop} [E:EqE enc ok] (hx:∀ x ∈ xs,ok x) (hy:∀ x ∈ ys,ok x):neD (Tpl enc xs) (Tpl enc ys) = some (.v (.bl (!decide (xs = ys)))):=by
  rw [neD_of (a:=.tuple (xs.map E.p)) (b:=.tuple (ys.map E.p)) (by simp [Tpl,pd,Zdh]) (by simp [Tpl,pd,Zdh]) (ZfN hx) (ZfN hy)]
  have:=Zf9 (E:=E) xs ys
  simp only [PyData.eqv]
  congr 4
  rw [Bool.eq_iff_iff,this]; simp
theorem Zlf {ok:ρ → Prop} [E:EqE enc ok] (hx:∀ x ∈ xs,ok x):neD (Lst enc w xs) (.n .lst w' []) = some (.v (.bl (!xs.isEmpty))):=by
  rw [neD_of (a:=.list (xs.map E.p)) (b:=.list []) (by simp [Lst,pd,Zdh]) (by simp [pd,pds]) (sh_enc hx) (by decide)]
  cases xs <;> simp [PyData.eqv,PyData.eqvAll]
variable {keep:Bool} {vs:List Nat} {di:DA} {tg:D → Sl → Option Sl} {tst:DT} {elt:DE} {Q:D → Sl → Prop} {out:τ → D}
theorem Zhs [Ke out] (st:ρ → Sl) (t:ρ → Bool) (f:ρ → τ):∀ (xs:List ρ) (acc:List D),(∀ x ∈ xs,tg (enc x) δ = some (st x) ∧ wipeD (st x) vs = δ ∧ tst (st x) = .ok (t x) (st x) ∧ (t x = true → elt (st x) = .ok (out (f x)) (st x))) → acc.length + xs.length ≤ 100000 → comp vs tg tst elt (xs.map enc) acc δ = .ok (acc ++ ((xs.filter t).map f).map out) δ
  | [],acc,_,_=>by simp [comp]
  | x :: xs,acc,h,hl=>by
    obtain ⟨h1,h2,h3,h4⟩:=h x List.mem_cons_self
    rw [List.map_cons]
    unfold comp
    simp only [h1,h3,noX_ok,Z0]
    cases ht:t x with
    | true =>
      simp only [h4 ht,noX_ok,Z0,Zbs (Ke.kept (enc:=out) (f x))]
      rw [if_pos (by simp at hl; omega),h2,Zhs st t f xs (acc ++ [out (f x)]) (fun y hy=>h y (List.mem_cons_of_mem _ hy)) (by simp at hl ⊢; omega)]
      simp [ht]
    | false =>
      simp only
      rw [h2,Zhs st t f xs acc (fun y hy=>h y (List.mem_cons_of_mem _ hy)) (by simp at hl ⊢; omega)]
      simp [ht]
theorem Zkv [Ke out] (st:ρ → Sl) (t:ρ → Bool) (f:ρ → τ) {δ0:Sl} (h1:di δ0 = .ok (xs.map enc) δ) (hw:wipeD δ vs = δ) (h:∀ x ∈ xs,tg (enc x) δ = some (st x) ∧ wipeD (st x) vs = δ ∧ tst (st x) = .ok (t x) (st x) ∧ (t x = true → elt (st x) = .ok (out (f x)) (st x))) (hl:xs.length ≤ 100000):dComp keep vs di tg tst elt δ0 = .ok (Lst out .own ((xs.filter t).map f)) δ:=by
  unfold dComp
  rw [h1,Z0,hw,Zhs st t f xs [] h (by simpa using hl),Z0]
  cases keep <;> simp [Lst]
theorem Zg4 {i:Nat} [Ke out] (enc:ρ → D) (xs:List ρ) (t:ρ → Bool) (f:ρ → τ) (hd:sat (di s) fun a s'=>a = xs.map enc ∧ s' = s) (hw:s.set i none = s) (h:∀ x ∈ xs,tst (s.set i (some (enc x))) = .ok (t x) (s.set i (some (enc x))) ∧ (t x = true → elt (s.set i (some (enc x))) = .ok (out (f x)) (s.set i (some (enc x))))) (hl:xs.length ≤ 100000) (k:Q (Lst out .own ((xs.filter t).map f)) s):sat (dComp keep [i] di (tgN i) tst elt s) Q:=by
  obtain ⟨a,s',e,rfl,rfl⟩:=hd
  rw [Zkv (enc:=enc) (fun x=>s'.set i (some (enc x))) t f e (by simpa [wipeD] using hw) (fun x hx=>⟨rfl,by simp only [wipeD,List.set_set]; exact hw,(h x hx).1,(h x hx).2⟩) hl]
  exact sat_ok.mpr k
theorem sat_cm {i:Nat} [Ke out] (enc:ρ → D) (xs:List ρ) (f:ρ → τ) (hd:sat (di s) fun a s'=>a = xs.map enc ∧ s' = s) (hw:s.set i none = s) (h:∀ x ∈ xs,elt (s.set i (some (enc x))) = .ok (out (f x)) (s.set i (some (enc x)))) (hl:xs.length ≤ 100000) (k:Q (Lst out .own (xs.map f)) s):sat (dComp keep [i] di (tgN i) dtYes elt s) Q :=
  Zg4 enc xs (fun _=>true) f hd hw (fun x hx=>⟨rfl,fun _=>h x hx⟩) hl (by rw [List.filter_eq_self.mpr (fun _ _=>rfl)]; exact k)
theorem ZbY {b:DS} {P:Flow → Sl → Prop} (I:List ρ → Sl → Prop) (hs:∀ pre x post s,xs = pre ++ x :: post → I pre s → ∃ s1,tg (enc x) s = some s1 ∧ sat (b s1) fun f s2=>match f with | .nx=>I (pre ++ [x]) s2 | .ct=>I (pre ++ [x]) s2 | .bk=>P .nx s2 | .rt d=>P (.rt d) s2) (h0:I [] s) (k:∀ s,I xs s → P .nx s):sat (loop tg b (xs.map enc) s) P:=by
  have key:∀ (post pre:List ρ) (s:Sl),xs = pre ++ post → I pre s → sat (loop tg b (post.map enc) s) P:=by
    intro post
    induction post with
    | nil =>
      intro pre s e h
      rw [List.append_nil] at e
      subst e
      exact sat_ok.mpr (k s h)
    | cons x post ih =>
      intro pre s e h
      obtain ⟨s1,e1,f,s2,e2,h2⟩:=hs pre x post s e h
      rw [List.map_cons,Zd4 e1,e2,Z0]
      cases f with
      | nx=>rw [Zf2]; exact ih (pre ++ [x]) s2 (by simp [e]) h2
      | ct=>rw [ZhL]; exact ih (pre ++ [x]) s2 (by simp [e]) h2
      | bk=>rw [Zkh]; exact sat_ok.mpr h2
      | rt d=>rw [Zkg]; exact sat_ok.mpr h2
  exact key xs [] s rfl h0
theorem ZjZ {i:Nat} {a:DE} [Ke enc] (hi:(s[i]?).join = some (Lst enc w xs)) (ha:sat (a s) fun y s1=>∃ x ys,y = enc x ∧ (s1[i]?).join = some (Lst enc .own ys) ∧ ys.length < 100000 ∧ Q .non (s1.set i (some (Lst enc .own (ys ++ [x]))))):sat (dApp i a s) Q:=by
  obtain ⟨y,s',e,x,ys,rfl,h1,hl,k⟩:=ha
  unfold dApp
  unfold Lst at hi h1
  rw [hi]
  simp only [e,Z0,h1,List.length_map,hl,if_true,Zbs (Ke.kept (enc:=enc) x)]
  refine sat_ok.mpr ?_
  have:Lst enc .own (ys ++ [x]) = .n .lst .own (ys.map enc ++ [enc x]):=by simp [Lst]
  rw [← this]
  exact k
theorem Zdv {i:Nat} {a:DE} [Ke enc] (x:ρ) (hi:(s[i]?).join = some (Lst enc .own xs)) (ha:sat (a s) fun y s'=>y = enc x ∧ s' = s) (hl:xs.length < 100000) (k:Q .non (s.set i (some (Lst enc .own (xs ++ [x]))))):sat (dApp i a s) Q :=
  ZjZ (w:=.own) hi (Zg ha fun y s1 ⟨h1,h2⟩=>⟨x,xs,h1,by rw [h2]; exact hi,hl,by rw [h2]; exact k⟩)
@[simp] theorem Zkr:(Lst enc .own xs).free = true:=rfl
@[simp] theorem Zl3:(Lst enc .shr xs).free = true:=rfl
@[simp] theorem Zmx:(Tpl enc xs).free = true:=rfl
@[simp] theorem free_v {v:V}:(D.v v).free = true:=rfl
@[simp] theorem Zmv {k:Kd} {ds:List D}:(D.n k .shr ds).free = true:=rfl
@[simp] theorem Zmw {k:Kd} {ds:List D}:(D.n k .own ds).free = true:=rfl
theorem Zg3 {i:Nat} {e:DE} [Ke enc] (hi:(s[i]?).join = some (Lst enc .own xs)) (he:sat (e s) fun y s'=>y = Lst enc w ys ∧ s' = s) (hl:xs.length + ys.length ≤ 100000) (k:Q .non (s.set i (some (Lst enc .own (xs ++ ys))))):sat (dMut (plV i) "list" ZcA (daCons e daNil) s) Q:=by
  obtain ⟨y,s',e1,rfl,rfl⟩:=he
  have e2:daCons e daNil s' = .ok [Lst enc w ys] s':=by
    show (e s').bind _ = _
    rw [e1]; rfl
  have e3:ZcA (Lst enc .own xs) [Lst enc w ys] = some (Lst enc .own (xs ++ ys),.non):=by
    simp only [Lst,ZcA]
    rw [if_pos ⟨by simpa using hl,Zbm ys⟩]
    simp
  have e4:(tyF "list" (Lst enc .own xs)).isSome = true:=rfl
  unfold dMut dMutC
  simp only [plV,hi,getP,Zkr,ownP,Bool.and_self,if_true,e4,e2,Z0,mutEnd,e3]
  exact sat_ok.mpr k
def natE (k:Nat):D:=.v (.int (k:Int))
instance:Ke natE:=⟨fun _=>rfl⟩
theorem itR_I {i:Int} (h0:0 ≤ i) (h1:i ≤ 100000):itR (.v (.int i)) = some ((List.range i.toNat).map natE):=by
  simp only [itR]
  rw [if_pos (by omega)]
  rfl
theorem law_of {F:List D → Out D} {ns:List Int} (h:sat (F [.s ns]) fun y _=>y = .bl true):∃ s,F [.s ns] = .ok (.bl true) s:=by
  obtain ⟨y,s,e,rfl⟩:=h
  exact ⟨s,e⟩
end
end Fs
namespace Fs
open PySem PySem.Spec PyProof.Rows L2
end Fs
namespace Fs
open PySem PySem.Spec PyProof.Rows L2
end Fs
namespace Fs
open PySem PySem.Spec PyProof.Rows L2
end Fs
namespace Fs
open PySem PySem.Spec PyProof.Rows L2
end Fs
set_option maxHeartbeats 1000000
namespace Fs
open PySem PySem.Spec PyProof.Rows L2
end Fs
set_option maxHeartbeats 1000000
namespace Fs
open PySem PySem.Spec PyProof.Rows L2
end Fs
set_option maxHeartbeats 2000000
namespace Fs
open PySem PySem.Spec PyProof.Rows L2
open PySem.SeqAt (EqIn)
open PySem.AutoSeq1 (wpAny_loadPart')
open PySem.MeetsSeq PySem.MeetsSeq2 PySem.MeetsSeq3 PySem.SeqRoads2
end Fs
set_option maxHeartbeats 2000000
namespace Fs
open PySem PySem.Spec PyProof.Rows L2
end Fs
set_option maxHeartbeats 2000000
namespace Fs
open PySem PySem.Spec PyProof.Rows L2
end Fs
set_option maxHeartbeats 2000000
namespace Fs
open PySem PySem.Spec PyProof.Rows L2
end Fs
set_option maxHeartbeats 2000000
namespace Fs
open PySem PySem.Spec PyProof.Rows L2
end Fs
set_option maxHeartbeats 1000000
namespace Fs
open PySem PySem.Spec PyProof.Rows L2
end Fs
set_option maxHeartbeats 2000000
set_option maxHeartbeats 1000000
namespace Fs
open PySem PySem.Spec PyProof.Rows L2
section
variable {cl:Ec} {A L B:Addr → Prop} {H:Hp} {δ:Sl} {σ:L2.St} {p:Bool} {ts:List D} {ws:List V}
theorem Jt.fresh {p0:Addr} {o:HO} (j:Jt p cl A L B H ts ws δ σ) (hp:H p0 = none) :
    Nx A B H (fun a=>A a ∨ a = p0) (upd H p0 o) ∧ Jt p cl (fun a=>A a ∨ a = p0) L (fun a=>B a ∨ a = p0) (upd H p0 o) ts ws δ σ:=by
  have hA:¬ A p0:=fun q=>j.ad p0 q hp
  have st:∀ a u,H a = some u → ¬ A a → upd H p0 o a = some u ∧ ¬ (A a ∨ a = p0):=fun a u h n=>by
    have ne:a ≠ p0:=ne_of_none h hp
    exact ⟨by rw [upd_ne ne]; exact h,fun q=>q.elim n ne⟩
  have sf:∀ a,A a → upd H p0 o a = H a:=fun a h=>upd_ne (fun e=>hA (e ▸ h))
  refine ⟨⟨fun a h=>h.elim .inl fun e=>.inr (e ▸ hp),fun a u h n _=>(st a u h n).1,fun a h=>⟨sf a (j.ba a h),.inl (j.ba a h)⟩,fun a h=>?_⟩,?_⟩
  · by_cases e:a = p0
    · rw [e]; exact hp
    · rw [upd_ne e] at h; exact h
  · obtain ⟨f,g,h1,h2,h3,h4,h5⟩:=j.ex
    have fa:∀ a,a ∈ f → A a:=fun a ha=>(h1.inA a ha).1
    have ga:∀ a,a ∈ g → A a:=fun a ha=>(h2.inA a ha).1
    refine ⟨⟨f,g,h1.step (fun a u h n _=>st a u h n) (fun a ha=>⟨sf a (fa a ha),.inl (fa a ha)⟩) (by simp),h2.step (fun a u h n _=>st a u h n) (fun a ha=>⟨sf a (ga a ha),.inl (ga a ha)⟩) (fun a h=>⟨sf a (j.ba a (j.lb a h)),h⟩),h3,?_,?_⟩,fun a h=>.inl (j.lb a h),fun a h=>h.imp (j.ba a) id,fun a h=>?_,j.tb.grow (Ex.new hp) fun a h=>h.imp id fun e=>by rw [e]; exact hp⟩
    · rintro a ha (q | rfl)
      · exact h4 a ha q
      · exact hA (fa _ ha)
    · rintro hq a ha (q | rfl)
      · exact h5 hq a ha q
      · exact hA (ga _ ha)
    · rcases h with h | rfl
      · rw [sf a h]; exact j.ad a h
      · rw [upd_same]; simp
end
end Fs
set_option maxHeartbeats 1000000
namespace Fs
open PySem PySem.Spec PyProof.Rows L2
end Fs
set_option maxHeartbeats 1000000
namespace Fs
open PySem PySem.Spec PyProof.Rows L2
end Fs
set_option maxHeartbeats 4000000
namespace Rm
open PySem PySem.W PySem.Spec PyProof.Rows L2
def met1 (σ:List Str) (k:Str):List Str:=if k ∈ σ then σ else σ ++ [k]
def met (xs:List Str):List Str:=xs.foldl met1 []
theorem met_snoc (xs:List Str) (k:Str):met (xs ++ [k]) = met1 (met xs) k:=by unfold met; rw [List.foldl_append]; rfl
theorem mem_met1 {σ:List Str} {k j:Str}:j ∈ met1 σ k ↔ j ∈ σ ∨ j = k:=by
  unfold met1
  split
  · rename_i h
    exact ⟨.inl,fun q=>q.elim id fun e=>e ▸ h⟩
  · rw [List.mem_append,List.mem_singleton]
theorem met1_len (σ:List Str) (k:Str):(met1 σ k).length = if k ∈ σ then σ.length else σ.length + 1:=by
  unfold met1
  split <;> simp
theorem ZfB:∀ (r:List Str),(met r.reverse).length ≤ r.length
  | []=>Nat.le_refl _
  | k :: r=>by
    rw [List.reverse_cons,met_snoc,met1_len]
    have:=ZfB r
    simp only [List.length_cons]
    split <;> omega
theorem met_le (xs:List Str):(met xs).length ≤ xs.length:=by
  have h:=ZfB xs.reverse
  rwa [List.reverse_reverse,List.length_reverse] at h
def inT (σ:List Str):Key → Bool
  | .inl _=>false
  | .inr x=>decide (x ∈ σ)
theorem Zkq (σ:List Str) (z:Str) (j:Key):(inT σ j || decide (j = .inr z)) = inT (met1 σ z) j:=by
  cases j with
  | inl i=>simp [inT]
  | inr x =>
    unfold inT
    by_cases h:x = z
    · subst h; simp [mem_met1]
    · have h2:(Sum.inr x:Key) ≠ .inr z:=fun e=>h (by injection e)
      simp [mem_met1,h,h2]
theorem Zg1 {P:Program} {w:World} {h:Heap} {a:Addr} {S S':Key → Bool} {n n':Nat} (R:h.SetOf (mixKind P w) a S n) (e:∀ k,S k = S' k) (en:n = n'):h.SetOf (mixKind P w) a S' n':=by
  have:S = S':=funext e
  subst this; subst en; exact R
section
variable {P:Program} {w:World} {A:Around} {E:Value → Shared → Prop}
theorem ZeR {I:Addr} {fp wr:List Addr} {G:Array GenState → Array GenState → Prop} {n:Nat} {Pv:Nat → Value → Prop} {St:Nat → Shared → Prop} {R:Result → Shared → Prop}
    (W:WalksS P w A.in1 I fp wr G n Pv St) (S:Addr) (hSf:S ∉ fp) (ks:List Str) (hn:n = ks.length) (hb:ks.length + 1 < scanBound) (hval:∀ i v,Pv i v → ∃ k t,ks[i]? = some k ∧ v = .str k t) :
    ∀ (k i:Nat) (s:Shared),n - i = k → i ≤ n → St i s → s.heap.SetOf (mixKind P w) S (inT (met (ks.take i))) (met (ks.take i)).length →
      (∀ s',Moved (S :: wr) G s s' → s'.heap.SetOf (mixKind P w) S (inT (met ks)) (met ks).length → R (.ok (.ret .none)) s') →
      codeAny (model P w) A (.builtin "set.update.loop" ⟨[.ref S,.ref I],[]⟩) R s:=by
  have hSw:S ∉ wr:=fun h=>hSf (W.sub _ h)
  have hsub:∀ b ∈ wr,b ∈ S :: wr:=fun b hb=>List.mem_cons_of_mem _ hb
  intro k
  induction k with
  | zero =>
    intro i s hk' hi hst hS hR
    have hin:i = n:=by omega
    subst hin
    refine codeAny_builtin F.entry_set_update_loop ?_
    rw [Around.under_plainId F.plain_set_update_loop _]
    show wpAny _ A.in1 (pyNext (.ref I) >>= _) _ _ s
    refine wpAny_bind (W.done s _ _ hst fun s' hm=>?_)
    show wpAny _ A.in1 (ret Value.none) _ _ s'
    have e:ks.take i = ks:=List.take_of_length_le (by omega)
    rw [e] at hS
    exact wpAny_pure (hR s' (hm.mono hsub) (setOf_at hS fun o e=>hm.heap S o hSw e))
  | succ k ih =>
    intro i s hk' hi hst hS hR
    have hlt:i < n:=by omega
    refine codeAny_builtin F.entry_set_update_loop ?_
    rw [Around.under_plainId F.plain_set_update_loop _]
    show wpAny _ A.in1 (pyNext (.ref I) >>= _) _ _ s
    refine wpAny_bind (W.item i s _ _ hlt hst fun v s' hP hst' hm=>?_)
    obtain ⟨z,t,hz,rfl⟩:=hval i v hP
    have hS':=setOf_at hS fun o e=>hm.heap S o hSw e
    show wpAny _ A.in1 (holding [Value.str z t] (setAdd S (.str z t)) >>= _) _ _ s'
    refine wpAny_bind (wpAny_holding ?_)
    unfold setAdd
    refine wpAny_holding ?_
    refine wpAny_bind ((mixKind P w).pyHash (k:=(.inr z:Key)) (mixKind_str P w z t) ?_)
    have hroom:(met (ks.take i)).length + 1 < scanBound:=by
      have:=met_le (ks.take i)
      rw [List.length_take] at this
      omega
    refine wpAny_setAddHashed_of (knd:=mixKind P w) (s:={ s' with toks:=s'.toks + 1 }) (k:=(.inr z:Key)) (mixKind_str P w z t) rfl hS' hroom fun h' hsb hS2=>?_
    have e3:ks.take (i + 1) = ks.take i ++ [z]:=by rw [List.take_add_one,hz]; rfl
    have hS3:h'.SetOf (mixKind P w) S (inT (met (ks.take (i + 1)))) (met (ks.take (i + 1))).length:=Zg1 hS2 (fun j=>by
      rw [e3,met_snoc]; exact Zkq _ _ _) (by rw [e3,met_snoc,met1_len]; simp [inT])
    refine wpAny_pure ⟨plainId_quiet F.plain_set_update_loop _,ih (i + 1) _ (by omega) hlt (W.frame _ s' _ _ hst' (Nat.le_succ _) fun b hb o e=>?_) hS3 fun s'' hm'' hS''=>?_⟩
    · rw [hsb.2 b (fun h:b = S=>hSf (by rw [← h]; exact hb))]; exact e
    · refine hR s'' (Moved.trans W.gtrans ((hm.mono hsub).then_heap (Nat.le_succ _) fun b o hb e=>?_) hm'') hS''
      rw [hsb.2 b (fun h:b = S=>hb (by rw [h]; exact List.mem_cons_self))]; exact e
end
theorem strs_at:∀ {vs:List Value} {ks:List Str},StrsAre vs ks → ∀ (i:Nat) (v:Value),vs[i]? = some v → ∃ k t,ks[i]? = some k ∧ v = .str k t
  | _,_,.nil,i,v,h=>by simp at h
  | _,_,.cons n t hr,0,v,h=>by simp at h; exact ⟨_,t,rfl,h.symm⟩
  | _,_,.cons n t hr,i + 1,v,h=>by
    simp only [List.getElem?_cons_succ] at h ⊢
    exact strs_at hr i v h
section
variable {pr:Program} {wo:World} {Ar:Around} {Er:Value → Shared → Prop} {s:Shared}
theorem Zie {lo:Addr} {its:Array Value} {ns:List Str} {Q2:Value → Shared → Prop} (ha:Ar.handled = none) (hl:s.heap.IsList lo its) (hv:StrsAre its.toList ns) (hz:its.size = ns.length) (hb:ns.length + 1 < scanBound)
    (hQ:∀ h' tk,h'.SetOf (mixKind pr wo) s.heap.objs.size (inT (met ns)) (met ns).length → (∀ b o,s.heap.get? b = some o → h'.get? b = some o) → Q2 .none { s with heap:=h',toks:=tk }) :
    wpAny (model pr wo) Ar.in1.in1 (Builtin.«set.__init__» ⟨[.ref s.heap.objs.size,.ref lo],[]⟩)
      (fun fin s'=>match fin with
        | .done f=>wants Q2 Er (.ok f) s'
        | .again c'=>c'.quiet = true ∧ codeAny (model pr wo) Ar.in1 c' (wants Q2 Er) s')
      (fun e s'=>wants Q2 Er (.error e) s') { s with heap:=s.heap.push (nSet wo) }:=by
  have hS:(s.heap.push (nSet wo)).get? s.heap.objs.size = some (nSet wo):=Heap.get?_push_size _ rfl
  have hT:Shared.TypeIs { s with heap:=s.heap.push (nSet wo) } (.ref s.heap.objs.size) "set":=⟨_,hS,rfl⟩
  obtain ⟨ol,hol,hcl,nl,hdl⟩:=hl
  obtain ⟨oc,od,odt,osl⟩:=ol
  simp only at hcl hdl; subst hcl; subst hdl
  have hol2:(s.heap.push (nSet wo)).get? lo = some { cls:=.type "list",dict:=od,data:=.seq its nl,slots:=osl }:=Heap.get?_push_of_some _ hol
  have hs1:=F.sub_list_set; have hs2:=F.sub_list_frozenset
  have hne:(Value.type "list" == Value.type "dict") = false:=by decide
  have hl1:(s.heap.push (nSet wo)).IsList lo its:=⟨_,hol2,rfl,nl,rfl⟩
  have hlS:lo < s.heap.objs.size:=Heap.lt_size hol
  unfold Builtin.«set.__init__» noKeywords Builtin.Frozenset.updateFrom; generalize hPI:pyIter = PI
  wp_walk
  subst hPI
  refine wpAny_pyIter_list hl1 (wpAny_bind (wpAny_runValue ?_))
  have hh3:Ar.in1.in1.in1.handled = none:=by simp [ha]
  have hnI:lo ≠ (s.heap.push (nSet wo)).objs.size:=by rw [Heap.size_push]; exact Nat.ne_of_lt (Nat.lt_succ_of_lt hlS)
  have hSf:s.heap.objs.size ∉ [(s.heap.push (nSet wo)).objs.size,lo]:=by
    rw [Heap.size_push]; simp only [List.mem_cons,List.not_mem_nil,or_false,not_or]; exact ⟨Nat.ne_of_lt (Nat.lt_succ_self _),Nat.ne_of_gt hlS⟩
  have hval:∀ (i:Nat) (v:Value),its[i]? = some v → ∃ k t,ns[i]? = some k ∧ v = .str k t:=fun i v q=>strs_at hv i v (by rw [Array.getElem?_toList]; exact q)
  refine ZeR ((Walks.list hh3 _ lo hnI its).toS) s.heap.objs.size hSf ns hz hb hval (its.size - 0) 0 _ (by omega) (Nat.zero_le _) ⟨⟨_,Heap.get?_push_size _ rfl,rfl,rfl⟩,(hl1.push _)⟩ ?_ fun s' hm hS'=>?_
  · have new:(s.heap.push (nSet wo)).SetOf (mixKind pr wo) s.heap.objs.size (inT (met (ns.take 0))) (met (ns.take 0)).length :=
      ⟨_,#[],0,_,hS,⟨rfl,rfl,rfl⟩,rfl,(fun e he=>by simp at he),(fun k=>by cases k <;> simp [inT,met]),(by decide),(by rfl),rfl⟩
    exact setOf_at new fun o e=>Heap.get?_push_of_some _ e
  obtain ⟨h',g2,d2,tk',os'⟩:=s'
  have eg:g2 = s.gens:=hm.gens
  have ed:d2 = s.drawn:=hm.drawn
  have eo:os' = s.os:=hm.os
  subst eg; subst ed; subst eo
  refine wpAny_pure (wpAny_pure (hQ h' tk' hS' fun b o e=>hm.heap b o ?_ (Heap.get?_push_of_some _ (Heap.get?_push_of_some _ e))))
  have hb0:b < s.heap.objs.size:=Heap.lt_size e
  simp only [List.mem_cons,List.not_mem_nil,or_false,not_or]
  exact ⟨Nat.ne_of_lt hb0,by rw [Heap.size_push]; exact Nat.ne_of_lt (Nat.lt_succ_of_lt hb0)⟩
theorem ZiC {lo:Addr} {its:Array Value} (ns:List Str) {Q:Value → Shared → Prop} (ha:Ar.handled = none) (hl:s.heap.IsList lo its) (hv:StrsAre its.toList ns) (hz:its.size = ns.length) (hb:ns.length + 1 < scanBound)
    (h:∀ (h':Heap) (tk:Nat),h'.SetOf (mixKind pr wo) s.heap.objs.size (inT (met ns)) (met ns).length → (∀ b o,s.heap.get? b = some o → h'.get? b = some o) → Q (.ref s.heap.objs.size) { s with heap:=h',toks:=tk }) :
    wpAny (model pr wo) Ar (call (.type "set") [.ref lo]) Q Er s:=by
  obtain ⟨c,tl,hmro⟩:=F.called_set.mro
  have hmade:=F.called_set.made; have hsub:=F.called_set.sub
  refine wpAny_call (codeAny_of_tree ?_)
  show wpAny _ _ (callAny (.type "set") _) _ _ _
  refine wpAny_pure ⟨Code.quiet_builtin _ (by decide +kernel),codeAny_builtin F.entry_type_call ?_⟩
  rw [Around.under_plain (weight_type_call_type "set" [.ref lo] []) rfl]
  have h1:=F.called_set.notType; have h2:=F.called_set.canCreate; have hct:=F.typeCall_set_1 (.ref lo)
  repeat (any_goals (first | assumption | wp_step))
  refine codeAny_mono (code_set_led1 (.ref lo) (E:=Er) (Q₁:=fun obj s₁=>obj = .ref s.heap.objs.size ∧ s₁ = { s with heap:=s.heap.push (nSet wo) }) ⟨rfl,rfl⟩) fun r s₁ hr=>?_
  cases r with
  | error e=>exact hr
  | ok fl =>
    cases fl with
    | ret obj =>
      obtain ⟨rfl,rfl⟩:=hr
      have hT:Shared.TypeIs { s with heap:=s.heap.push (nSet wo) } (.ref s.heap.objs.size) "set":=⟨_,Heap.get?_push_size _ rfl,rfl⟩
      have hli:=F.called_set.init.lookup; have hbi:=F.called_set.init.bind (.ref s.heap.objs.size)
      repeat (any_goals (first | assumption | wp_step))
      refine codeAny_mono (codeAny_call_builtin (R:=wants (fun r s₂=>r = .none ∧ Q (.ref s.heap.objs.size) s₂) Er) F.called_set.init.plain F.entry_set_init (check_set_init_1 hT (Zie ha hl hv hz hb fun h' tk q1 q3=>⟨rfl,h h' tk q1 q3⟩))) fun r₂ s₂ hr₂=>?_
      cases r₂ with
      | error e=>exact hr₂
      | ok fl₂ =>
        cases fl₂ with
        | ret r =>
          obtain ⟨rfl,hr₂⟩:=hr₂
          repeat (any_goals (first | assumption | wp_step))
        | _=>exact hr₂.elim
    | _=>exact hr.elim
end
def rSetT (P:Program) (K:PySem.W.Frag) (wo:World):List V → Hp → VK → Prop:=fun xs H Q=>∃ (l:Addr) (ns:List Str),xs = [V.ref l] ∧ SqL K H l (ns.map V.str) ∧ ns.length ≤ 4000 ∧ ∀ p,H p = none → Q (.ref p) (upd H p (SetK P wo p (inT (met ns)) (met ns).length))
theorem ZlM {X:Cx} (hc:X.calm = true):CallR X (.type "set") (rSetT X.prog X.K X.w):=by
  intro pins s σ H vs us Q I r h
  obtain ⟨a,ns,rfl,hs,hn,q⟩:=h
  obtain ⟨its,rv,hl,_⟩:=I.list hs
  rw [Vals.ref1 r]
  have hz:its.toArray.size = ns.length:=by
    have q:=Vals.length rv
    rw [List.length_map] at q
    simpa using q.symm
  refine ZiC ns (I.ok.hd hc) hl.isList rv.strs hz (by unfold scanBound; omega) fun h' tk hS hk=>?_
  exact ⟨.ref _,_,I.laid (t':=tk) hk (Nat.le_refl _) (setK_new hS),rfl,q _ (I.hok.fresh (Nat.le_refl _))⟩
def rLenK (P:Program) (wo:World):List V → Hp → VK → Prop:=fun xs H Q=>∃ (p:Addr) (S:Key → Bool) (n:Nat),xs = [V.ref p] ∧ H p = some (SetK P wo p S n) ∧ Q (.int n) H
theorem ZlN {X:Cx}:CallR X (.builtin "len") (rLenK X.prog X.w):=by
  intro pins s σ H vs us Q I r h
  obtain ⟨p,S,n,rfl,hp,q⟩:=h
  rw [Vals.ref1 r]
  obtain ⟨o,es,ep,t,ho,hex,hd,hel,hmem,hb,hf,hn⟩:=setK_get I hp
  subst hn
  have h4:((es.size:Int) < 2 ^ 63):=by unfold scanBound at hb; omega
  exact call_len_set ho hex hd hf h4 ⟨.int es.size,H,(I.tok _).tok _,⟨_,rfl⟩,q⟩
def rLenSet (P:Program) (K:PySem.W.Frag) (wo:World):V → Hp → VK → Prop:=fun x H Q=>rSetT P K wo [x] H fun y H2=>rLenK P wo [y] H2 Q
theorem pe_lenSet {X:Cx} {e:Expr} {te:TE} {p1 p2 q1 q2:Pos} (hc:X.calm = true) (hg:Gl X "len") (hm:X.mg "len" = none) (hg2:Gl X "set") (hm2:X.mg "set" = none) (he:PE X e te)
    (hs:starEach [e] X.env = (false,eval e X.env) :: starEach [] X.env:=by rfl) (hs2:starEach [.Call (.Name "set" p2) [e] [] q2] X.env = (false,eval (.Call (.Name "set" p2) [e] [] q2) X.env) :: starEach [] X.env:=by rfl) :
    PE X (.Call (.Name "len" p1) [.Call (.Name "set" p2) [e] [] q2] [] q1) (tUn (rLenSet X.prog X.K X.w) te):=by
  have h1:=pe_callTy (X:=X) (x:="set") (p:=p2) (pos:=q2) (ZlM hc) hg2 hm2 (by decide +kernel) (pa_cons he pa_nil hs) (by decide) (by decide) hs
  exact pe_callB (X:=X) (x:="len") (p:=p1) (pos:=q1) ZlN hg hm (by decide +kernel) (pa_cons h1 pa_nil hs2) (by decide) (by decide) hs2
end Rm
set_option maxHeartbeats 1000000
namespace Fs
open PySem PySem.Spec PyProof.Rows L2
def Ze3 (x:D):Option D:=((seqL x).bind txts).bind fun ss=>if ss.length ≤ 4000 then some (.int ((Rm.met ss).length:Nat)) else none
section
variable {cl:Ec} {X:Cx} {a:Expr} {pp pos p2 q2:Pos}
theorem ZiP {P:Program} {w:World}:NOp cl (rL1 (Rm.rLenSet P cl.K w)) (f1 Ze3):=by
  intro p A L B H ts ws δ σ xs us z Q j hr e k
  unfold f1 at e
  split at e
  · obtain ⟨u,fp,rfl,h1⟩:=hr.one
    obtain ⟨ss,e0,e2⟩:=Option.bind_eq_some_iff.mp e
    obtain ⟨ds,e1,e3⟩:=Option.bind_eq_some_iff.mp e0
    split at e2
    · rename_i hl
      cases e2
      obtain ⟨a,vs,fp',rfl,h2,h3⟩:=h1.seqL e1
      have:=ZgW h3 e3
      subst this
      refine ⟨a,ss,rfl,h2,hl,fun p0 hp=>⟨p0,_,_,rfl,upd_same,?_⟩⟩
      have g:=j.grow (o:=SetK P w p0 (Rm.inT (Rm.met ss)) (Rm.met ss).length) hp
      exact k _ _ _ g.1 (g.2.leaf rfl)
    · cases e2
  · cases e
theorem ZjB (hK:X.K = cl.K) (hm:X.mg "len" = none) (hm2:X.mg "set" = none) (hc:X.calm = true:=by rfl) (hg:Gl X "len":=by rfl) (hg2:Gl X "set":=by rfl) (hs:starEach [a] X.env = (false,eval a X.env) :: starEach [] X.env:=by rfl) (hs2:starEach [.Call (.Name "set" p2) [a] [] q2] X.env = (false,eval (.Call (.Name "set" p2) [a] [] q2) X.env) :: starEach [] X.env:=by rfl) :
    BN X (.Call (.Name "len" pp) [.Call (.Name "set" p2) [a] [] q2] [] pos) [a] (rL1 (Rm.rLenSet X.prog cl.K X.w)):=fun tes h=>by
  cases h with
  | cons q1 h=>cases h with
    | nil=>rw [← hK]; exact Rm.pe_lenSet hc hg hm hg2 hm2 q1 hs hs2
end
def KTup (K:PySem.W.Frag) (a:Addr) (xs:List V):Prop:=∃ (o:Obj) (its:Array Value) (n:Nat),K.lookup a = some o ∧ o.cls = .type "tuple" ∧ o.data = .seq its n ∧ its.size ≤ sizeLine ∧ Vals xs its.toList
theorem KTup.sq {K:PySem.W.Frag} {H:Hp} {a:Addr} {xs:List V} (h:KTup K a xs):SqT K H a xs:=.inr h
def Cst (K:PySem.W.Frag) (a:Addr) (cs:List (List V)):Prop:=∃ xs,KTup K a xs ∧ Paired (fun x row=>∃ b,x = V.ref b ∧ KTup K b row) xs cs
def CstG (cl:Ec) (mg:Str → Option Value) (x:Str) (cs:List (List V)):Prop:=∃ a,mg x = some (.ref a) ∧ Cst cl.K a cs
def cstD (row:List V):D:=.n .tup .shr (row.map D.v)
def pairsC (cs:List (List V)) (ys:List D):List D:=(cs.zip ys).map fun q=>.n .tup .shr [cstD q.1,q.2]
def itZC (cs:List (List V)):D → Option (List D)
  | .n .tup _ ys=>if ys.all D.kept = true ∧ (cs.all fun r=>r.all sc) = true then some (pairsC cs ys) else none
  | _=>none
section
variable {cl:Ec} {xf:Nat → List Str} {W:WX} {ws:Nat → Bool} {A A' L L' B:Addr → Prop} {H H':Hp} {δ δ':Sl} {σ σ':L2.St} {p q b:Bool} {te ta tb tc:TE} {tA:TA} {tt tu:TT} {t u:TS} {ts:List D} {vs:List V}
theorem Zgk:∀ {row:List V},row.all sc = true → Rps cl A L H b (row.map D.v) row []
  | [],_=>by simp [Rps]
  | x :: r,h=>by
    rw [List.all_cons,Bool.and_eq_true] at h
    simp only [List.map_cons,Rps]
    exact ⟨x,r,[],[],rfl,rfl,Rp.leaf h.1,Zgk h.2⟩
theorem tgT_eq {ts:List (D → Sl → Option Sl)} {ds:List D} {δ:Sl}:tgT ts (.n .tup .shr ds) δ = if ds.all D.kept = true ∧ ds.length = ts.length then tgs ts ds δ else none:=rfl
theorem Zkz {gs:TGs} {g2:TG} {ts:List (D → Sl → Option Sl)} {t2:D → Sl → Option Sl} {n:Nat} {T a:Addr} {row:List V} {dy:D} {y:V} {Q:L2.St → Hp → Prop} (hn:n = ts.length)
    (hgs:SGs cl ws gs ts) (hg2:SG cl ws g2 t2) (j:Jt p cl A L B H [] [] δ σ) (hT:H T = none) (hk:KTup cl.K a row) (hs:row.all sc = true) (hy:Rp cl A L H false dy y []) (hyk:dy.kept = true)
    (e:tgT [tgT ts,t2] (.n .tup .shr [cstD row,dy]) δ = some δ') (k:∀ σ',Kp ws σ σ' → Nx A B H A (upd H T (.tup [.ref a,y])) → Jt p cl A L B (upd H T (.tup [.ref a,y])) [] [] δ' σ' → Q σ' (upd H T (.tup [.ref a,y]))) :
    gTup cl.K 2 (gCons (gTup cl.K n gs) (gCons g2 gNil)) (.ref T) σ (upd H T (.tup [.ref a,y])) Q:=by
  obtain ⟨n1,j1⟩:=j.grow (o:=.tup [.ref a,y]) hT
  have hy2:=hy.step (A':=A) (L':=L) n1.both (by simp) (by simp)
  rw [tgT_eq] at e
  split at e
  · simp only [tgs] at e
    obtain ⟨δ1,e1,e2⟩:=Option.bind_eq_some_iff.mp e
    obtain ⟨δ2,e2,e3⟩:=Option.bind_eq_some_iff.mp e2
    cases e3
    unfold cstD at e1
    rw [tgT_eq] at e1
    split at e1
    · rename_i hl
      refine ⟨T,_,rfl,SqT.of upd_same,rfl,.ref a,[y],rfl,a,row,rfl,hk.sq,by rw [hn,← hl.2,List.length_map],?_⟩
      refine hgs p A L B _ δ δ1 σ (row.map D.v) row _ j1 (Zgk hs) e1 fun σ1 kp1 j2=>⟨y,[],rfl,?_⟩
      refine hg2 p A L B _ δ1 δ' σ1 dy y _ (j2.kept hyk hy2) e2 fun σ2 kp2 j3=>⟨rfl,k σ2 (kp1.trans kp2) n1 j3⟩
    · cases e1
  · cases e
theorem ZhJ {α β:Type} {R:α → β → Prop}:∀ {xs:List α} {ys:List β} {i:Nat} {x:α},Paired R xs ys → xs[i]? = some x → ∃ y,ys[i]? = some y ∧ R x y
  | _,_,_,_,.nil,h=>by simp at h
  | _,_,0,_,.cons r rr,h=>by simp at h; subst h; exact ⟨_,rfl,r⟩
  | _,_,i + 1,_,.cons r rr,h=>by
    simp only [List.getElem?_cons_succ] at h ⊢
    exact ZhJ rr h
def diC (cs:List (List V)) (a:DE):DA:=diD (itZC cs) a
theorem ZjV {a:Addr} {cs:List (List V)} {gs:TGs} {g2:TG} {tl:List (D → Sl → Option Sl)} {t2:D → Sl → Option Sl} {n:Nat} {de:DE} {body:DS} (hcs:Cst cl.K a cs) (hn:n = tl.length) (he:SE cl xf W false te de)
    (hgs:SGs cl ws gs tl) (hg2:SG cl ws g2 t2) (hb:SS cl xf W ws t body) :
    SS cl xf W ws (tFor (RZ.iZipA cl.K (tCons (tC (.ref a)) (tCons te tNil))) (gTup cl.K 2 (gCons (gTup cl.K n gs) (gCons g2 gNil))) t) (dsFor (diC cs de) (tgT [tgT tl,t2]) body):=fun A L B H δ σ E j k=>by
  unfold dsFor diC diD at k
  refine he.run A L B H δ σ _ j ?_
  cases e:de δ with
  | bad=>rw [e] at k; exact k
  | exc c xs s=>rw [e] at k; exact fun d vs A' H' n x j=>k d vs A' H' σ n (Kp.refl σ) x j
  | ok d δ1 =>
    rw [e] at k
    simp only [Out.bind] at k
    intro us0 A1 H1 n1 j1 v ev
    subst ev
    cases e2:itZC cs d with
    | none=>rw [e2] at k; exact k.elim
    | some its =>
      rw [e2] at k
      simp only [Out.ofO,Out.bind] at k
      obtain ⟨B1,fp,hb1,j',h1,hfp⟩:=Zfc j1
      unfold itZC at e2
      split at e2
      · rename_i w ys
        split at e2
        · rename_i hk
          cases e2
          obtain ⟨a0,o,us,fq,rfl,hs,hst,hr⟩:=h1.stands (B:=B1) j'.lb fun _=>hfp
          cases hs
          obtain ⟨xs,hx,hp⟩:=hcs
          have lx:xs.length = cs.length:=Paired.length hp
          have lu:=hr.length
          have hq:∀ A2 H2,Nx A1 B1 H1 A2 H2 → SqT cl.K H2 a0 us:=fun A2 H2 n=>SqT.of (hst A2 H2 n)
          refine ⟨a,a0,xs,us,rfl,.inr ⟨hx.sq,hq A1 H1 (Nx.refl j'.ba),?_⟩⟩
          have k0:PostS cl xf W ws (loop (tgT [tgT tl,t2]) body (pairsC cs ys) δ1) A1 L B1 H1 σ E:=(PostS.step k n1 (Kp.refl σ)).under hb1 j.lb
          generalize hits:pairsC cs ys = its at k0
          have lz:its.length = min cs.length ys.length:=by rw [← hits]; simp [pairsC]
          refine ⟨fun i m σi Hi=>∃ Ai δi,m = its.length - i ∧ i ≤ its.length ∧ Nx A1 B1 H1 Ai Hi ∧ Jt false cl Ai L B1 Hi [] [] δi σi ∧ PostS cl xf W ws (loop (tgT [tgT tl,t2]) body (its.drop i) δi) Ai L B1 Hi σi E,⟨its.length,A1,δ1,by simp,Nat.zero_le _,Nx.refl j'.ba,j',by rw [List.drop_zero]; exact k0⟩,?_⟩
          rintro i m σi Hi ⟨Ai,δi,rfl,hi',ni,ji,ki⟩
          by_cases hlt:i < its.length
          · refine .inr ⟨⟨xs,us,xs[i]'(by omega),us[i]'(by omega),hx.sq,hq Ai Hi ni,List.getElem?_eq_getElem (by omega),List.getElem?_eq_getElem (by omega)⟩,fun σ2 H2=>∃ A2 δ2,Nx A1 B1 H1 A2 H2 ∧ Jt false cl A2 L B1 H2 [] [] δ2 σ2 ∧ PostS cl xf W ws (loop (tgT [tgT tl,t2]) body (its.drop (i + 1)) δ2) A2 L B1 H2 σ2 E,fun σ2 H2 ⟨A2,δ2,h1,h2,h3⟩=>⟨its.length - (i + 1),by omega,A2,δ2,rfl,hlt,h1,h2,h3⟩,fun x H2 hy=>?_⟩
            obtain ⟨T,vx,vy,rfl,hT,rfl,hvx,hvy⟩:=hy
            have gx:=hvx xs hx.sq
            have gy:=hvy us (hq Ai Hi ni)
            obtain ⟨row,gr,b,rfl,hkb⟩:=ZhJ hp gx
            have ey:ys[i]? = some (ys[i]'(by omega)):=List.getElem?_eq_getElem (by omega)
            generalize ys[i]'(by omega) = dy at ey
            obtain ⟨v2,f2,g3,g4,_⟩:=(hr.keptS hk.1).get ey
            rw [gy] at g3
            cases g3
            have hkd:dy.kept = true:=List.all_eq_true.mp hk.1 dy (List.mem_of_getElem? ey)
            obtain ⟨g5,rfl⟩:=g4.strong hkd
            have g6:=g5.step (A':=Ai) (L':=L) (H':=Hi) ni.both (by simp) (by simp)
            have hrow:row.all sc = true:=List.all_eq_true.mp hk.2 row (List.mem_of_getElem? gr)
            have ei:its[i] = .n .tup .shr [cstD row,dy]:=by
              have:its[i]? = some (.n .tup .shr [cstD row,dy]):=by
                rw [← hits]
                unfold pairsC
                rw [List.getElem?_map,List.getElem?_zip_eq_some.mpr (⟨gr,ey⟩:cs[i]? = some (row,dy).1 ∧ ys[i]? = some (row,dy).2)]
                rfl
              rw [List.getElem?_eq_getElem hlt] at this
              exact Option.some.inj this
            have ed:its.drop i = its[i] :: its.drop (i + 1):=List.drop_eq_getElem_cons hlt
            rw [ed,ei] at ki
            unfold loop at ki
            split at ki
            · exact ki.elim
            · rename_i δ2 e2
              refine Zkz hn hgs hg2 ji hT hkb hrow g6 hkd e2 fun σ2 kp2 n2 j3=>?_
              refine hb Ai L B1 _ δ2 σ2 _ j3 ?_
              have ki2:=PostS.step ki n2 kp2
              cases e3:body δ2 with
              | bad=>rw [e3] at ki2; exact ki2
              | exc c xs s=>rw [e3] at ki2; exact ki2
              | ok f s =>
                rw [e3] at ki2
                simp only [Out.bind] at ki2
                cases f with
                | nx=>exact fun A3 H3 σ3 n3 kp3 j4=>⟨A3,s,(ni.trans n2).trans n3,j4,PostS.step ki2 n3 kp3⟩
                | ct=>exact fun A3 H3 σ3 n3 kp3 j4=>⟨A3,s,(ni.trans n2).trans n3,j4,PostS.step ki2 n3 kp3⟩
                | bk=>exact ki2
                | rt d=>exact ki2
          · have ed:its.drop i = []:=List.drop_eq_nil_of_le (by omega)
            rw [ed] at ki
            exact .inl ⟨⟨xs,us,hx.sq,hq Ai Hi ni,by omega⟩,ki Ai Hi σi (Nx.refl ji.ba) (Kp.refl σi) ji⟩
        · cases e2
      · cases e2
variable {X:Cx} {e:Expr} {es:List Expr} {t2e:Expr} {da:DE} {pos pp tpos tpos2 npos:Pos}
theorem ZkT {x:Str} {cs:List (List V)} {tl:List (D → Sl → Option Sl)} {t2:D → Sl → Option Sl} {k kk:Nat} {body:List Stmt} {d:DS} (hK:X.K = cl.K) (hcs:CstG cl X.mg x cs) (hm:X.mg "zip" = none) (he:Rd cl xf X W false e da)
    (hgs:Rgs cl X ws es tl) (hg2:Rg cl X ws t2e t2) (hb:Rb cl xf X W ws body d) (hp:PassesOwn (model X.prog X.w) X.A X.env X.xe) (hc:X.calm = true:=by rfl) (hgx:Gl X x:=by rfl) (hd:(x == ("__debug__":Str)) = false:=by decide) (hg:Gl X "zip":=by rfl)
    (hs:starEach [.Name x npos,e] X.env = (false,eval (.Name x npos) X.env) :: starEach [e] X.env:=by rfl) (hs1:starEach [e] X.env = (false,eval e X.env) :: starEach [] X.env:=by rfl) (hpl:(backTo pos (starEach [e] X.env)).any (·.1) = false:=by rfl)
    (hn:(assignEach es X.env).length = tl.length:=by rfl) (hst:(assignEach es X.env).findIdx? (·.1) = none:=by rfl)
    (hn2:(assignEach [.Tuple es k tpos,t2e] X.env).length = 2:=by rfl) (hst2:(assignEach [.Tuple es k tpos,t2e] X.env).findIdx? (·.1) = none:=by rfl)
    (ha1:(assignEach [.Tuple es k tpos,t2e] X.env).map (·.2) = assign (.Tuple es k tpos) X.env :: (assignEach [t2e] X.env).map (·.2):=by rfl) (ha2:(assignEach [t2e] X.env).map (·.2) = assign t2e X.env :: (assignEach [] X.env).map (·.2):=by rfl)
    (hfs:∀ y,foldedSetIterable (.Call (.Name "zip" pp) [.Name x npos,e] [] pos) X.env y = pure y:=by intro _; rfl) {pos':Pos} :
    Rs cl xf X W ws (.For (.Tuple [.Tuple es k tpos,t2e] kk tpos2) (.Call (.Name "zip" pp) [.Name x npos,e] [] pos) body [] pos') (dsFor (diC cs da) (tgT [tgT tl,t2]) d):=by
  obtain ⟨a,h1,h2⟩:=hcs
  obtain ⟨te,q1,q2⟩:=he
  obtain ⟨gs,q3,q4⟩:=hgs
  obtain ⟨g2,q5,q6⟩:=hg2
  obtain ⟨tb,q7,q8⟩:=hb
  have w1:PE X (.Name x npos) (tC (.ref a)):=pe_glob hgx h1 rfl hd
  have w2:=RZ.pi_zipA (X:=X) (tpos:=tpos2) (elts:=[.Tuple es k tpos,t2e]) (kk:=kk) (p:=pp) (pos:=pos) hg hm (pa_cons w1 (pa_cons q1 pa_nil hs1) hs) hs hpl
  have w3:=pg_tup (pos:=tpos2) (k:=kk) hc (pgs_cons (pg_tup (pos:=tpos) (k:=k) hc q3 hn hst) (pgs_cons q5 pgs_nil ha2) ha1) hn2 hst2
  refine ⟨_,ps_for hp hc w2 w3 q7 hfs,?_⟩
  rw [hK]
  exact ZjV h2 rfl q2 q4 q6 q8
end
theorem relB_ok:∀ {x:V} {u:Value},relB x u = true → RelV x u:=by
  intro x u h
  unfold relB at h
  split at h
  · rename_i i j t
    exact ⟨t,by rw [of_decide_eq_true h]⟩
  · rename_i i j t
    exact ⟨t,by rw [of_decide_eq_true h]⟩
  · cases h
theorem valsB_ok:∀ {xs:List V} {us:List Value},valsB xs us = true → Vals xs us
  | [],[],_=>.nil
  | x :: xs,u :: us,h=>by
    unfold valsB at h
    rw [Bool.and_eq_true] at h
    exact .cons (relB_ok h.1) (valsB_ok h.2)
  | [],_ :: _,h=>by cases h
  | _ :: _,[],h=>by cases h
theorem ZkY {K:PySem.W.Frag} {b:Addr} {row:List V} (h:rowB K b row = true):KTup K b row:=by
  unfold rowB at h
  split at h
  · rename_i o e
    rw [Bool.and_eq_true] at h
    obtain ⟨h1,h2⟩:=h
    split at h2
    · rename_i its n e2
      rw [Bool.and_eq_true] at h2
      exact ⟨o,its,n,e,of_decide_eq_true h1,e2,of_decide_eq_true h2.1,valsB_ok h2.2⟩
    · cases h2
  · cases h
def refV:Value → V | .ref b=>.ref b | _=>.non
theorem ZhF {K:PySem.W.Frag}:∀ {us:List Value} {cs:List (List V)},rowsB K us cs = true → Vals (us.map refV) us ∧ Paired (fun x row=>∃ b,x = V.ref b ∧ KTup K b row) (us.map refV) cs
  | [],[],_=>⟨.nil,.nil⟩
  | .ref b :: us,r :: cs,h=>by
    unfold rowsB at h
    rw [Bool.and_eq_true] at h
    have q:=ZhF h.2
    exact ⟨.cons rfl q.1,.cons ⟨b,rfl,ZkY h.1⟩ q.2⟩
  | [],_ :: _,h=>by cases h
  | .ref _ :: _,[],h=>by cases h
  | .none :: _,_,h=>by simp [rowsB] at h
  | .bool _ :: _,_,h=>by simp [rowsB] at h
  | .int _ _ :: _,_,h=>by simp [rowsB] at h
  | .str _ _ :: _,_,h=>by simp [rowsB] at h
  | .bytes _ _ :: _,_,h=>by simp [rowsB] at h
  | .float _ _ :: _,_,h=>by simp [rowsB] at h
  | .type _ :: _,_,h=>by simp [rowsB] at h
  | .builtin _ :: _,_,h=>by simp [rowsB] at h
theorem ZlL {K:PySem.W.Frag} {a:Addr} {cs:List (List V)} (h:cstB K a cs = true):Cst K a cs:=by
  unfold cstB at h
  split at h
  · rename_i o e
    rw [Bool.and_eq_true] at h
    obtain ⟨h1,h2⟩:=h
    split at h2
    · rename_i its n e2
      rw [Bool.and_eq_true] at h2
      have q:=ZhF h2.2
      exact ⟨_,⟨o,its,n,e,of_decide_eq_true h1,e2,of_decide_eq_true h2.1,q.1⟩,q.2⟩
    · cases h2
  · cases h
end Fs
namespace Fs
open PySem PySem.Spec PyProof.Rows L2
section
variable {cl:Ec} {X:Cx} {pos pp npos:Pos}
theorem k_lenC {x:Str} {cs:List (List V)} {n:Int} (hK:X.K = cl.K) (hcs:CstG cl X.mg x cs) (hm:X.mg "len" = none) (hn:n = (cs.length:Nat):=by rfl) (hgx:Gl X x:=by rfl) (hd:(x == ("__debug__":Str)) = false:=by decide) (hg:Gl X "len":=by rfl)
    (h1:starEach [.Name x npos] X.env = (false,eval (.Name x npos) X.env) :: starEach [] X.env:=by rfl) (h2:(backTo pos (starEach [] X.env)).any (·.1) = false:=by rfl) :
    Rk cl X (.Call (.Name "len" pp) [.Name x npos] [] pos) (pC (.int n)):=by
  obtain ⟨a,q1,xs,q2,q3⟩:=hcs
  have hl:xs.length = cs.length:=Paired.length q3
  refine ⟨_,o_len (cl:=cl) hK hm hg h1 h2 _ (pe_glob (v:=V.ref a) hgx q1 rfl hd),fun A L H δ σ g d Q j e k=>?_⟩
  cases e
  exact .inl ⟨_,cs.length,rfl,.inr ⟨xs,q2.sq,hl.symm⟩,by rw [← hn]; exact k _ [] (Rp.leaf rfl) (by simp)⟩
end
end Fs
namespace Fs
open PySem PySem.Spec PyProof.Rows L2
def dOrN (a b:DE):DE:=fun δ=>(a δ).bind fun x δ1=>match x with
  | .v .non=>b δ1
  | .v (.str s)=>if s.length ≤ 1000 ∧ s.length ≠ 0 then .ok (.v (.str s)) δ1 else .bad
  | _=>.bad
section
variable {cl:Ec} {xf:Nat → List Str} {W:WX} {p:Bool} {ta tb:TE} {X:Cx} {e1 e2:Expr} {da db:DE} {pos:Pos}
theorem se_orN {a b:DE} (ha:SE cl xf W p ta a) (hb:SE cl xf W p tb b):SE cl xf W p (tOrT cl.K ta tb) (dOrN a b):=by
  refine ⟨fun hp δ=>Out.same_bind (ha.pure hp δ) fun x=>?_,fun A L B H δ σ Q j k=>?_⟩
  · split
    · exact hb.pure hp δ
    · split
      · rfl
      · trivial
    · trivial
  · refine ha.run A L B H δ σ _ j (Post.bind (γ:=D) k fun x δ1 vs A1 H1 e1 n1 j1 k1 v ev=>?_)
    subst ev
    obtain ⟨u',f1,e0,h1⟩:=j1.one
    cases e0
    split at k1
    · obtain ⟨rfl,_,_⟩:=h1.leafv
      exact ⟨false,rfl,hb.run A1 L B H1 δ1 σ Q j1.drop (Post.step k1 n1)⟩
    · rename_i s
      obtain ⟨rfl,_,_⟩:=h1.leafv
      split at k1
      · rename_i hl
        refine ⟨true,⟨by rw [sizeLine_eq]; omega,?_⟩,k1 _ A1 H1 n1 j1 _ rfl⟩
        have:((s.length:Int) != 0) = true:=by simpa using hl.2
        exact this.symm
      · exact k1.elim
    · exact k1.elim
theorem d_orN (hK:X.K = cl.K) (ha:Rd cl xf X W p e1 da) (hb:Rd cl xf X W p e2 db):Rd cl xf X W p (.BoolOp .Or [e1,e2] pos) (dOrN da db):=by
  obtain ⟨ta,h1,h2⟩:=ha
  obtain ⟨tb,h3,h4⟩:=hb
  refine ⟨tOrT cl.K ta tb,?_,se_orN h2 h4⟩
  rw [← hK]
  exact pe_orT h1 (pe_one h3)
end
end Fs
set_option maxHeartbeats 0
namespace Lw
open PySem PySem.Spec PyProof.Rows L2 Fs
def fn:List He.DefD:=fn_0 ++ (fn_1 ++ (fn_2 ++ (fn_3)))
def chk:List Lk:=chk_0 ++ (chk_1 ++ (chk_2 ++ (chk_3)))
abbrev hk:PySem.W.Hook:=hookZ 4 chk fn
def ob (s:PySem.W.SharedT):He.AlD:=obsZG 4 chk fn (HandSHeadRun.getT s)
theorem ob_eq (s:PySem.W.SharedT):ob s = hk.obs s.abs:=Zj5 (HandSHeadRun.getT_eq s)
theorem run (w:World):HandSHeadRun.RunEq R (PySem.W.view R.prog [45]) hk ob 6000 loose w:=Zj0 (run_a w) (run_b w) (ZfZ (run_0 w) (ZfZ (run_1 w) (ZfZ (run_2 w) (run_3 w))))
end Lw
namespace Lw
open PySem PySem.Spec PyProof.Rows L2 Fs
def ZdL:DS:=(dsRet (dF mkLst (daCons (dN (f2 maxD) [.k (pC (.int 0)),.v (dN (f2 subD) [.k (pVar 0),.v (dN (f2 powD) [.k (pC (.int 10)),.k (pC (.int 18))])])]) (daCons (dN (f2 modD) [.k (pVar 0),.k (pC (.int 2147483647))]) (daCons (dP (pC (.int 0))) daNil)))))
def Zb4:List D → Out D:=runF 1 [false] ZdL
def Zcq:DS:=(dsSeq (dsIf (dtV (dN (f2 gtD) [.k (pOp ixD (pVar 0) (pC (.int 0))),.k (pC (.int 0))])) (dsSeq (dsAsg (dN (f2 modD) [.k (pOp ixD (pVar 0) (pC (.int 0))),.k (pVar 1)]) (tgN 2)) (dsSeq (ZcB (plV 0) (dP (pC (.int 0))) true (dN (f2 divD) [.k (pOp ixD (pVar 0) (pC (.int 0))),.k (pVar 1)])) (dsRet (dMv 2)))) dsNext) (dsSeq (ZcB (plV 0) (dP (pC (.int 2))) true (dN (f2 addA) [.k (pOp ixD (pVar 0) (pC (.int 2))),.k (pC (.int 1))])) (dsSeq (dsAsg (dN (f2 modD) [.v (dN (f2 addA) [.v (dN (f2 addA) [.v (dN (f2 mulA) [.k (pOp ixD (pVar 0) (pC (.int 1))),.k (pC (.int 48271))]),.v (dN (f2 mulA) [.k (pC (.int 7919)),.k (pOp ixD (pVar 0) (pC (.int 2)))])]),.k (pC (.int 11))]),.k (pC (.int 2147483629))]) (tgN 3)) (dsSeq (dsAsg (dN (f2 modD) [.v (dN (f2 mulA) [.v (dN (f2 modD) [.v (dN (f2 mulA) [.k (pVar 3),.k (pVar 3)]),.k (pC (.int 2147483587))]),.k (pC (.int 69621))]),.k (pC (.int 2147483647))]) (tgN 3)) (dsRet (dN (f2 modD) [.v (dN (f2 divD) [.v (dN (f2 modD) [.v (dN (f2 mulA) [.k (pVar 3),.k (pVar 3)]),.k (pC (.int 2147483629))]),.k (pC (.int 8))]),.k (pVar 1)]))))))
def Za:List D → Out D:=runF 4 [true,false] Zcq
def ZX:DS:=(dsRet (dAnd (dN (f1 (isiD "int")) [.k (pVar 0)]) (d1S notD (dN (f1 (isiD "bool")) [.k (pVar 0)]))))
def Z8:List D → Out D:=runF 1 [false] ZX
def Z4:DS:=(dsRet (dAnd (dCall Z8 (daLend (pVar 0) daNil)) (dCh leD leD (dP (pVar 1)) (dP (pVar 0)) (dP (pVar 2)))))
def Zl:List D → Out D:=runF 3 [false,false,false] Z4
def ZbB:DS:=(dsSeq (dsIf (dtNot (dtV (dCall Zl (daLend (pOp ixD (pVar 0) (pC (.int 1))) (daLend (pC (.int 0)) (daCons (dN (f2 addA) [.k (pC (.int 199)),.k (pC (.int 1))]) daNil)))))) (dsRet (dP (pC (.str "first")))) dsNext) (dsSeq (dsIf (dtNot (dtV (dCall Zl (daLend (pOp ixD (pVar 0) (pC (.int 2))) (daCons (dN (f2 maxD) [.k (pC (.int 0)),.v (dN (f2 subD) [.k (pOp ixD (pVar 0) (pC (.int 1))),.k (pC (.int 1))])]) (daLend (pC (.int 199)) daNil)))))) (dsRet (dP (pC (.str "last")))) dsNext) (dsSeq (dsIf (dtNot (dtV (dCall Zl (daLend (pOp ixD (pVar 0) (pC (.int 3))) (daLend (pC (.int 1)) (daLend (pC (.int 12)) daNil)))))) (dsRet (dP (pC (.str "length")))) dsNext) (dsSeq (dsIf (dtAnd (dtV (dN (f2 eqD) [.v (dN (f1 lenD) [.k (pVar 0)]),.k (pC (.int 5))])) (dtNot (dtV (dCall Zl (daLend (pOp ixD (pVar 0) (pC (.int 4))) (daLend (pC (.int 0)) (daLend (pOp ixD (pVar 0) (pC (.int 3))) daNil))))))) (dsRet (dP (pC (.str "left")))) dsNext) (dsRet (dP (pC .non)))))))
def ZS:List D → Out D:=runF 1 [false] ZbB
def ZG:DS:=(dsSeq (dsIf (dtOr (dtNot (dtV (dN (f1 (isiD "str")) [.k (pVar 0)]))) (dtOr (dtNot (dtV (dCh leD leD (dP (pC (.int 1))) (dN (f1 lenD) [.k (pVar 0)]) (dP (pC (.int 8)))))) (dtV (dN (f2 notinD) [.k (pOp ixD (pVar 0) (pC (.int 0))),.k (pC (.str "abcdefghijklmnopqrstuvwxyz"))])))) (dsRet (dP (pC (.bl false)))) dsNext) (dsRet (dN (f1 allD) [.v (dComp true [1] (diP (itA true) (pVar 0)) (tgN 1) dtYes (dN (f2 inD) [.k (pVar 1),.v (dN (f2 addA) [.k (pC (.str "abcdefghijklmnopqrstuvwxyz")),.k (pC (.str "0123456789"))])]))])))
def Zz:List D → Out D:=runF 2 [false] ZG
def ZbR:DS:=(dsSeq (dsIf (dtOr (dtNot (dtV (dN (f1 (isiD "tuple")) [.k (pVar 1)]))) (dtNot (dtV (dCh leD leD (dP (pC (.int 4))) (dN (f1 lenD) [.k (pVar 1)]) (dP (pC (.int 5))))))) (dsRet (dP (pC (.str "form")))) dsNext) (dsSeq (dsIf (dtNot (dtV (dCall Zz (daLend (pOp ixD (pVar 1) (pC (.int 0))) daNil)))) (dsRet (dP (pC (.str "name")))) dsNext) (dsSeq (dsIf (dtV (dN (f2 inD) [.k (pOp ixD (pVar 1) (pC (.int 0))),.k (pVar 0)])) (dsRet (dP (pC (.str "double")))) dsNext) (dsRet (dCall ZS (daLend (pVar 1) daNil))))))
def ZU:List D → Out D:=runF 2 [false,false] ZbR
def Zca:DS:=(dsSeq (dsIf (dtV (dN (f2 eqD) [.v (dN (f1 lenD) [.k (pVar 0)]),.k (pC (.int 4))])) (dsRet (dN (f2 addA) [.k (pVar 0),.v (dF mkTup (daCons (dP (pOp ixD (pVar 0) (pC (.int 3)))) daNil))])) dsNext) (dsRet (dMv 0)))
def Zbo:List D → Out D:=runF 1 [false] Zca
def ZbS:DS:=(dsSeq (dsIf (dtNot (dtV (dN (f1 (isiTD ["list","tuple"])) [.k (pVar 0)]))) (ZbP 1 2 (daCons (dP (pC .non)) (daCons (dP (pC (.str "form"))) daNil))) dsNext) (dsSeq (dsIf (dtV (dN (f2 gtD) [.v (dN (f1 lenD) [.k (pVar 0)]),.k (pC (.int 30))])) (ZbP 1 2 (daCons (dP (pC (.int 30))) (daCons (dP (pC (.str "many"))) daNil))) dsNext) (dsSeq (dsAsg dDict0 (tgN 1)) (dsSeq (dsFor (diP (itEn false) (pVar 0)) (tgT [tgN 2,tgN 3]) (dsSeq (dsAsg (dCall ZU (daLend (pVar 1) (daLend (pVar 3) daNil))) (tgN 4)) (dsSeq (dsIf (dtV (dN (f1 notND) [.k (pVar 4)])) (ZbP 1 2 (daCons (dP (pVar 2)) (daCons (dP (pVar 4)) daNil))) dsNext) (ZcB (plV 1) (dP (pOp ixD (pVar 3) (pC (.int 0)))) true (dCall Zbo (daLend (pVar 3) daNil)))))) (dsRet (dMv 1))))))
def ZV:List D → Out D:=runF 5 [false] ZbS
def Zbi:DS:=(dsFldS (plV 0) 20 "fives" (dCall ZV (daLend (pVar 1) daNil)))
def Zm:List D → Out D:=runF 2 [true,false] Zbi
def Zb9:DS:=(dsSeq (dsIf (dtV (dN (f2 ltD) [.k (pVar 1),.v (dN (f1 lenD) [.k (pVar 0)])])) (dsRet (dP (pOp ixD (pVar 0) (pVar 1)))) dsNext) (dsSeq (dsIf (dtV (dN (f2 eqD) [.v (dN (f1 lenD) [.k (pVar 0)]),.k (pC (.int 0))])) (dsRet (dN (f2 addA) [.v (dN (f2 mulA) [.k (pC (.int 48271)),.k (pVar 1)]),.k (pC (.int 7))])) dsNext) (dsRet (dN (f2 addA) [.v (dN (f2 divD) [.v (dN (f2 ixK) [.k (pVar 0),.v (dN (f2 modD) [.k (pVar 1),.v (dN (f1 lenD) [.k (pVar 0)])])]),.v (dN (f2 addA) [.k (pVar 1),.k (pC (.int 1))])]),.v (dN (f2 mulA) [.k (pC (.int 7919)),.k (pVar 1)])]))))
def ZbM:List D → Out D:=runF 2 [false,false] Zb9
def Zdd:DS:=(dsSeq (dsIf (dtOr (dtNot (dtV (dN (f1 (isiD "tuple")) [.k (pVar 0)]))) (dtOr (dtV (dN (f2 neD) [.v (dN (f1 lenD) [.k (pVar 0)]),.k (pC (.int 2))])) (dtNot (dtV (dCall Zl (daLend (pOp ixD (pVar 0) (pC (.int 0))) (daLend (pC (.int 0)) (daCons (dN (f2 addA) [.k (pC (.int 199)),.k (pC (.int 1))]) daNil)))))))) (dsRet (dP (pC (.bl false)))) dsNext) (dsRet (dCall Zl (daLend (pOp ixD (pVar 0) (pC (.int 1))) (daCons (dN (f2 subD) [.k (pOp ixD (pVar 0) (pC (.int 0))),.k (pC (.int 1))]) (daLend (pC (.int 199)) daNil))))))
def Zdf:List D → Out D:=runF 1 [false] Zdd
def ZcL:DS:=(dsIf (dtNot (dtV (dCall Zdf (daLend (pVar 0) daNil)))) (ZbP 5 1 (daCons (dP (pVar 0)) daNil)) dsNext)
def ZcT:List D → Out D:=runF 1 [false] ZcL
def ZbF:DS:=(dsRet (dN (f1 valsTD) [.k (pUn (fldD 20 "fives") (pVar 0))]))
def Zj:List D → Out D:=runF 1 [false] ZbF
def ZcX:DS:=(dsSeq (dsDrop (dCall ZcT (daLend (pVar 1) daNil))) (dsRet (dComp true [2] (diD (itA true) (dCall Zj (daLend (pRc 20 "told" (pVar 0)) daNil))) (tgN 2) (dtAnd (dtV (dN (f2 geD) [.k (pOp ixD (pVar 2) (pC (.int 1))),.k (pOp ixD (pVar 1) (pC (.int 0)))])) (dtV (dN (f2 leD) [.k (pOp ixD (pVar 2) (pC (.int 2))),.k (pOp ixD (pVar 1) (pC (.int 1)))]))) (dP (pVar 2)))))
def Zc0:List D → Out D:=runF 3 [false,false] ZcX
end Lw
namespace Lw
open PySem PySem.Spec PyProof.Rows L2 Fs
end Lw
namespace Lw
open PySem PySem.Spec PyProof.Rows L2 Fs
end Lw
namespace Lw
open PySem PySem.Spec PyProof.Rows L2 Fs
end Lw
namespace Lw
open PySem PySem.Spec PyProof.Rows L2 Fs
end Lw
namespace Lw
open PySem PySem.Spec PyProof.Rows L2 Fs
def Zcg:DS:=(dsSeq (dsAsg (dF mkLst (daCons (dP (pC .non)) (daCons (dP (pC (.bl true))) (daCons (dP (pC (.bl false))) (daCons (dP (pC (.int 0))) (daCons (dP (pC (.int 1))) (daCons (dN (f2 subD) [.k (pC (.int 0)),.k (pC (.int 1))]) (daCons (dP (pC (.int 200))) (daCons (dP (pC (.int 201))) (daCons (dN (f2 powD) [.k (pC (.int 10)),.k (pC (.int 29))]) (daCons (dN (f2 subD) [.k (pC (.int 0)),.v (dN (f2 powD) [.k (pC (.int 10)),.k (pC (.int 29))])]) (daCons (dP (pC (.str ""))) (daCons (dP (pC (.str "a"))) (daCons (dP (pC (.str "0"))) (daCons (dP (pC (.str "7"))) (daCons (dP (pC (.str "07"))) (daCons (dP (pC (.str "9999"))) (daCons (dP (pC (.str "10000"))) daNil)))))))))))))))))) (tgN 1)) (dsSeq (dsAsg (dN (f2 addA) [.k (pVar 1),.v (dF mkLst (daCons (dP (pC (.str "a1"))) (daCons (dP (pC (.str "1a"))) (daCons (dP (pC (.str "A"))) (daCons (dP (pC (.str "abcdefgh"))) (daCons (dP (pC (.str "abcdefghi"))) (daCons (dP (pC (.str "a "))) (daCons (dP (pC (.str " 1"))) (daCons (dP (pC (.str "+1"))) (daCons (dP (pC (.str "-1"))) (daCons (dP (pC (.str "a-b"))) (daCons (dP (pC (.str "1.5"))) (daCons (dP (pC (.str "a\n"))) (daCons (dP (pC (.str "z9z9z9z9"))) daNil))))))))))))))]) (tgN 1)) (dsSeq (dsAsg (dN (f2 addA) [.k (pVar 1),.v (dF mkLst (daCons (dF mkLst daNil) (daCons (dF mkTup daNil) (daCons dDict0 (daCons (dF mkLst (daCons (dP (pC (.int 1))) daNil)) (daCons (dF mkTup (daCons (dP (pC (.int 1))) daNil)) (daCons (dF mkTup (daCons (dP (pC (.str "a"))) (daCons (dP (pC (.int 0))) (daCons (dP (pC (.int 5))) (daCons (dP (pC (.int 2))) daNil))))) (daCons (dDisp [((pC (.str "a")),(dP (pC (.int 1))))]) (daCons (dF mkLst (daCons (dF mkLst (daCons (dP (pC (.str "a"))) (daCons (dP (pC (.int 0))) (daCons (dP (pC (.int 5))) (daCons (dP (pC (.int 2))) daNil))))) daNil)) (daCons (dP (pC (.str "\n"))) (daCons (dP (pC (.str "mow 3 40 5"))) daNil)))))))))))]) (tgN 1)) (dsRet (dNI (f2 ixK) [.l 1,.v (Ze Za [.o 0,.v (dP (pC (.int 40)))])])))))
def Zbd:List D → Out D:=runF 2 [true] Zcg
end Lw
namespace Lw
open PySem PySem.Spec PyProof.Rows L2 Fs
end Lw
namespace Lw
open PySem PySem.Spec PyProof.Rows L2 Fs
end Lw
namespace Lw
open PySem PySem.Spec PyProof.Rows L2 Fs
end Lw
namespace Lw
open PySem PySem.Spec PyProof.Rows L2 Fs
end Lw
namespace Lw
open PySem PySem.Spec PyProof.Rows L2 Fs
end Lw
namespace Lw
open PySem PySem.Spec PyProof.Rows L2 Fs
end Lw
namespace Lw
open PySem PySem.Spec PyProof.Rows L2 Fs
end Lw
namespace Lw
open PySem PySem.Spec PyProof.Rows L2 Fs
end Lw
namespace Lw
open PySem PySem.Spec PyProof.Rows L2 Fs
end Lw
namespace Lw
open PySem PySem.Spec PyProof.Rows L2 Fs
end Lw
namespace Lw
open PySem PySem.Spec PyProof.Rows L2 Fs
end Lw
namespace Lw
open PySem PySem.Spec PyProof.Rows L2 Fs
end Lw
namespace Lw
open PySem PySem.Spec PyProof.Rows L2 Fs
end Lw
namespace Lw
open PySem PySem.Spec PyProof.Rows L2 Fs
end Lw
set_option maxHeartbeats 1000000
namespace Fs
open PySem PySem.Spec PyProof.Rows L2
end Fs
namespace Lw
open PySem PySem.Spec PyProof.Rows L2 Fs
end Lw
namespace Lw
open PySem PySem.Spec PyProof.Rows L2 Fs
end Lw
namespace Lw
open PySem PySem.Spec PyProof.Rows L2 Fs
end Lw
namespace Lw
open PySem PySem.Spec PyProof.Rows L2 Fs
end Lw
namespace Lw
open PySem PySem.Spec PyProof.Rows L2 Fs
end Lw
namespace Lw
open PySem PySem.Spec PyProof.Rows L2 Fs
end Lw
namespace Lw
open PySem PySem.Spec PyProof.Rows L2 Fs
end Lw
namespace Lw
open PySem PySem.Spec PyProof.Rows L2 Fs
end Lw
namespace Lw
open PySem PySem.Spec PyProof.Rows L2 Fs
end Lw
namespace Lw
open PySem PySem.Spec PyProof.Rows L2 Fs
end Lw
namespace Fs
open PySem PySem.Spec PyProof.Rows L2
end Fs
namespace Lw
open PySem PySem.Spec PyProof.Rows L2 Fs
end Lw
namespace Lw
open PySem PySem.Spec PyProof.Rows L2 Fs
end Lw
namespace Lw
open PySem PySem.Spec PyProof.Rows L2 Fs
end Lw
namespace Lw
open PySem PySem.Spec PyProof.Rows L2 Fs
end Lw
namespace Lw
open PySem PySem.Spec PyProof.Rows L2 Fs
end Lw
namespace Lw
open PySem PySem.Spec PyProof.Rows L2 Fs
end Lw
set_option maxHeartbeats 2000000
namespace Fs
open PySem PySem.Spec PyProof.Rows L2
end Fs
namespace Lw
open PySem PySem.Spec PyProof.Rows L2 Fs
end Lw
namespace Lw
open PySem PySem.Spec PyProof.Rows L2 Fs
end Lw
namespace Lw
open PySem PySem.Spec PyProof.Rows L2 Fs
end Lw
namespace Lw
open PySem PySem.Spec PyProof.Rows L2 Fs
end Lw
namespace Lw
open PySem PySem.Spec PyProof.Rows L2 Fs
end Lw
namespace Lw
open PySem PySem.Spec PyProof.Rows L2 Fs
end Lw
namespace Lw
open PySem PySem.Spec PyProof.Rows L2 Fs
end Lw
namespace Lw
open PySem PySem.Spec PyProof.Rows L2 Fs
end Lw
namespace Lw
open PySem PySem.Spec PyProof.Rows L2 Fs
end Lw
namespace Lw
open PySem PySem.Spec PyProof.Rows L2 Fs
end Lw
namespace Lw
open PySem PySem.Spec PyProof.Rows L2 Fs
end Lw
namespace Lw
open PySem PySem.Spec PyProof.Rows L2 Fs
end Lw
namespace Lw
open PySem PySem.Spec PyProof.Rows L2 Fs
end Lw
namespace Lw
open PySem PySem.Spec PyProof.Rows L2 Fs
end Lw
namespace Lw
open PySem PySem.Spec PyProof.Rows L2 Fs
end Lw
namespace Lw
open PySem PySem.Spec PyProof.Rows L2 Fs
end Lw
namespace Lw
open PySem PySem.Spec PyProof.Rows L2 Fs
end Lw
namespace Lw
open PySem PySem.Spec PyProof.Rows L2 Fs
end Lw
namespace Lw
open PySem PySem.Spec PyProof.Rows L2 Fs
end Lw
set_option maxHeartbeats 2000000
namespace Fs
open PySem PySem.Spec PyProof.Rows L2
def strX (x:D):Option D:=match x with
  | .v (.str s)=>some (.str s)
  | x=>reprX x
end Fs
namespace Lw
open PySem PySem.Spec PyProof.Rows L2 Fs
def Zbt:DS:=(dsSeq (dsAsg (dNI (f2 addA) [.v (dP (pC (.int 1))),.v (dNI (f2 ixK) [.v (dF mkLst (daCons (Ze Za [.o 0,.v (dP (pC (.int 5)))]) (daCons (Ze Za [.o 0,.v (dP (pC (.int 40)))]) (daCons (Ze Za [.o 0,.v (dP (pC (.int 200)))]) daNil)))),.v (Ze Za [.o 0,.v (dP (pC (.int 3)))])])]) (tgN 2)) (dsSeq (dsAsg (dNI (f2 addA) [.v (dP (pC (.int 1))),.v (dNI (f2 ixK) [.v (dF mkLst (daCons (Ze Za [.o 0,.v (dP (pC (.int 3)))]) (daCons (Ze Za [.o 0,.v (dP (pC (.int 6)))]) (daCons (Ze Za [.o 0,.v (dP (pC (.int 12)))]) (daCons (Ze Za [.o 0,.v (dP (pC (.int 30)))]) daNil))))),.v (Ze Za [.o 0,.v (dP (pC (.int 4)))])])]) (tgN 3)) (dsSeq (dsAsg (dNI (f2 addA) [.v (dP (pC (.int 1))),.v (dNI (f2 ixK) [.v (dF mkLst (daCons (Ze Za [.o 0,.v (dP (pC (.int 6)))]) (daCons (Ze Za [.o 0,.v (dP (pC (.int 30)))]) (daCons (Ze Za [.o 0,.v (dP (pC (.int 200)))]) daNil)))),.v (Ze Za [.o 0,.v (dP (pC (.int 3)))])])]) (tgN 4)) (dsSeq (dsAsg (dN (f2 minD) [.k (pVar 4),.v (dN (f2 subD) [.k (pC (.int 200)),.v (dN (f2 mulA) [.v (dN (f2 subD) [.k (pVar 3),.k (pC (.int 1))]),.v (dN (f2 minD) [.k (pVar 2),.v (dN (f2 divD) [.k (pC (.int 199)),.k (pVar 3)])])])])]) (tgN 4)) (dsSeq (dsAsg (dN (f2 minD) [.k (pVar 2),.v (dN (f2 divD) [.k (pC (.int 199)),.k (pVar 3)])]) (tgN 2)) (dsSeq (dsAsg (Ze Za [.o 0,.v (dN (f2 subD) [.v (dN (f2 subD) [.k (pC (.int 201)),.k (pVar 4)]),.v (dN (f2 mulA) [.v (dN (f2 subD) [.k (pVar 3),.k (pC (.int 1))]),.k (pVar 2)])])]) (tgN 5)) (dsRet (dFr (dF mkTup (daCons (dP (pVar 1)) (daCons (dP (pVar 5)) (daCons (dP (pVar 4)) (daCons (dNI (f2 addA) [.v (dP (pC (.int 1))),.v (Ze Za [.o 0,.v (dNI (f2 ixK) [.v (dF mkLst (daCons (dP (pC (.int 3))) (daCons (dP (pC (.int 12))) daNil))),.v (Ze Za [.o 0,.v (dP (pC (.int 2)))])])])]) (daCons (dP (pVar 2)) (daCons (dP (pVar 3)) daNil)))))))))))))))
def ZW:List D → Out D:=runF 6 [true,false] Zbt
def Zbc:DS:=(dsSeq (dsAsg (dF mkLst daNil) (tgN 1)) (dsSeq (dsFor (diP (itA false) (pVar 0)) (tgT [tgN 2,tgN 3,tgN 4,tgN 5,tgN 6,tgN 7]) (dsFor (diD itR (dP (pVar 7))) (tgN 8) (dsDrop (dApp 1 (dFr (dF mkTup (daCons (dN (f2 addA) [.k (pVar 2),.v (dN (f1 strD) [.k (pVar 8)])]) (daCons (dN (f2 addA) [.k (pVar 3),.v (dN (f2 mulA) [.k (pVar 8),.k (pVar 6)])]) (daCons (dN (f2 subD) [.v (dN (f2 addA) [.v (dN (f2 addA) [.k (pVar 3),.v (dN (f2 mulA) [.k (pVar 8),.k (pVar 6)])]),.k (pVar 4)]),.k (pC (.int 1))]) (daCons (dP (pVar 5)) (daCons (dP (pVar 5)) daNil))))))))))) (dsRet (dMv 1))))
def Zd:List D → Out D:=runF 9 [false] Zbc
def ZbQ:DS:=(dsSeq (dsAsg (dP (pVar 0)) (tgT [tgN 1,tgN 2,tgN 3,tgN 4,tgN 5,tgN 6])) (dsSeq (dsAsg (dF mkLst daNil) (tgN 7)) (dsSeq (dsFor (diD itR (dP (pVar 6))) (tgN 8) (dsSeq (dsAsg (dN (f2 addA) [.k (pVar 2),.v (dN (f2 mulA) [.k (pVar 8),.k (pVar 5)])]) (tgN 9)) (dsDrop (dApp 7 (dFr (dF mkTup (daCons (dN (f2 addA) [.k (pVar 1),.v (dN (f1 strD) [.k (pVar 8)])]) (daCons (dP (pVar 9)) (daCons (dN (f2 subD) [.v (dN (f2 addA) [.k (pVar 9),.k (pVar 3)]),.k (pC (.int 1))]) (daCons (dP (pVar 4)) (daCons (dP (pVar 4)) daNil))))))))))) (dsRet (dMv 7)))))
def Zh:List D → Out D:=runF 10 [false] ZbQ
def Zx:DS:=(dsSeq (dsIf (dtOr (dtNot (dtV (dN (f1 (isiD "tuple")) [.k (pVar 1)]))) (dtV (dN (f2 neD) [.v (dN (f1 lenD) [.k (pVar 1)]),.v (dN (f2 addA) [.k (pC (.int 1)),.k (pC (.int 5))])]))) (dsRet (dP (pC (.str "form")))) dsNext) (dsSeq (dsIf (dtOr (dtNot (dtV (dCall Zz (daLend (pOp ixD (pVar 1) (pC (.int 0))) daNil)))) (dtV (dN (f2 gtD) [.v (dN (f1 lenD) [.k (pOp ixD (pVar 1) (pC (.int 0)))]),.k (pC (.int 6))]))) (dsRet (dP (pC (.str "name")))) dsNext) (dsSeq (dsIf (dtV (dN (f2 inD) [.k (pOp ixD (pVar 1) (pC (.int 0))),.k (pVar 0)])) (dsRet (dP (pC (.str "double")))) dsNext) (dsSeq (dsFor (diC [[.str "first",.int 0,.int 199],[.str "window",.int 1,.int 200],[.str "length",.int 1,.int 12],[.str "every",.int 1,.int 200],[.str "times",.int 1,.int 30]] (dN slD [.k (pVar 1),.k (pUn intP (pC (.int 1))),.k (pC .non)])) (tgT [tgT [tgN 2,tgN 3,tgN 4],tgN 5]) (dsIf (dtNot (dtV (dCall Zl (daLend (pVar 5) (daLend (pVar 3) (daLend (pVar 4) daNil)))))) (dsRet (dMv 2)) dsNext)) (dsSeq (dsIf (dtV (dN (f2 gtD) [.v (dN (f2 ixK) [.v (dN (f2 ixK) [.v (dCall Zh (daLend (pVar 1) daNil)),.v (dN (f1 negD) [.k (pC (.int 1))])]),.k (pC (.int 2))]),.k (pC (.int 199))])) (dsRet (dP (pC (.str "last")))) dsNext) (dsRet (dP (pC .non))))))))
def Zt:List D → Out D:=runF 6 [false,false] Zx
def Zbq:DS:=(dsSeq (dsAsg (dComp true [3] (diD (itA true) (dCall Zh (daLend (pVar 1) daNil))) (tgN 3) dtYes (dP (pOp ixD (pVar 3) (pC (.int 0))))) (tgN 2)) (dsSeq (dsIf (dtV (dN (f2 neD) [.v (dComp true [4] (diP (itA true) (pVar 2)) (tgN 4) (dtV (dN (f2 inD) [.k (pVar 4),.k (pVar 0)])) (dP (pVar 4))),.v (dF mkLst daNil)])) (dsRet (dP (pC (.str "meets")))) dsNext) (dsSeq (dsIf (dtV (dN (f2 gtD) [.v (dN (f2 addA) [.v (dN (f1 lenD) [.k (pVar 0)]),.v (dN (f1 lenD) [.k (pVar 2)])]),.k (pC (.int 30))])) (dsRet (dP (pC (.str "together")))) dsNext) (dsRet (dP (pC .non))))))
def Zo:List D → Out D:=runF 5 [false,false] Zbq
def Zu:DS:=(dsSeq (dsIf (dtNot (dtV (dN (f1 (isiTD ["list","tuple"])) [.k (pVar 1)]))) (ZbP 17 2 (daCons (dP (pC .non)) (daCons (dP (pC (.str "form"))) daNil))) dsNext) (dsSeq (dsIf (dtV (dN (f2 gtD) [.v (dN (f1 lenD) [.k (pVar 1)]),.k (pC (.int 30))])) (ZbP 17 2 (daCons (dP (pC (.int 30))) (daCons (dP (pC (.str "many"))) daNil))) dsNext) (dsSeq (dsFldS (plV 0) 36 "known" dDict0) (dsSeq (dsFldS (plV 0) 36 "held" dDict0) (dsFor (diP (itEn false) (pVar 1)) (tgT [tgN 2,tgN 3]) (dsSeq (dsAsg (dOrN (dCall Zt (daLend (pUn (fldD 36 "known") (pVar 0)) (daLend (pVar 3) daNil))) (dCall Zo (daLend (pUn (fldD 36 "held") (pVar 0)) (daLend (pVar 3) daNil)))) (tgN 4)) (dsSeq (dsIf (dtV (dN (f1 notND) [.k (pVar 4)])) (ZbP 17 2 (daCons (dP (pVar 2)) (daCons (dP (pVar 4)) daNil))) dsNext) (dsSeq (ZcB (plF 36 "known" (plV 0)) (dP (pOp ixD (pVar 3) (pC (.int 0)))) true (dP (pVar 3))) (dsFor (diD (itEn true) (dCall Zh (daLend (pVar 3) daNil))) (tgT [tgN 5,tgN 6]) (ZcB (plF 36 "held" (plV 0)) (dP (pOp ixD (pVar 6) (pC (.int 0)))) true (dF mkTup (daCons (dP (pOp ixD (pVar 3) (pC (.int 0)))) (daCons (dP (pVar 5)) daNil)))))))))))))
def Zb:List D → Out D:=runF 7 [true,false] Zu
end Lw
namespace Lw
open PySem PySem.Spec PyProof.Rows L2 Fs
def Zb5:DS:=(dsSeq (dsAsg (dP (pC (.str "abcdefghijklmnopqrstuvwxyz"))) (tgN 1)) (dsSeq (dsAsg (dN (f2 addA) [.k (pVar 1),.k (pC (.str "0123456789"))]) (tgN 2)) (dsSeq (dsIf (dtV (dNI (f2 eqD) [.v (Ze Za [.o 0,.v (dP (pC (.int 4)))]),.v (dP (pC (.int 0)))])) (dsRet (dNI (f2 addA) [.v (dNI (f2 ixK) [.l 1,.v (Ze Za [.o 0,.v (dP (pC (.int 26)))])]),.v (dNI (f1 (joinD "")) [.v (dComp false [3] (diD itR (Ze Za [.o 0,.v (dP (pC (.int 6)))])) (tgN 3) dtYes (dNI (f2 ixK) [.l 2,.v (Ze Za [.o 0,.v (dP (pC (.int 36)))])]))])])) dsNext) (dsSeq (dsAsg (dNI (f1 (joinD "")) [.v (dComp false [3] (diD itR (dNI (f2 addA) [.v (dP (pC (.int 1))),.v (Ze Za [.o 0,.v (dP (pC (.int 3)))])])) (tgN 3) dtYes (dNI (f2 ixK) [.l 1,.v (Ze Za [.o 0,.v (dP (pC (.int 3)))])]))]) (tgN 4)) (dsRet (dNI (f2 addA) [.l 4,.v (dNI (f2 ixK) [.v (dF mkLst (daCons (dP (pC (.str ""))) (daCons (dP (pC (.str ""))) (daCons (dP (pC (.str "1"))) (daCons (dP (pC (.str "2"))) (daCons (dP (pC (.str "12"))) (daCons (dP (pC (.str "0"))) daNil))))))),.v (Ze Za [.o 0,.v (dP (pC (.int 6)))])])]))))))
def Zbp:List D → Out D:=runF 5 [true] Zb5
def ZbH:DS:=(dsSeq (dsAsg (dF mkLst daNil) (tgN 2)) (dsSeq (dsFor (diD itR (Ze Za [.o 0,.v (dN (f2 addA) [.k (pVar 1),.k (pC (.int 1))])])) (tgN 3) (dsSeq (dsAsg (Ze ZW [.o 0,.v (Ze Zbp [.o 0])]) (tgN 4)) (dsSeq (dsAsg (dComp true [6] (diD (itA true) (dCall Zd (daCons (dFr (dN (f2 addA) [.k (pVar 2),.v (dF mkLst (daCons (dP (pVar 4)) daNil))])) daNil))) (tgN 6) dtYes (dP (pOp ixD (pVar 6) (pC (.int 0))))) (tgN 5)) (dsIf (dtAnd (dtV (dN (f2 notinD) [.k (pOp ixD (pVar 4) (pC (.int 0))),.v (dComp true [7] (diP (itA true) (pVar 2)) (tgN 7) dtYes (dP (pOp ixD (pVar 7) (pC (.int 0)))))])) (dtAnd (dtV (dN (f2 eqD) [.v (dN (f1 Ze3) [.k (pVar 5)]),.v (dN (f1 lenD) [.k (pVar 5)])])) (dtV (dN (f2 ltD) [.v (dN (f1 lenD) [.k (pVar 5)]),.k (pC (.int 31))])))) (dsDrop (dApp 2 (dP (pVar 4)))) dsNext)))) (dsRet (dMv 2))))
def ZL:List D → Out D:=runF 8 [true,false] ZbH
def ZbE:DS:=(dsRet (dN (f1 valsTD) [.k (pUn (fldD 36 "known") (pVar 0))]))
def Zi:List D → Out D:=runF 1 [false] ZbE
end Lw
set_option maxHeartbeats 4000000
namespace Rm
open PySem PySem.Spec PyProof.Rows L2 Fs
def at2 (X:Cx):Cx:={ X with A:=X.A.in1.in1,xe:=fun _ _=>False }
theorem at2_ok {X:Cx} (o:X.Ok):(at2 X).Ok:=⟨o.mod,o.kind,o.glob,o.blt,o.above,o.inj,o.has,o.cab,o.hd,o.frames,o.stk,o.exf,o.bs,o.bsz,o.noex,o.exfs,o.funs,o.frf⟩
theorem to2 {X:Cx} {pins:List (Addr × Obj)} {σ:L2.St} {H:Hp} {s:Shared} (I:Inv X pins σ H s):Inv (at2 X) pins σ H s:=⟨at2_ok I.ok,I.os,I.bare,I.base,I.loc,I.cell,I.free,I.freeC,I.pin,I.hok,I.len⟩
theorem of2 {X:Cx} {pins:List (Addr × Obj)} {σ:L2.St} {H:Hp} {s:Shared} (o:X.Ok) (I:Inv (at2 X) pins σ H s):Inv X pins σ H s:=⟨o,I.os,I.bare,I.base,I.loc,I.cell,I.free,I.freeC,I.pin,I.hok,I.len⟩
def KsRun (sp:Sp):List V → List Int → Hp → (List Int → Hp → Prop) → Prop
  | [],ks,H,R=>R ks H
  | x :: r,ks,H,R=>sp [x] H (fun v H2=>∃ k:Int,v = .int k ∧ KsRun sp r (ks ++ [k]) H2 R) fun _ _ _=>False
def StOut (ks:List Int) (xs ys:List V):Prop:=∃ ps:List (Int × V),ps.Perm (ks.zip xs) ∧ ys = ps.map Prod.snd ∧ ps.Pairwise (fun p q=>p.1 ≤ q.1) ∧ ∀ c,ps.filter (fun p=>p.1 == c) = (ks.zip xs).filter (fun p=>p.1 == c)
def rSortK (K:PySem.W.Frag) (sp:Sp):V → Hp → VK → Prop:=fun x H Q=>∃ (a:Addr) (xs:List V),x = .ref a ∧ SqL K H a xs ∧ KsRun sp xs [] H fun ks H2=>∀ ys p,StOut ks xs ys → H2 p = none → Q (.ref p) (upd H2 p (.lst ys))
theorem ZjP:∀ {ks:List Int} {xs:List V} {vs out:List Value},Vals xs vs → KskOutSt false ks vs out → ∃ ys,StOut ks xs ys ∧ Vals ys out:=by
  intro ks xs vs out r h
  obtain ⟨ps,hp,rfl,hs,hst⟩:=h
  -- the i-th pairs go together
  have pr:∀ {ks:List Int} {xs:List V} {vs:List Value},Vals xs vs → Paired (fun (p:Int × V) (q:Int × Value)=>p.1 = q.1 ∧ RelV p.2 q.2) (ks.zip xs) (ks.zip vs):=by
    intro ks
    induction ks with
    | nil=>intro xs vs r; simp only [List.zip_nil_left]; exact .nil
    | cons k ks ih =>
      intro xs vs r
      cases r with
      | nil=>simp only [List.zip_nil_right]; exact .nil
      | cons a b=>simp only [List.zip_cons_cons]; exact .cons ⟨rfl,a⟩ (ih b)
  have pp:∀ {l1:List (Int × V)} {l2 l3:List (Int × Value)},Paired (fun (p:Int × V) (q:Int × Value)=>p.1 = q.1 ∧ RelV p.2 q.2) l1 l2 → l3.Perm l2 → (∀ c,l3.filter (fun p=>p.1 == c) = l2.filter (fun p=>p.1 == c)) →
      ∃ l4:List (Int × V),l4.Perm l1 ∧ Paired (fun (p:Int × V) (q:Int × Value)=>p.1 = q.1 ∧ RelV p.2 q.2) l4 l3 ∧ ∀ c,l4.filter (fun p=>p.1 == c) = l1.filter (fun p=>p.1 == c):=by
    intro l1 l2 l3
    induction l3 generalizing l1 l2 with
    | nil =>
      intro h1 h2 _
      have e:l2 = []:=h2.symm.eq_nil
      subst e
      cases h1
      exact ⟨[],.refl _,.nil,fun _=>rfl⟩
    | cons q l3 ih =>
      intro h1 h2 h3
      -- the first of l2 of q's key is q
      have split:∀ {l1:List (Int × V)} {l2:List (Int × Value)} {t:List (Int × Value)},Paired (fun (p:Int × V) (q:Int × Value)=>p.1 = q.1 ∧ RelV p.2 q.2) l1 l2 → l2.filter (fun p=>p.1 == q.1) = q :: t →
          ∃ a b a2 b2,∃ p:Int × V,l1 = a ++ p :: b ∧ l2 = a2 ++ q :: b2 ∧ p.1 = q.1 ∧ RelV p.2 q.2 ∧ Paired (fun (p:Int × V) (q:Int × Value)=>p.1 = q.1 ∧ RelV p.2 q.2) (a ++ b) (a2 ++ b2) ∧ (∀ x ∈ a,x.1 ≠ q.1) ∧ ∀ x ∈ a2,x.1 ≠ q.1:=by
        intro l1 l2 t h
        induction h with
        | nil=>intro e; simp at e
        | @cons x y l1 l2 hxy h ih =>
          intro e
          by_cases hc:(y.1 == q.1) = true
          · rw [List.filter_cons,if_pos hc] at e
            cases e
            exact ⟨[],l1,[],l2,x,rfl,rfl,hxy.1,hxy.2,h,by simp,by simp⟩
          · rw [List.filter_cons,if_neg hc] at e
            obtain ⟨a,b,a2,b2,p,e1,e2,e3,e4,e5,e6,e7⟩:=ih e
            have hne:y.1 ≠ q.1:=by simpa using hc
            refine ⟨x :: a,b,y :: a2,b2,p,by rw [e1]; rfl,by rw [e2]; rfl,e3,e4,.cons hxy e5,?_,?_⟩
            · intro z hz
              rcases List.mem_cons.mp hz with rfl | hz
              · rw [hxy.1]; exact hne
              · exact e6 z hz
            · intro z hz
              rcases List.mem_cons.mp hz with rfl | hz
              · exact hne
              · exact e7 z hz
      have e0:=h3 q.1
      rw [List.filter_cons_of_pos (by simp)] at e0
      obtain ⟨a,b,a2,b2,p,rfl,rfl,hk,hr,hpr,na,na2⟩:=split h1 e0.symm
      have hperm:l3.Perm (a2 ++ b2):=by
        have:=h2.trans (List.perm_middle (a:=q) (l₁:=a2) (l₂:=b2))
        exact this.cons_inv
      have hfil:∀ c,l3.filter (fun p=>p.1 == c) = (a2 ++ b2).filter (fun p=>p.1 == c):=by
        intro c
        have z:=h3 c
        by_cases hc:q.1 = c
        · subst hc
          have f0:a2.filter (fun p=>p.1 == q.1) = []:=List.filter_eq_nil_iff.mpr fun x hx=>by simpa using na2 x hx
          rw [List.filter_cons_of_pos (by simp),List.filter_append,f0,List.nil_append,List.filter_cons_of_pos (by simp)] at z
          rw [List.filter_append,f0,List.nil_append]
          exact (List.cons.inj z).2
        · rw [List.filter_cons_of_neg (by simpa using hc),List.filter_append,List.filter_cons_of_neg (by simpa using hc),← List.filter_append] at z
          exact z
      obtain ⟨l4,g1,g2,g3⟩:=ih hpr hperm hfil
      refine ⟨p :: l4,?_,.cons ⟨hk,hr⟩ g2,fun c=>?_⟩
      · exact (g1.cons p).trans (List.perm_middle (a:=p) (l₁:=a) (l₂:=b)).symm
      · by_cases hc:p.1 = c
        · subst hc
          have f0:a.filter (fun x=>x.1 == p.1) = []:=List.filter_eq_nil_iff.mpr fun x hx=>by rw [hk]; simpa using na x hx
          have z:=g3 p.1
          rw [List.filter_append,f0,List.nil_append] at z
          rw [List.filter_cons_of_pos (by simp),List.filter_append,f0,List.nil_append,List.filter_cons_of_pos (by simp),z]
        · have z:=g3 c
          rw [List.filter_cons_of_neg (by simpa using hc),List.filter_append,List.filter_cons_of_neg (by simpa using hc),← List.filter_append]
          exact z
  obtain ⟨l4,g1,g2,g3⟩:=pp (pr (ks:=ks) r) hp hst
  refine ⟨l4.map Prod.snd,⟨l4,g1,rfl,?_,g3⟩,?_⟩
  · have:∀ {l4:List (Int × V)} {ps:List (Int × Value)},Paired (fun (p:Int × V) (q:Int × Value)=>p.1 = q.1 ∧ RelV p.2 q.2) l4 ps → ps.Pairwise (fun p q=>if false = true then q.1 ≤ p.1 else p.1 ≤ q.1) → l4.Pairwise (fun p q=>p.1 ≤ q.1):=by
      intro l4 ps h
      have ml:∀ {l4:List (Int × V)} {ps:List (Int × Value)},Paired (fun (p:Int × V) (q:Int × Value)=>p.1 = q.1 ∧ RelV p.2 q.2) l4 ps → ∀ x ∈ l4,∃ y ∈ ps,x.1 = y.1:=by
        intro l4 ps h
        induction h with
        | nil=>simp
        | cons a b ih =>
          intro x hx
          rcases List.mem_cons.mp hx with rfl | hx
          · exact ⟨_,List.mem_cons_self,a.1⟩
          · obtain ⟨y,hy,e⟩:=ih x hx
            exact ⟨y,List.mem_cons_of_mem _ hy,e⟩
      induction h with
      | nil=>intro _; exact .nil
      | cons a b ih =>
        intro hw
        have hw2:=List.pairwise_cons.mp hw
        refine List.pairwise_cons.mpr ⟨fun x hx=>?_,ih hw2.2⟩
        obtain ⟨y,hy,e⟩:=ml b x hx
        have:=hw2.1 y hy
        simp only [Bool.false_eq_true,if_false] at this
        rw [a.1,e]
        exact this
    exact this g2 hs
  · have:∀ {l4:List (Int × V)} {ps:List (Int × Value)},Paired (fun (p:Int × V) (q:Int × Value)=>p.1 = q.1 ∧ RelV p.2 q.2) l4 ps → Vals (l4.map Prod.snd) (ps.map Prod.snd):=by
      intro l4 ps h
      induction h with
      | nil=>exact .nil
      | cons a b ih=>exact .cons a.2 ih
    exact this g2
section
variable {prog:Program} {w:World} {A:Around} {E:Value → Shared → Prop} {s:Shared} {a kS:Addr} {vs:List Value} {kz:List Int} {keys:Array Value} {ee e1:Nat} {P:PySem.Fin → Shared → Prop}
theorem Ziz {st:SortSt} (nk:s.heap.get? kS = some (seqObj "list" keys ee)) (na:s.heap.get? a = some (seqObj "list" #[] e1)) (ne:kS ≠ a) (hi:IntsAre keys.toList kz) (hl:kz.length = vs.length) (hz:vs.length ≤ sizeLine)
    (pm:(arrOf st).Perm (keys.zip vs.toArray)) (so:SortedTo (arrOf st) (arrOf st).size) (fl:failedOf st = none) (sb:Stable intKind (arrOf st) (keys.zip vs.toArray))
    (h:∀ g1 g2 out c,Heap.SameBut kS s.heap g1 → Heap.SameBut a g1 g2 → g2.get? a = some (seqObj "list" out c) → KskOutSt false kz vs out.toList → out.size = vs.length → P (.done (.ret .none)) { s with heap:=g2 }) :
    wpAny (model prog w) A (ksk_tail a false e1 (.ref kS) st) P E s:=by
  have z0:=hz
  rw [sizeLine_eq] at z0
  have z1:keys.size = vs.length:=by
    have q:=hi.length
    rw [Array.length_toList] at q
    omega
  have z2:(arrOf st).size = vs.length:=by rw [pm.size_eq,Array.size_zip,z1,List.size_toArray,Nat.min_self]
  have z3:((arrOf st).map (·.2)).size = vs.length:=by rw [Array.size_map]; exact z2
  have b1:=Heap.SameBut.update s.heap kS (Obj.mapSeq fun _=>(#[]:Array Value))
  have na1:(s.heap.update kS (Obj.mapSeq fun _=>(#[]:Array Value))).get? a = some (seqObj "list" #[] e1):=(b1.2 a ne.symm).trans na
  have b2:=Heap.SameBut.update (s.heap.update kS (Obj.mapSeq fun _=>(#[]:Array Value))) a (Obj.mapSeq fun _=>(arrOf st).map (·.2))
  unfold ksk_tail
  try dsimp only
  refine wpAny_bind (listUpdate_at nk rfl ?_ (by rw [z1,sizeLine_eq]; omega) (Nat.zero_le _))
  refine wpAny_bind (wpAny_letGo ?_)
  refine wpAny_bind (seqEpoch_at na1 rfl ?_)
  refine wpAny_bind (listUpdate_at na1 rfl ?_ (Nat.zero_le _) ?_)
  · rw [fl]
    simp only [bne_self_eq_false,Bool.false_eq_true,if_false]
    have oo:=ksk_outSt (b:=false) hi pm so (by simpa using sb)
    simp only [Bool.false_eq_true,if_false] at oo
    exact wpAny_pure (h _ _ _ _ b1 b2 (get?_update_seq na1 fun _=>(arrOf st).map (·.2)) oo z3)
  · simp only [Bool.false_eq_true,if_false]
    rw [z3,sizeLine_eq]
    omega
theorem sk_end (nk:s.heap.get? kS = some (seqObj "list" keys ee)) (na:s.heap.get? a = some (seqObj "list" #[] e1)) (ne:kS ≠ a) (hi:IntsAre keys.toList kz) (hl:kz.length = vs.length) (hz:vs.length ≤ sizeLine)
    (h:∀ g1 g2 out c,Heap.SameBut kS s.heap g1 → Heap.SameBut a g1 g2 → g2.get? a = some (seqObj "list" out c) → KskOutSt false kz vs out.toList → out.size = vs.length → P (.done (.ret .none)) { s with heap:=g2 }) :
    wpAny (model prog w) A (ksk_end a false vs.toArray e1 (.ref kS) keys) P E s:=by
  have z0:=hz
  rw [sizeLine_eq] at z0
  have z1:keys.size = vs.length:=by
    have q:=hi.length
    rw [Array.length_toList] at q
    omega
  have z2:(keys.zip vs.toArray).size = vs.length:=by rw [Array.size_zip,z1,List.size_toArray,Nat.min_self]
  unfold ksk_end
  try dsimp only
  simp only [Bool.false_eq_true,if_false]
  by_cases few:vs.toArray.size < 2
  · rw [if_pos few,if_pos few]
    refine wpAny_bind (wpAny_pure ?_)
    rw [StateT.run_pure]
    refine wpAny_bind (wpAny_pure ?_)
    try dsimp only
    refine Ziz (st:=SortSt.mk' general' (keys.zip vs.toArray) #[] 7 none) nk na ne hi hl hz (Array.Perm.refl _) ?_ rfl (Stable.refl _) h
    intro i j le hj
    have hj2:j < (keys.zip vs.toArray).size:=hj
    rw [z2] at hj2
    rw [List.size_toArray] at few
    have:i = j:=by omega
    subst this
    exact Int.le_refl _
  · rw [if_neg few,if_neg few]
    rw [List.size_toArray] at few
    rw [ksk_kind hi (by rw [z1]; omega)]
    refine wpAny_bind (wpAny_pure ?_)
    refine wpAny_bind (wpAny_mono (wpS_sortRunsSt (κ:=intKind) (a₀:=keys.zip vs.toArray) (st:=SortSt.mk' oneType' (keys.zip vs.toArray) #[] 7 none)
      (Q:=fun _ st2=>(arrOf st2).Perm (keys.zip vs.toArray) ∧ failedOf st2 = none ∧ SortedTo (arrOf st2) (arrOf st2).size ∧ Stable intKind (arrOf st2) (keys.zip vs.toArray))
      intKind_oneLt (ksk_keysOfInt (ksk_intKeys hi)) ⟨Array.Perm.refl _,rfl,rfl⟩ rfl (Stable.refl _) (by rw [z2]; omega)
      fun st2 c1 c2 c3 c4=>⟨c1,c2,by rw [c1.size_eq]; exact sortedTo_of_int c3,c4⟩) ?_ fun _ _ q=>q)
    rintro ⟨⟨⟩,st2⟩ s2 ⟨rfl,pm,fl,so,sb⟩
    try dsimp only
    exact Ziz nk na ne hi hl hz pm so fl sb h
end
section
variable {X:Cx} {k:Nat} {f:Addr} {fd:FuncData} {ps:List Str} {sp:Sp} {pins:List (Addr × Obj)} {σ:L2.St} {H:Hp} {s:Shared} {l:Addr} {xs:List V} {Q:VK}
theorem pin2 {H:Hp} {s:Shared} {kS a:Addr} {o1 o2:Obj} (I:Inv X pins σ H s) (f1:FpOk X pins H kS) (f2:FpOk X pins H a) (g1:s.heap.get? kS = some o1) (g2:s.heap.get? a = some o2) (c1:∀ v,o1.data ≠ .cell v) (c2:∀ v,o2.data ≠ .cell v):Inv X ((kS,o1) :: (a,o2) :: pins) σ H s :=
  I.pins_of fun p hp=>by
    rcases List.mem_cons.mp hp with rfl | hp
    · exact ⟨g1,f1.1,f1.2.1,f1.2.2.1,c1⟩
    · rcases List.mem_cons.mp hp with rfl | hp
      · exact ⟨g2,f2.1,f2.2.1,f2.2.2.1,c2⟩
      · exact I.pin p (List.mem_append_right _ hp)
theorem unpin2 {p q:Addr × Obj} (I:Inv X (p :: q :: pins) σ H s):Inv X pins σ H s:=I.pins_of fun r hr=>I.pin r (List.mem_append_right _ (List.mem_cons_of_mem _ (List.mem_cons_of_mem _ hr)))
theorem room2 {k:Nat} {A:Around} (r:RoomG (k + 1) A):RoomG k A.in1.in1:=⟨⟨r.r.hd,by have:=r.r.dp; show A.depth + 3 * k + 5 < _; omega,by have:=r.r.un; show A.units + 1 + 1 + 16 * k + 200 < _; omega⟩,r.g⟩
theorem cxNo {P:Program} {w:World} {outer:List Env} {H:Hp} {s s2:Shared} {e:Value} {p:Prop} (q:L2.CX P w outer H s (fun _ _ _=>False) e s2):p:=by
  obtain ⟨_,_,_,_,_,_,_,_,_,_,_,_,no⟩:=q
  exact no.elim
theorem ZkI {a kS:Addr} {e1:Nat} {vs:List Value} {P:PySem.Fin → Shared → Prop} (F:FnG X.prog X.w X.K X.mg X.base (L2.CX X.prog X.w) k f fd ps sp) (room:RoomG (k + 1) X.A) (hb:Binds X.K fd ps [])
    (I:Inv (at2 X) ((kS,seqObj "list" #[] 0) :: (a,seqObj "list" #[] e1) :: pins) σ H s) (big:X.s_0.heap.objs.size ≤ kS) (big2:X.s_0.heap.objs.size ≤ a) (ne:kS ≠ a) (np:∀ p ∈ X.pn ++ pins,p.1 ≠ kS ∧ p.1 ≠ a) (rv:Vals xs vs) (hz:vs.length ≤ sizeLine)
    (want:KsRun sp xs [] H fun ks H2=>∀ ys p,StOut ks xs ys → H2 p = none → Q (.ref p) (upd H2 p (.lst ys)))
    (h:∀ s2,EP X pins σ Q (.ref a) s2 → P (.done (.ret .none)) s2):wpAny (model X.prog X.w) X.A.in1.in1 (ksk_rest a (.ref f) false vs.toArray e1 (.ref kS)) P X.xe s:=by
  have z0:=hz
  rw [sizeLine_eq] at z0
  have okX:X.Ok:=⟨I.ok.mod,I.ok.kind,I.ok.glob,I.ok.blt,I.ok.above,I.ok.inj,I.ok.has,I.ok.cab,I.ok.hd,I.ok.frames,I.ok.stk,I.ok.exf,I.ok.bs,I.ok.bsz,I.ok.noex,I.ok.exfs,I.ok.funs,I.ok.frf⟩
  unfold ksk_rest
  refine wpAny_bind (wpAny_rule ?_)
  first
    | rw [List.forIn_toArray]
    | (rw [← Array.forIn_toList]; simp only [List.toList_toArray])
    | rw [← Array.forIn_toList]
  refine wpAny_bind (ksk_fold (fun i s2=>∃ H2 kA c,Inv (at2 X) ((kS,seqObj "list" kA c) :: (a,seqObj "list" #[] e1) :: pins) σ H2 s2 ∧ ∃ ks,IntsAre kA.toList ks ∧ ks.length = i ∧ KsRun sp (xs.drop i) ks H2 fun ks H3=>∀ ys p,StOut ks xs ys → H3 p = none → Q (.ref p) (upd H3 p (.lst ys))) vs 0 s
    ⟨H,#[],0,I,[],.nil,rfl,want⟩ ?turn ?last)
  case turn =>
    rintro j x s2 hx ⟨H2,kA,c,J,ks,hi,hl,w⟩
    simp only [Nat.zero_add] at hl w ⊢
    have hj:j < vs.length:=(List.getElem?_eq_some_iff.mp hx).1
    have hjx:j < xs.length:=by rw [rv.length]; exact hj
    have dx:xs.drop j = xs[j] :: xs.drop (j + 1):=List.drop_eq_getElem_cons hjx
    rw [dx] at w
    have rx:RelV xs[j] x:=by
      obtain ⟨u,q1,q2⟩:=rv.get (List.getElem?_eq_getElem hjx)
      rw [hx] at q1
      cases q1
      exact q2
    have zA:kA.size = j:=by
      have q:=hi.length
      rw [Array.length_toList] at q
      omega
    have run:=Fs.runG (X:=at2 X) (E:=fun _ _ _ _=>False) F (room2 room) hb (fun _ _ _ _ _ _ q=>cxNo q) J (.cons rx .nil) w
    refine wpAny_bind (wpAny_attempt (wpAny_mono run (fun v s3 got=>?_) fun _ _ hF=>hF.elim))
    obtain ⟨v0,H3,J3,rv0,n,rfl,w3⟩:=got
    obtain ⟨t2,rfl⟩:=rv0
    try dsimp only
    have pk:=J3.pin (kS,seqObj "list" kA c) (List.mem_append_right _ (.head _))
    have pa:=J3.pin (a,seqObj "list" #[] e1) (List.mem_append_right _ (.tail _ (.head _)))
    refine wpAny_bind (listUpdate_at pk.1 rfl ?_ (by rw [zA,sizeLine_eq]; omega) (Nat.le_trans (Nat.le_of_eq (Array.size_push ..)) (by rw [zA,sizeLine_eq]; omega)))
    have sb:=Heap.SameBut.update s3.heap kS (Obj.mapSeq (·.push (.int n t2)))
    have J4:=(unpin2 J3).turned (t':=s3.toks) (it:=kS) (fun b o q e=>(sb.2 b q).trans e) pk.2.1 pk.2.2.1 (.inr big) (fun y c2 e z=>?cells) (fun p hp=>(np p hp).1)
    case cells =>
      obtain ⟨v,o,e1,e2⟩:=J3.cell y c2 e
      rw [z,pk.1] at e1
      cases e1
      exact pk.2.2.2.2 v e2
    obtain ⟨c2,ek⟩:∃ c2,(s3.heap.update kS (Obj.mapSeq (·.push (.int n t2)))).get? kS = some (seqObj "list" (kA.push (.int n t2)) c2):=⟨_,get?_update_seq pk.1 (·.push (.int n t2))⟩
    refine wpAny_pure ⟨rfl,H3,kA.push (Value.int n t2),c2,J4.pins_of fun p hp=>?_,ks ++ [n],?_,by rw [List.length_append,hl]; rfl,w3⟩
    · rcases List.mem_cons.mp hp with rfl | hp
      · exact ⟨ek,pk.2.1,pk.2.2.1,pk.2.2.2.1,fun v q=>by cases q⟩
      · rcases List.mem_cons.mp hp with rfl | hp
        · exact ⟨(sb.2 a ne.symm).trans pa.1,pa.2.1,pa.2.2.1,pa.2.2.2.1,pa.2.2.2.2⟩
        · exact J4.pin p (List.mem_append_right _ hp)
    · have ea:(kA.push (Value.int n t2)).toList = kA.toList ++ [Value.int n t2]:=by simp
      rw [ea]
      exact ksk_snoc hi
  case last =>
    rintro s2 ⟨H2,kA,c,J,ks,hi,hl,w⟩
    rw [Nat.zero_add] at hl
    rw [Nat.zero_add,← rv.length,List.drop_length] at w
    have w2:∀ ys p,StOut ks xs ys → H2 p = none → Q (.ref p) (upd H2 p (.lst ys)):=w
    have pk:=J.pin (kS,seqObj "list" kA c) (List.mem_append_right _ (.head _))
    have pa:=J.pin (a,seqObj "list" #[] e1) (List.mem_append_right _ (.tail _ (.head _)))
    try dsimp only
    refine wpAny_bind (listItems_at pk.1 rfl ?_)
    refine sk_end pk.1 pa.1 ne hi hl hz fun g1 g2 out c2 b1 b2 ho so zo=>h _ ?_
    have noC:∀ (b:Addr) (o:Obj),s2.heap.get? b = some o → (∀ v,o.data ≠ .cell v) → ∀ y c2,(at2 X).env.cells.lookup y = some c2 → c2 ≠ b:=fun b o e nc y c2 e2 z=>by
      obtain ⟨v,o2,q1,q2⟩:=J.cell y c2 e2
      rw [z,e] at q1
      cases q1
      exact nc v q2
    have J4:=(unpin2 J).turned (t':=s2.toks) (it:=kS) (h':=g1) (fun b o q e=>(b1.2 b q).trans e) pk.2.1 pk.2.2.1 (.inr big) (noC kS _ pk.1 pk.2.2.2.2) (fun p hp=>(np p hp).1)
    obtain ⟨ys,so2,rys⟩:=ZjP rv so
    have hlen:ys.length = vs.length:=by rw [rys.length,Array.length_toList]; exact zo
    have J5:=J4.take (t':=s2.toks) (it:=a) (h':=g2) (o:=.lst ys) (fun b o q e=>(b2.2 b q).trans e) ⟨pa.2.1,pa.2.2.1,pa.2.2.2.1,.inr big2,noC a _ pa.1 pa.2.2.2.2,fun p hp=>(np p hp).2⟩ ⟨by rw [hlen]; exact hz,out.toList,c2,rys,by rw [Array.toArray_toList]; exact ho⟩
    exact ⟨.ref a,_,of2 okX J5,rfl,w2 ys a so2 pa.2.1⟩
theorem sk_run (F:FnG X.prog X.w X.K X.mg X.base (L2.CX X.prog X.w) k f fd ps sp) (room:RoomG (k + 1) X.A) (hb:Binds X.K fd ps []) (I:Inv X pins σ H s) (hs:SqL X.K H l xs)
    (want:KsRun sp xs [] H fun ks H2=>∀ ys p,StOut ks xs ys → H2 p = none → Q (.ref p) (upd H2 p (.lst ys))) :
    wpAny (model X.prog X.w) X.A (call (.builtin "sorted") [.ref l] [(Str.ofString "key",.ref f)]) (EP X pins σ Q) X.xe s:=by
  obtain ⟨vs,rv,hl,hz0⟩:=I.list hs
  have hz:vs.length ≤ sizeLine:=by rw [← rv.length]; exact hz0
  have z0:=hz
  rw [sizeLine_eq] at z0
  refine call_function_entry_kw kind_sorted plain_sorted entry_sorted (ksk_s1 _ _) ?_
  unfold Builtin.«sorted»
  refine wpAny_bind (m:=checkCount "sorted" 1 1 _) (wpAny_pure ?_)
  refine wpAny_bind (collect_list hl.isList ?_ hz)
  refine wpAny_bind (wpAny_newList ?_ hz)
  obtain ⟨g0,eg0⟩:∃ g0,(s.heap.push (seqObj "list" #[] 0)).update s.heap.objs.size (Obj.mapSeq (· ++ vs.toArray)) = g0:=⟨_,rfl⟩
  have zg0:g0.objs.size = s.heap.objs.size + 1:=by rw [← eg0,Heap.size_update,size_push']
  have k0:∀ b o,s.heap.get? b = some o → g0.get? b = some o:=fun b o q=>by
    rw [← eg0,Heap.get?_update_ne _ _ _ _ (Nat.ne_of_lt (Heap.lt_size q))]
    exact Heap.get?_push_of_some _ q
  rw [eg0]
  have oa:(g0.push (seqObj "list" vs.toArray 0)).get? g0.objs.size = some (seqObj "list" vs.toArray 0):=Heap.get?_push_size _ rfl
  refine wpAny_bind (wpAny_holding (wpAny_call_entry_kw slot_list_sort ⟨_,oa,rfl⟩ entry_list_sort ?_ (ksk_l1 _ _)))
  show wpAny (model X.prog X.w) X.A.in1.in1 (Builtin.«list.sort» ⟨[.ref g0.objs.size],[(Str.ofString "key",.ref f)]⟩) _ X.xe _
  rw [ksk_t1]
  unfold ksk_tree
  refine wpAny_bind (listItems_at oa rfl ?_)
  refine wpAny_bind (listUpdate_at oa rfl ?_ (by rw [List.size_toArray,sizeLine_eq]; omega) (Nat.zero_le _))
  obtain ⟨e1,oe⟩:∃ e1,((g0.push (seqObj "list" vs.toArray 0)).update g0.objs.size (Obj.mapSeq fun _=>(#[]:Array Value))).get? g0.objs.size = some (seqObj "list" #[] e1):=⟨_,get?_update_seq oa fun _=>#[]⟩
  refine wpAny_bind (seqEpoch_at oe rfl ?_)
  refine wpAny_bind (wpAny_newTuple ?_ (by show vs.length ≤ _; rw [sizeLine_eq]; omega))
  refine wpAny_bind (wpAny_newList ?_ (Nat.zero_le _))
  refine wpAny_holding ?_
  obtain ⟨g1,eg1⟩:∃ g1,((g0.push (seqObj "list" vs.toArray 0)).update g0.objs.size (Obj.mapSeq fun _=>(#[]:Array Value))).push (seqObj "tuple" vs.toArray 0) = g1:=⟨_,rfl⟩
  have zg1:g1.objs.size = s.heap.objs.size + 3:=by rw [← eg1,size_push',Heap.size_update,size_push',zg0]
  have k1:∀ b o,s.heap.get? b = some o → g1.get? b = some o:=fun b o q=>by
    rw [← eg1]
    refine Heap.get?_push_of_some _ ?_
    rw [Heap.get?_update_ne _ _ _ _ (Nat.ne_of_lt (by rw [zg0]; exact Nat.lt_succ_of_lt (Heap.lt_size q)))]
    exact Heap.get?_push_of_some _ (k0 b o q)
  have oa1:g1.get? g0.objs.size = some (seqObj "list" #[] e1):=by rw [← eg1]; exact Heap.get?_push_of_some _ oe
  have J:Inv (at2 X) pins σ H { s with heap:=g1.push (seqObj "list" #[] 0) }:=to2 (I.kept (t':=s.toks) fun b o q=>Heap.get?_push_of_some _ (k1 b o q))
  have f1:FpOk (at2 X) pins H g1.objs.size:=(to2 I).fpOk (by rw [zg1]; omega) (I.hok.fresh (by rw [zg1]; omega))
  have f2:FpOk (at2 X) pins H g0.objs.size:=(to2 I).fpOk (by rw [zg0]; omega) (I.hok.fresh (by rw [zg0]; omega))
  have J2:=pin2 J f1 f2 (o1:=seqObj "list" #[] 0) (o2:=seqObj "list" #[] e1) (Heap.get?_push_size _ rfl) (Heap.get?_push_of_some _ oa1) (fun v q=>by cases q) (fun v q=>by cases q)
  have szI:=I.sz
  have dif:g1.objs.size ≠ g0.objs.size:=by omega
  have fin:=ZkI (P:=fun fin s2=>∃ v,fin = .done (.ret v) ∧ EP X pins σ Q (.ref g0.objs.size) s2) F room hb J2 (show X.s_0.heap.objs.size ≤ _ by omega) (show X.s_0.heap.objs.size ≤ _ by omega) dif (fun p hp=>⟨f1.2.2.2.2.2 p hp,f2.2.2.2.2.2 p hp⟩) rv hz want (fun s2 q=>⟨_,rfl,q⟩)
  show wpAny _ _ (ksk_rest g0.objs.size (.ref f) false vs.toArray e1 (.ref (((g0.push (seqObj "list" vs.toArray 0)).update g0.objs.size (Obj.mapSeq fun _=>(#[]:Array Value))).push (seqObj "tuple" vs.toArray 0)).objs.size)) _ _ { s with heap:=(((g0.push (seqObj "list" vs.toArray 0)).update g0.objs.size (Obj.mapSeq fun _=>(#[]:Array Value))).push (seqObj "tuple" vs.toArray 0)).push (seqObj "list" #[] 0) }
  rw [eg1]
  refine wpAny_mono fin (fun fn s2 got=>?_) fun _ _ q=>q
  obtain ⟨v,rfl,q⟩:=got
  exact ⟨v,rfl,wpAny_pure ⟨_,rfl,q⟩⟩
end
end Rm
set_option maxHeartbeats 1000000
namespace Fs
open PySem PySem.Spec PyProof.Rows L2
section
variable {α β:Type}
def insK (p:Int × α):List (Int × α) → List (Int × α)
  | []=>[p]
  | q :: r=>if p.1 ≤ q.1 then p :: q :: r else q :: insK p r
def isrtK:List (Int × α) → List (Int × α)
  | []=>[]
  | p :: r=>insK p (isrtK r)
theorem Zfa (p:Int × α):∀ l,(insK p l).Perm (p :: l)
  | []=>.refl _
  | q :: r=>by
    unfold insK
    split
    · exact .refl _
    · exact ((Zfa p r).cons q).trans (List.Perm.swap p q r)
theorem ZcH:∀ l:List (Int × α),(isrtK l).Perm l
  | []=>.refl _
  | p :: r=>(Zfa p _).trans ((ZcH r).cons p)
theorem Ze9 {p:Int × α}:∀ {l:List (Int × α)},l.Pairwise (fun a b=>a.1 ≤ b.1) → (insK p l).Pairwise (fun a b=>a.1 ≤ b.1)
  | [],_=>by simp [insK]
  | q :: r,h=>by
    have hh:=List.pairwise_cons.mp h
    unfold insK
    split
    · rename_i le
      refine List.pairwise_cons.mpr ⟨fun x hx=>?_,h⟩
      rcases List.mem_cons.mp hx with rfl | hx
      · exact le
      · exact Int.le_trans le (hh.1 x hx)
    · rename_i le
      refine List.pairwise_cons.mpr ⟨fun x hx=>?_,Ze9 hh.2⟩
      rcases List.mem_cons.mp ((Zfa p r).mem_iff.mp hx) with rfl | hx
      · omega
      · exact hh.1 x hx
theorem Zdk:∀ l:List (Int × α),(isrtK l).Pairwise (fun a b=>a.1 ≤ b.1)
  | []=>.nil
  | p :: r=>Ze9 (Zdk r)
theorem Zfb (p:Int × α) (c:Int):∀ l:List (Int × α),(insK p l).filter (fun x=>x.1 == c) = (p :: l).filter (fun x=>x.1 == c)
  | []=>rfl
  | q :: r=>by
    unfold insK
    split
    · rfl
    · rename_i le
      have z:=Zfb p c r
      by_cases h1:p.1 = c
      · have h2:¬ q.1 = c:=by omega
        simp only [List.filter_cons,beq_iff_eq,h1,h2,if_true,if_false] at z ⊢
        exact z
      · simp only [List.filter_cons,beq_iff_eq,h1,if_false] at z ⊢
        rw [z]
theorem Zdl (c:Int):∀ l:List (Int × α),(isrtK l).filter (fun x=>x.1 == c) = l.filter (fun x=>x.1 == c)
  | []=>rfl
  | p :: r=>by
    unfold isrtK
    rw [Zfb,List.filter_cons,List.filter_cons,Zdl c r]
theorem Zei:∀ {l m:List (Int × α)},l.Pairwise (fun a b=>a.1 ≤ b.1) → m.Pairwise (fun a b=>a.1 ≤ b.1) → l.Perm m → (∀ c,l.filter (fun x=>x.1 == c) = m.filter (fun x=>x.1 == c)) → l = m
  | [],m,_,_,hp,_=>hp.symm.eq_nil.symm
  | x :: l,[],_,_,hp,_=>absurd hp.length_eq (by simp)
  | x :: l,y :: m,hl,hm,hp,hf=>by
    have hl2:=List.pairwise_cons.mp hl
    have hm2:=List.pairwise_cons.mp hm
    have le1:x.1 ≤ y.1:=by
      rcases List.mem_cons.mp (hp.mem_iff.mpr (List.mem_cons_self (a:=y) (l:=m))) with e | h
      · rw [e]; exact Int.le_refl _
      · exact hl2.1 y h
    have le2:y.1 ≤ x.1:=by
      rcases List.mem_cons.mp (hp.mem_iff.mp (List.mem_cons_self (a:=x) (l:=l))) with e | h
      · rw [e]; exact Int.le_refl _
      · exact hm2.1 x h
    have e1:x.1 = y.1:=Int.le_antisymm le1 le2
    have c:=hf x.1
    simp only [List.filter_cons,beq_self_eq_true,if_true,e1] at c
    have e:x = y:=(List.cons.inj c).1
    subst e
    congr 1
    refine Zei hl2.2 hm2.2 hp.cons_inv fun c=>?_
    have cc:=hf c
    simp only [List.filter_cons] at cc
    split at cc
    · exact (List.cons.inj cc).2
    · exact cc
theorem ZeW {R:α → β → Prop} {p:Int × α} {q:Int × β} (h:p.1 = q.1 ∧ R p.2 q.2):∀ {l:List (Int × α)} {m:List (Int × β)},Paired (fun a b=>a.1 = b.1 ∧ R a.2 b.2) l m → Paired (fun (a:Int × α) (b:Int × β)=>a.1 = b.1 ∧ R a.2 b.2) (insK p l) (insK q m)
  | _,_,.nil=>.cons h .nil
  | _,_,.cons (a:=a) (b:=b) r t=>by
    unfold insK
    rw [h.1,r.1]
    split
    · exact .cons h (.cons r t)
    · exact .cons r (ZeW h t)
theorem Zeu {R:α → β → Prop}:∀ {l:List (Int × α)} {m:List (Int × β)},Paired (fun a b=>a.1 = b.1 ∧ R a.2 b.2) l m → Paired (fun (a:Int × α) (b:Int × β)=>a.1 = b.1 ∧ R a.2 b.2) (isrtK l) (isrtK m)
  | _,_,.nil=>.nil
  | _,_,.cons r t=>ZeW r (Zeu t)
end
def keysD (F:List D → Out D):List D → Option (List Int)
  | []=>some []
  | d :: r=>match F [d] with
    | .ok (.v (.int k)) _=>(keysD F r).map (k :: ·)
    | _=>none
def srtK (ks:List Int) (ds:List D):List D:=(isrtK (ks.zip ds)).map Prod.snd
def sortKD (F:List D → Out D) (x:D):Option D:=(seqL x).bind fun ds=>if ds.all D.kept = true ∧ ds.length ≤ 100000 then (keysD F ds).map fun ks=>.n .lst .own (srtK ks ds) else none
section
variable {cl:Ec} {xf:Nat → List Str} {W:WX} {ws:Nat → Bool} {A A' L L' B:Addr → Prop} {H H':Hp} {δ δ':Sl} {σ σ':L2.St} {p b:Bool}
theorem key_sp {F:List D → Out D} {d:D} {v:V} {k:Int} {ios:Sl} {Q:VK} {E:XK} (ad:Ad cl A H) (h:Rp cl A L H false d v []) (e:F [d] = .ok (.v (.int k)) ios)
    (q:∀ A2 H2,Nx A A H A2 H2 → Ad cl A2 H2 → Q (.int k) H2):spF cl xf 1 F [v] H Q E:=by
  have h':Rp cl A A H true d v []:=(h.step (H':=H) (A':=A) (L':=A) (fun a o h n _=>⟨h,n⟩) (by simp) (by simp)).weak
  refine ⟨A,A,A,[d],⟨⟨[],[],by simp [Rps],by simp only [List.map_cons,List.map_nil,Rpo]; exact ⟨v,[],[],[],rfl,rfl,h',by simp⟩,by simp,by simp,by simp⟩,fun _ h=>h,fun _ h=>h,ad.1,ad.2⟩,rfl,?_⟩
  rw [e]
  intro w A2 H2 n j
  obtain ⟨f,g,k1,_⟩:=j.ex
  simp only [Rps,Rp] at k1
  obtain ⟨v0,vs0,f1,f2,e0,_,⟨_,rfl,_⟩,_⟩:=k1
  cases e0
  exact q A2 H2 n j.adt
theorem ks_run {F:List D → Out D} {R:List Int → Hp → Prop}:∀ {ds:List D} {xs:List V} {ks0 ks:List Int} {A:Addr → Prop} {H:Hp},Ad cl A H → Rps cl A L H false ds xs [] → keysD F ds = some ks →
    (∀ A2 H2,Nx A A H A2 H2 → Ad cl A2 H2 → R (ks0 ++ ks) H2) → Rm.KsRun (spF cl xf 1 F) xs ks0 H R
  | [],xs,ks0,ks,A,H,ad,h,e,q=>by
    simp only [Rps] at h
    rw [h.1]
    cases e
    have:=q A H (Nx.refl fun _ h=>h) ad
    rw [List.append_nil] at this
    exact this
  | d :: ds,xs,ks0,ks,A,H,ad,h,e,q=>by
    simp only [Rps] at h
    obtain ⟨v,vs',f1,f2,rfl,ef,h1,h2⟩:=h
    obtain ⟨rfl,rfl⟩:=List.append_eq_nil_iff.mp ef.symm
    unfold keysD at e
    split at e
    · rename_i k ios e1
      obtain ⟨ks',e2,rfl⟩:=Option.map_eq_some_iff.mp e
      refine key_sp ad h1 e1 fun A2 H2 n2 ad2=>⟨k,rfl,?_⟩
      refine ks_run (ks0:=ks0 ++ [k]) ad2 (h2.step (L':=L) n2.both (by simp) (by simp)) e2 fun A3 H3 n3 ad3=>?_
      have:=q A3 H3 (n2.trans (n3.weak fun a ha=>(n2.prot a ha).2)) ad3
      rw [List.append_assoc]
      exact this
    · cases e
theorem Zfv:∀ {ds:List D} {vs:List V} {fp:List Addr},Rps cl A L H false ds vs fp → fp = [] → Paired (fun d v=>Rp cl A L H false d v []) ds vs
  | [],vs,fp,h,_=>by simp only [Rps] at h; rw [h.1]; exact .nil
  | d :: ds,vs,fp,h,e=>by
    simp only [Rps] at h
    obtain ⟨v,vs',f1,f2,rfl,rfl,h1,h2⟩:=h
    obtain ⟨rfl,rfl⟩:=List.append_eq_nil_iff.mp e
    exact .cons h1 (Zfv h2 rfl)
theorem ZfA:∀ {ds:List D} {vs:List V},Paired (fun d v=>Rp cl A L H false d v []) ds vs → Rps cl A L H false ds vs []
  | _,_,.nil=>by simp [Rps]
  | _,_,.cons r t=>by simp only [Rps]; exact ⟨_,_,[],[],rfl,rfl,r,ZfA t⟩
theorem Zfy {α β:Type} {R:α → β → Prop}:∀ {ks:List Int} {l:List α} {m:List β},Paired R l m → Paired (fun (a:Int × α) (b:Int × β)=>a.1 = b.1 ∧ R a.2 b.2) (ks.zip l) (ks.zip m)
  | [],_,_,_=>by simp only [List.zip_nil_left]; exact .nil
  | k :: ks,_,_,.nil=>by simp only [List.zip_nil_right]; exact .nil
  | k :: ks,_,_,.cons r t=>by simp only [List.zip_cons_cons]; exact .cons ⟨rfl,r⟩ (Zfy t)
theorem Zfz {α β:Type} {R:α → β → Prop}:∀ {l:List (Int × α)} {m:List (Int × β)},Paired (fun (a:Int × α) (b:Int × β)=>a.1 = b.1 ∧ R a.2 b.2) l m → Paired R (l.map Prod.snd) (m.map Prod.snd)
  | _,_,.nil=>.nil
  | _,_,.cons r t=>.cons r.2 (Zfz t)
theorem ZkE {ks:List Int} {ds:List D} {vs ys:List V} (h:Rps cl A L H false ds vs []) (s:Rm.StOut ks vs ys):Rps cl A L H false (srtK ks ds) ys []:=by
  obtain ⟨ps,hp,rfl,hs,hf⟩:=s
  have e:ps = isrtK (ks.zip vs):=Zei hs (Zdk _) (hp.trans (ZcH _).symm) fun c=>by rw [hf c,Zdl]
  rw [e]
  exact ZfA (Zfz (Zeu (Zfy (Zfv h rfl))))
theorem Zj7 {F:List D → Out D}:NOp cl (rL1 (Rm.rSortK cl.K (spF cl xf 1 F))) (f1 (sortKD F)):=by
  intro p A L B H ts ws δ σ xs us z Q j hr e k
  unfold f1 at e
  split at e
  · obtain ⟨u,fp,rfl,h1⟩:=hr.one
    obtain ⟨ds,e1,e2⟩:=Option.bind_eq_some_iff.mp e
    split at e2
    · rename_i hl
      obtain ⟨ks,e3,rfl⟩:=Option.map_eq_some_iff.mp e2
      obtain ⟨a,vs,fp',rfl,h2,h3⟩:=h1.seqL e1
      have h4:Rps cl A L H false ds vs []:=h3.keptS hl.1
      refine ⟨a,vs,rfl,h2,ks_run (ks0:=[]) (L:=L) j.adt h4 e3 fun A2 H2 n2 ad2 ys p0 so hp=>?_⟩
      have gA:∀ a,L a → A a:=fun a h=>j.ba a (j.lb a h)
      have h5:Rps cl A2 L H2 false ds vs []:=h4.step n2.both (by simp) (by simp)
      have j2:Jt p cl A2 L B H2 [] [] δ σ:=by
        obtain ⟨g,g1,g2,g3⟩:=j.drop0
        have gg:∀ a ∈ g,A a:=fun a ha=>(g1.inA a ha).1
        exact ⟨⟨[],g,by simp [Rps],g1.step n2.both (fun a ha=>n2.prot a (gg a ha)) (fun a h=>⟨(n2.prot a (gA a h)).1,h⟩),by simpa using g2,by simp,g3⟩,j.lb,fun a h=>(n2.prot a (j.ba a h)).2,ad2.1,ad2.2⟩
      have hk:(srtK ks ds).all D.kept = true:=by
        rw [List.all_eq_true]
        intro d hd
        obtain ⟨q,hq,rfl⟩:=List.mem_map.mp hd
        exact List.all_eq_true.mp hl.1 _ (List.of_mem_zip ((ZcH _).mem_iff.mp hq)).2
      have g:=(j2.keptL hk (ZkE h5 so)).alloc (k:=.lst) (o:=.lst ys) hp rfl
      exact k _ _ _ ((n2.weak j.ba).trans g.1) g.2
    · cases e2
  · cases e
end
section
variable {cl:Ec} {xf:Nat → List Str} {X:Cx} {a:Expr} {x:Str} {pp kp fp pos:Pos}
theorem Zkw {F:List D → Out D} {k m:Nat} (hK:X.K = cl.K) (hm:X.mg "sorted" = none) (Fk:Fn cl xf X.prog X.w X.K X.mg X.base x k 1 F) (hr:RoomG m X.A) (hkm:k + 1 ≤ m) (hg:Gl X "sorted":=by rfl) (hgx:Gl X x:=by rfl) (hdb:(x == ("__debug__":Str)) = false:=by decide)
    (hs:starEach [a] X.env = (false,eval a X.env) :: starEach [] X.env:=by rfl)
    (he:backTo pos (starEach [a] X.env) = (false,eval a X.env) :: backTo pos (starEach [] X.env):=by rfl) (hpl:(backTo pos (starEach [a] X.env)).any (·.1) = false:=by rfl)
    (hall:(backToKw pos (keywordEach [⟨some "key",.Name x fp,kp⟩] X.env)).all (·.1.isSome) = true:=by rfl) (hnone:(backToKw pos (keywordEach [⟨some "key",.Name x fp,kp⟩] X.env)).any (·.1.isNone) = false:=by rfl) (hks:(backToKw pos (keywordEach [⟨some "key",.Name x fp,kp⟩] X.env)).filterMap (·.1) = [Str.ofString "key"]:=by rfl) :
    BN X (.Call (.Name "sorted" pp) [a] [⟨some "key",.Name x fp,kp⟩] pos) [a] (rL1 (Rm.rSortK cl.K (spF cl xf 1 F))):=fun tes h=>by
  cases h with
  | cons q1 h=>cases h with
    | nil =>
      obtain ⟨f,fd,ps,hF,hmx,hk,hb⟩:=Fk.ex
      have h9:L2.PA X [a] _:=pa_cons q1 pa_nil hs
      have h8:PK X [⟨some "key",.Name x fp,kp⟩] (tCons (tC (.ref f)) tNil):=pk_cons (pe_glob (pos:=fp) hgx hmx (v:=.ref f) rfl hdb) pk_nil
      refine ⟨fun pins s σ H Q I hq=>?_⟩
      refine wpAny_Call_Name_kw (ld_blt I hg hm PyProof.Rows.boot_sorted ?_ (by decide) (by decide))
      refine PyProof.Rows.callWith_kw (thn (h9.run pos pins s σ H (fun vs H1=>rL1 (Rm.rSortK cl.K (spF cl xf 1 F)) vs H1 Q) I hq) fun us s1 got=>?_) he hpl hall hnone
      obtain ⟨vs,H1,I1,r1,q⟩:=got
      refine thn (h8.run pos pins s1 σ H1 (fun zs H2=>zs = [V.ref f] ∧ rL1 (Rm.rSortK cl.K (spF cl xf 1 F)) vs H2 Q) I1 ⟨rfl,q⟩) fun ws s2 got2=>?_
      obtain ⟨zs,H2,I2,r2,rfl,q2⟩:=got2
      rw [hks]
      obtain ⟨w1,rfl,e1⟩:=vals1 r2
      obtain rfl:w1 = Value.ref f:=e1
      unfold rL1 at q2
      split at q2
      · obtain ⟨l,xs,rfl,hl,want⟩:=q2
        obtain rfl:=Vals.ref1 r1
        exact Rm.sk_run hF (hr.mono hkm) hb I2 (by rw [hK]; exact hl) want
      · exact q2.elim
end
def dsForF (i c:Nat) (f:Str) (w:Wk) (tg:D → Sl → Option Sl) (body:DS):DS:=fun δ=>match ((δ[i]?).join).bind (fldD c f) with
  | some (.n (.dct ks) fl xs)=>if fl = .own then .bad else (match itD w ks xs with
    | some its=>noXc (loop tg body its δ)
    | none=>.bad)
  | _=>.bad
section
variable {cl:Ec} {xf:Nat → List Str} {W:WX} {ws:Nat → Bool} {A A' L L' B:Addr → Prop} {H H':Hp} {δ δ':Sl} {σ σ':L2.St} {t:TS} {c0:Nat} {f:Str}
abbrev tFl (K:PySem.W.Frag) (f:Str) (i:Nat):TE:=tUn (rFld K f) (tVar i)
theorem ZgY {K:PySem.W.Frag} {i:Nat} {t C dx:Addr} {fs:List (Str × V)} {v:V} {Q:VK} (hc:Cls K C) (hn:NoAttr K C f) (hv:σ[i]? = some (some (.ref t))) (ht:H t = some (.ins C dx fs)) (e:fs.lookup f = some v) (q:Q v H):tFl K f i σ H Q :=
  ⟨_,hv,t,C,dx,fs,v,rfl,ht,hc,hn,e,q⟩
theorem ZhS {K:PySem.W.Frag} {w:Wk} {i:Nat} {t C dx a:Addr} {fs:List (Str × V)} {od:Obj} {kvs:List (Key × V)} {R:It → Hp → Prop} (hc:Cls K C) (hn:NoAttr K C f) (hv:σ[i]? = some (some (.ref t))) (ht:H t = some (.ins C dx fs)) (e:fs.lookup f = some (.ref a)) (h:H a = some (.frz od (.dK kvs))) (r:R (Jw w a od kvs) H):iWk w (tFl K f i) σ H R:=by
  cases w with
  | ks=>exact ZgY hc hn hv ht e ⟨a,od,rfl,.inl ⟨kvs,h,r⟩⟩
  | vs=>exact ZgY hc hn hv ht e ⟨a,od,kvs,rfl,h,r⟩
  | its=>exact ZgY hc hn hv ht e ⟨a,od,kvs,rfl,h,r⟩
theorem ZkB {w:Wk} {i:Nat} {g:TG} {tg:D → Sl → Option Sl} {body:DS} (hC:Cls cl.K (cl.c c0)) (hA:NoAttr cl.K (cl.c c0) f) (hg:SG cl ws g tg) (hb:SS cl xf W ws t body):SS cl xf W ws (tOr (tFor (iWk w (tFl cl.K f i)) g t) (tLock (tFor (iWk w (tFl cl.K f i)) g t))) (dsForF i c0 f w tg body):=fun A L B H δ σ E j k=>by
  unfold dsForF at k
  split at k
  · rename_i ks fl xs e9
    split at k
    · exact k.elim
    · rename_i hf
      split at k
      · rename_i its e2
        obtain ⟨x0,e1,e0⟩:=Option.bind_eq_some_iff.mp e9
        unfold fldD at e0
        split at e0
        · split at e0
          · rename_i c' fs w0 ys hcc
            subst hcc
            obtain ⟨f0,g0,_,h2,_,_,_⟩:=j.ex
            obtain ⟨v0,f1,hv,hrp0,_⟩:=h2.get (join_some e1)
            obtain ⟨t0,o0,vs0,fp0,rfl,ho0,⟨_,dx,rfl⟩,hr0,_⟩:=hrp0.node
            obtain ⟨v,f3,g1,hrp,_⟩:=hr0.lkS e0
            obtain ⟨a,vs,rfl,hl,ho,ha,hr⟩:=hrp.dctN hf
            have hBa:B a ∨ ¬ A a:=ha.elim (fun z=>.inl (j.lb a z)) .inr
            rcases ho with ho | ⟨ob,ho⟩
            · refine .inr ⟨a,_,ho,trivial,fun od=>?_⟩
              have S:Swp cl a (.dK (ks.zip vs)) (.frz od (.dK (ks.zip vs))) H:=Swp.lock ho
              have j1:=j.swapO S hBa
              have hr1:=hr.swap S (by simp)
              have h0':upd H a (.frz od (.dK (ks.zip vs))) t0 = some (.ins (cl.c c') dx (fs.zip vs0)):=by
                have ne:t0 ≠ a:=fun e=>by rw [e,ho] at ho0; cases ho0
                rw [upd_ne ne]
                exact ho0
              refine ZhS hC hA hv h0' g1 upd_same (ZhT hg hb j1 (Zje j.lb (fun A1 H1 n=>(Nx.at0 S hBa n).1) hl hr1 e2) ?_)
              cases e4:loop tg body its δ with
              | bad=>rw [e4] at k; exact k
              | exc c xs s=>rw [e4] at k; exact k.elim
              | ok f s =>
                rw [e4] at k
                have key:∀ {A2 H2 us ys} {σ2:L2.St},Nx A B (upd H a (.frz od (.dK (ks.zip vs)))) A2 H2 → Jt false cl A2 L B H2 us ys s σ2 → H2 a = some (.frz od (.dK (ks.zip vs))) ∧ Nx A B H A2 (upd H2 a (.dK (ks.zip vs))) ∧ Jt false cl A2 L B (upd H2 a (.dK (ks.zip vs))) us ys s σ2:=fun n2 j2=>by
                  obtain ⟨q1,q2⟩:=Nx.at0 S hBa n2
                  exact ⟨q1,n2.swapO S,j2.swapO (Swp.unlock q1) q2⟩
                cases f with
                | nx=>exact fun A2 H2 σ2 n2 k2 j2=>⟨(key n2 j2).1,k A2 _ σ2 (key n2 j2).2.1 k2 (key n2 j2).2.2⟩
                | bk=>exact fun A2 H2 σ2 n2 k2 j2=>⟨(key n2 j2).1,k A2 _ σ2 (key n2 j2).2.1 k2 (key n2 j2).2.2⟩
                | ct=>exact fun A2 H2 σ2 n2 k2 j2=>⟨(key n2 j2).1,k A2 _ σ2 (key n2 j2).2.1 k2 (key n2 j2).2.2⟩
                | rt d=>exact fun w A2 H2 σ2 n2 k2 j2=>⟨(key n2 j2).1,k w A2 _ σ2 (key n2 j2).2.1 k2 (key n2 j2).2.2⟩
            · refine .inl (ZhS hC hA hv ho0 g1 ho (ZhT hg hb j (Zje j.lb (fun A1 H1 n=>?_) hl hr e2) ?_))
              · rcases hBa with q | q
                · exact (n.prot a q).1.trans ho
                · exact n.keep a _ ho q NT.frz
              · cases e4:loop tg body its δ with
                | bad=>rw [e4] at k; exact k
                | exc c xs s=>rw [e4] at k; exact k.elim
                | ok f s=>rw [e4] at k; exact k
          · cases e0
        · cases e0
      · exact k.elim
  · exact k.elim
end
section
variable {cl:Ec} {xf:Nat → List Str} {W:WX} {ws:Nat → Bool} {X:Cx} {tg:Expr} {pos pos' pos2 apos fpos:Pos} {body:List Stmt} {d:DS} {gt:D → Sl → Option Sl}
theorem ZkU (i:Nat) {f x:Str} {c0:Nat} (hK:X.K = cl.K) (hC:Cls cl.K (cl.c c0)) (hA:NoAttr cl.K (cl.c c0) f) (hg:Rg cl X ws tg gt) (hb:Rb cl xf X W ws body d) (hp:PassesOwn (model X.prog X.w) X.A X.env X.xe)
    (hN:X.N[i]? = some x:=by rfl) (hv:Vis X.env.scope x:=by first | exact Or.inl rfl | exact Or.inr (Or.inl rfl) | exact Or.inr (Or.inr rfl)) (hd:(x == ("__debug__":Str)) = false:=by decide) (hcd:(x == ("__classdict__":Str)) = false:=by decide) (hc:X.calm = true:=by rfl)
    (hab:attributeBase (.Name x pos) f X.env (eval (.Name x pos) X.env) = eval (.Name x pos) X.env:=by rfl)
    (hbase:attributeBase (.Attribute (.Name x pos) f fpos) "values" X.env (eval (.Attribute (.Name x pos) f fpos) X.env) = eval (.Attribute (.Name x pos) f fpos) X.env:=by rfl) (hline:(apos.endLine == pos2.line) = true:=by rfl)
    (hs:∀ y,foldedSetIterable (.Call (.Attribute (.Attribute (.Name x pos) f fpos) "values" apos) [] [] pos2) X.env y = pure y:=by intro _; rfl) :
    Rs cl xf X W ws (.For tg (.Call (.Attribute (.Attribute (.Name x pos) f fpos) "values" apos) [] [] pos2) body [] pos') (dsForF i c0 f .vs gt d):=by
  obtain ⟨g,q3,q4⟩:=hg
  obtain ⟨tb,q5,q6⟩:=hb
  have px:=o_fld (f:=f) (pos:=fpos) hab _ (pe_var hN hv hd hcd)
  rw [hK] at px
  have h:=ps_for (pos:=pos') hp hc (pi_values px hbase hline) q3 q5 hs
  exact ⟨_,ps_or h (ps_lock h),ZkB (w:=.vs) (i:=i) hC hA q4 q6⟩
end
def Zeq (i:Nat) (wr:Nat → Bool) (ds:DS):DS:=fun δ=>match (δ[i]?).join with
  | some d=>if d.free then Zgb i wr ds δ else ds δ
  | none=>.bad
section
variable {cl:Ec} {xf:Nat → List Str} {W:WX} {ws:Nat → Bool} {X:Cx} {t:TS} {st:Stmt} {d:DS}
theorem ZjU {i:Nat} {wr:Nat → Bool} {ds:DS} (h1:SS cl xf W ws t (Zgb i wr ds)) (h2:SS cl xf W ws t ds):SS cl xf W ws t (Zeq i wr ds):=fun A L B H δ σ E j k=>by
  unfold Zeq at k
  split at k
  · split at k
    · exact h1 A L B H δ σ E j k
    · exact h2 A L B H δ σ E j k
  · exact k.elim
theorem ZjQ {ws':Nat → Bool} {ds:DS} (hw:∀ m,ws m = false → ws' m = false) (h:SS cl xf W ws' t ds):SS cl xf W ws t ds:=fun A L B H δ σ E j k=>by
  refine h A L B H δ σ E j ?_
  cases e:ds δ with
  | bad=>rw [e] at k; exact k
  | exc c xs s=>rw [e] at k; exact fun d vs A2 H2 σ2 n q=>k d vs A2 H2 σ2 n (q.weak hw)
  | ok f s =>
    rw [e] at k
    cases f with
    | nx=>exact fun A2 H2 σ2 n q=>k A2 H2 σ2 n (q.weak hw)
    | bk=>exact fun A2 H2 σ2 n q=>k A2 H2 σ2 n (q.weak hw)
    | ct=>exact fun A2 H2 σ2 n q=>k A2 H2 σ2 n (q.weak hw)
    | rt d=>exact fun v A2 H2 σ2 n q=>k v A2 H2 σ2 n (q.weak hw)
theorem ZkS (i:Nat) (wr:Nat → Bool) (hs:∀ k,ws k = false → wr k = false) (h:Rs cl xf X W (lwr i wr) st d):Rs cl xf X W ws st (Zeq i wr d):=by
  obtain ⟨t,q1,q2⟩:=h
  exact ⟨t,q1,ZjU (ZjT (fun k hk=>by simp [lwr,hs k hk]) (by simp [lwr]) (fun k hk=>by simp [lwr,hk]) q2) (ZjQ (fun k hk=>by simp [lwr,hs k hk]) q2)⟩
end
end Fs
namespace Lw
open PySem PySem.Spec PyProof.Rows L2 Fs
def ZbA:DS:=(dsRet (dN (f1 listD) [.k (pUn (fldD 36 "known") (pVar 0))]))
def Zp:List D → Out D:=runF 1 [false] ZbA
def Z6:DS:=(dsSeq (dsIf (dtOr (dtNot (dtV (dN (f1 (isiD "str")) [.k (pVar 1)]))) (dtV (dN (f2 notinD) [.k (pVar 1),.k (pUn (fldD 36 "known") (pVar 0))]))) (ZbP 3 1 (daCons (dP (pVar 1)) daNil)) dsNext) (dsRet (dP (pOp ixD (pUn (fldD 36 "known") (pVar 0)) (pVar 1)))))
def Zq:List D → Out D:=runF 2 [false,false] Z6
def ZR:DS:=(dsSeq (dsIf (dtOr (dtNot (dtV (dN (f1 (isiD "str")) [.k (pVar 1)]))) (dtV (dN (f2 notinD) [.k (pVar 1),.k (pUn (fldD 36 "held") (pVar 0))]))) (ZbP 3 1 (daCons (dP (pVar 1)) daNil)) dsNext) (dsRet (dP (pOp ixD (pUn (fldD 36 "held") (pVar 0)) (pVar 1)))))
def Zn:List D → Out D:=runF 2 [false,false] ZR
def Zci:DS:=(dsSeq (dsAsg (dP (pC .non)) (tgN 3)) (dsSeq (dsTry (fun c=>[3].contains c) (dsIf (dtV (dN (f2 eqD) [.k (pVar 1),.k (pC (.int 0))])) (dsAsg (dF mkTup (daCons (dP (pC (.str "told"))) (daCons (dCall Zq (daLend (pRc 36 "row" (pVar 0)) (daLend (pVar 2) daNil))) daNil))) (tgN 3)) (dsAsg (dF mkTup (daCons (dP (pC (.str "told"))) (daCons (dCall Zn (daLend (pRc 36 "whose" (pVar 0)) (daLend (pVar 2) daNil))) daNil))) (tgN 3))) [⟨(fun c=>[3].contains c),some 4,fun xs=>(dsAsg (dF mkTup (dL (lCons (pC (.str "none")) (lCons (fun _=>xs[0]?) (fun _=>some []))))) (tgN 3))⟩,⟨(fun c=>[3].contains c),none,fun xs=>(dsAsg (dF mkTup (dL (lCons (pC (.str "other")) (lCons (pC .non) (fun _=>some []))))) (tgN 3))⟩]) (dsRet (dMv 3))))
def ZH:List D → Out D:=runF 5 [false,false,false] Zci
def Zb0:DS:=(dsSeq (dsAsg (dComp true [4] (diP (itA true) (pVar 1)) (tgN 4) dtYes (dP (pOp ixD (pVar 4) (pC (.int 0))))) (tgN 3)) (dsSeq (dsAsg (dComp true [6] (diD (itA true) (dCall Zd (daLend (pVar 1) daNil))) (tgN 6) dtYes (dP (pOp ixD (pVar 6) (pC (.int 0))))) (tgN 5)) (dsSeq (dsAsg (dF mkLst daNil) (tgN 7)) (dsSeq (dsFor (diP (itA false) (pVar 1)) (tgN 4) (dsDrop (dMut (plV 7) "list" ZcA (daCons (dComp true [8] (diD itR (dP (pOp ixD (pVar 4) (pC (.int 5))))) (tgN 8) dtYes (dF mkTup (daCons (dP (pOp ixD (pVar 4) (pC (.int 0)))) (daCons (dP (pVar 8)) daNil)))) daNil)))) (dsSeq (dsFor (diD itR (dP (pC (.int 2)))) (tgN 9) (dsSeq (dsAsg (dF mkTup (daCons (dP (pC (.str "none"))) (daCons (dP (pVar 2)) daNil))) (tgN 10)) (dsSeq (dsIf (dtAnd (dtV (dN (f2 eqM) [.k (pVar 9),.k (pC (.int 0))])) (dtAnd (dtV (dN (f1 (isiD "str")) [.k (pVar 2)])) (dtV (dN (f2 inD) [.k (pVar 2),.k (pVar 3)])))) (dsAsg (dF mkTup (daCons (dP (pC (.str "told"))) (daCons (dN (f2 ixK) [.k (pVar 1),.v (dN indexX [.k (pUn (tyF "list") (pVar 3)),.k (pVar 2)])]) daNil))) (tgN 10)) dsNext) (dsSeq (dsIf (dtAnd (dtV (dN (f2 eqM) [.k (pVar 9),.k (pC (.int 1))])) (dtAnd (dtV (dN (f1 (isiD "str")) [.k (pVar 2)])) (dtV (dN (f2 inD) [.k (pVar 2),.k (pVar 5)])))) (dsAsg (dF mkTup (daCons (dP (pC (.str "told"))) (daCons (dN (f2 ixK) [.k (pVar 7),.v (dN indexX [.k (pUn (tyF "list") (pVar 5)),.k (pVar 2)])]) daNil))) (tgN 10)) dsNext) (dsSeq (dsAsg (dCall ZH (daLend (pVar 0) (daLend (pVar 9) (daLend (pVar 2) daNil)))) (tgN 11)) (dsIf (dtOr (dtV (dN (f2 neM) [.k (pVar 11),.k (pVar 10)])) (dtV (dN (f2 neM) [.v (dN (f1 (isiD "bool")) [.k (pOp ixD (pVar 11) (pC (.int 1)))]),.v (dN (f1 (isiD "bool")) [.k (pOp ixD (pVar 10) (pC (.int 1)))])]))) (dsRet (dP (pC (.bl false)))) dsNext)))))) (dsRet (dP (pC (.bl true)))))))))
def Z5:List D → Out D:=runF 12 [false,false,false] Zb0
def Zc2:DS:=(dsRet (dP (pOp ixD (pVar 0) (pC (.int 1)))))
def ZA:List D → Out D:=runF 1 [false] Zc2
def Zbr:DS:=(dsSeq (dsAsg (dF mkLst daNil) (tgN 1)) (dsSeq (Zeq 0 (fun k=>[2].contains k) (dsForF 0 36 "known" .vs (tgN 2) (dsDrop (dMut (plV 1) "list" ZcA (daCons (dCall Zh (daLend (pVar 2) daNil)) daNil))))) (dsRet (dCall (mkF 20 Zm) (daCons (dN (f1 (sortKD ZA)) [.k (pVar 1)]) daNil)))))
def Zf:List D → Out D:=runF 3 [false] Zbr
def Zcb:DS:=(dsSeq (dsAsg (dCall Zd (daLend (pVar 0) daNil)) (tgN 1)) (dsSeq (dsAsg (dF mkLst daNil) (tgN 2)) (dsSeq (dsFor (diD itR (dP (pC (.int 200)))) (tgN 3) (dsDrop (dMut (plV 2) "list" ZcA (daCons (dComp true [4] (diP (itA true) (pVar 1)) (tgN 4) (dtV (dN (f2 eqD) [.k (pOp ixD (pVar 4) (pC (.int 1))),.k (pVar 3)])) (dP (pVar 4))) daNil)))) (dsRet (dMv 2)))))
def ZB:List D → Out D:=runF 5 [false] Zcb
def ZbI:DS:=(dsSeq (dsIf (dtOr (dtV (dN (f2 neD) [.v (dCall Zi (daLend (pRc 36 "told" (pVar 1)) daNil)),.v (dN (f1 tupD) [.k (pVar 2)])])) (dtOr (dtNot (dtV (dN (f1 (isiD "tuple")) [.v (dCall Zi (daLend (pRc 36 "told" (pVar 1)) daNil))]))) (dtNot (dtV (dN (f1 (isiD "list")) [.v (dCall Zp (daLend (pRc 36 "names" (pVar 1)) daNil))]))))) (dsRet (dP (pC (.bl false)))) dsNext) (dsSeq (dsAsg (dCall Zp (daLend (pRc 36 "names" (pVar 1)) daNil)) (tgN 3)) (dsSeq (dsIf (dtV (dN (f2 neD) [.k (pVar 3),.v (dComp true [4] (diP (itA true) (pVar 2)) (tgN 4) dtYes (dP (pOp ixD (pVar 4) (pC (.int 0)))))])) (dsRet (dP (pC (.bl false)))) dsNext) (dsSeq (dsDrop (dApp 3 (dP (pC (.str "late"))))) (dsSeq (dsAsg (dN (f2 addA) [.v (dComp true [4] (diP (itA true) (pVar 2)) (tgN 4) dtYes (dP (pOp ixD (pVar 4) (pC (.int 0))))),.v (dComp true [6] (diD (itA true) (dCall Zd (daLend (pVar 2) daNil))) (tgN 6) dtYes (dP (pOp ixD (pVar 6) (pC (.int 0)))))]) (tgN 5)) (dsSeq (dsFor (diD (itA true) (dNI (f2 addA) [.l 5,.v (dF mkLst (daCons (Ze Zbd [.o 0]) (daCons (Ze Zbd [.o 0]) (daCons (dP (pC (.str "zzzzz9"))) (daCons (dF mkLst (daCons (dP (pC (.str "a"))) daNil)) (daCons (dP (pC (.str "a0"))) daNil))))))])) (tgN 7) (dsIf (dtNot (dtV (dCall Z5 (daLend (pVar 1) (daLend (pVar 2) (daLend (pVar 7) daNil)))))) (dsRet (dP (pC (.bl false)))) dsNext)) (dsRet (dAnd (dN (f1 (isoD [(20,true)])) [.v (dCall Zf (daLend (pRc 36 "pieces" (pVar 1)) daNil))]) (dN (f2 eqD) [.v (dCall Zj (daCons (dRc 20 "told" (dCall Zf (daLend (pRc 36 "pieces" (pVar 1)) daNil))) daNil)),.v (dN (f1 tupD) [.v (dCall ZB (daLend (pVar 2) daNil))])])))))))))
def ZM:List D → Out D:=runF 8 [true,false,false] ZbI
def Zfl:DS:=(dsSeq (dsFor (diD itR (dN (f2 maxD) [.k (pC (.int 3)),.v (dN (f2 minD) [.v (dN (f1 lenD) [.k (pVar 0)]),.k (pC (.int 12))])])) (tgN 1) (dsSeq (dsAsg (dCall Zb4 (daCons (dCall ZbM (daLend (pVar 0) (daLend (pVar 1) daNil))) daNil)) (tgN 2)) (dsSeq (dsAsg (Ze ZL [.o 2,.v (dP (pC (.int 6)))]) (tgN 3)) (dsSeq (dsAsg (Ze ZL [.o 2,.v (dP (pC (.int 2)))]) (tgN 4)) (dsSeq (dsAsg (dN (f1 listD) [.k (pVar 3)]) (tgN 5)) (dsSeq (dsAsg (dNI (f2 ixK) [.v (dF mkLst (daCons (dCall (mkF 36 Zb) (daLend (pVar 5) daNil)) (daCons (dCall (mkF 36 Zb) (daCons (dFr (dFr (dN (f1 tupD) [.k (pVar 5)]))) daNil)) daNil))),.v (Ze Za [.o 2,.v (dP (pC (.int 2)))])]) (tgN 6)) (dsSeq (dsAsg (dCall (mkF 36 Zb) (daLend (pVar 4) daNil)) (tgN 7)) (dsSeq (dsDrop (dApp 5 (dF mkTup (daCons (dP (pC (.str "zz"))) (daCons (dP (pC (.int 0))) (daCons (dP (pC (.int 1))) (daCons (dP (pC (.int 1))) (daCons (dP (pC (.int 1))) (daCons (dP (pC (.int 1))) daNil))))))))) (dsSeq (dsIf (dtAnd (dtV (dNI (f2 eqD) [.v (Ze Za [.o 2,.v (dP (pC (.int 2)))]),.v (dP (pC (.int 0)))])) (dtV (dN (f2 neD) [.v (dCall Zj (daCons (dRc 20 "told" (dCall Zf (daLend (pRc 36 "pieces" (pVar 6)) daNil))) daNil)),.v (dN (f1 tupD) [.v (dCall ZB (daLend (pVar 3) daNil))])]))) (dsRet (dP (pC (.bl false)))) dsNext) (dsIf (dtOr (dtNot (dtV (Ze ZM [.o 2,.l 6,.l 3]))) (dtOr (dtNot (dtV (Ze ZM [.o 2,.l 7,.l 4]))) (dtV (dN (f2 neD) [.v (dCall Zi (daLend (pRc 36 "told" (pVar 6)) daNil)),.v (dN (f1 tupD) [.k (pVar 3)])])))) (dsRet (dP (pC (.bl false)))) dsNext)))))))))) (dsRet (dAnd (dN (f2 eqD) [.v (dCall Zj (daCons (dRc 20 "told" (dCall Zf (daCons (dRc 36 "pieces" (dCall (mkF 36 Zb) (daCons (dFr (dF mkLst daNil)) daNil))) daNil))) daNil)),.v (dF mkTup daNil)]) (dN (f2 eqD) [.v (dCall Zi (daCons (dRc 36 "told" (dCall (mkF 36 Zb) (daCons (dFr (dF mkTup daNil)) daNil))) daNil)),.v (dF mkTup daNil)]))))
def ZcU:List D → Out D:=runF 8 [false] Zfl
end Lw
set_option maxHeartbeats 4000000
namespace Lw
open PySem PySem.Spec PyProof.Rows L2 Fs
def Zet:List Str:=["_law_cell_here"]
def ZdQ:List Str:=["_law_box_here","_law_many","_law_digit","_law_number"]
def Zb1:List Str:=["_law_box_here","_law_name","_law_every","_law_times","_law_window","_law_first"]
def Zcj:List Str:=["_law_box_here","_law_letters","_law_signs","_law_k","_law_head"]
def ZbG:List Str:=["_law_rows","_law_found","_law_name","_law_first","_law_window","_law_length","_law_every","_law_times","_law_k"]
def ZbU:List Str:=["_law_box_here","_law_most","_law_rows","_law_k","_law_row","_law_names","_law_piece","_law_one"]
def Zeb:List Str:=["thing","sign"]
def Zes:List Str:=["thing"]
def ZdO:List Str:=["thing","low","high"]
def ZdN:List Str:=["row","name","first","window","length","every","times","found","number","start"]
def ZdM:List Str:=["known","row","word","low","high","thing"]
def ZbC:List Str:=["held","row","fresh","piece","name"]
def Zb2:List Str:=["self","rows","at","row","why","number","piece"]
def ZdR:List Str:=["_law_script","_law_k"]
def ZcZ:List Str:=["self"]
def ZcY:List Str:=["self"]
def ZcE:List Str:=["self"]
def Zdp:List Str:=["_law_box_here","_law_some"]
def Zdr:List Str:=["self","name"]
def ZcD:List Str:=["self","name"]
def Zdq:List Str:=["_law_series_here","_law_way","_law_thing_here","_law_told","e"]
def Z7:List Str:=["_law_series_here","_law_rows","_law_thing_here","_law_names","_law_row","_law_pieces","_law_piece","_law_numbers","_law_k","_law_way","_law_due","_law_told"]
def ZcC:List Str:=["row"]
def ZbT:List Str:=["known","row"]
def Zfo:List Str:=["row"]
def ZdP:List Str:=["rows","found","at","row","why"]
def Zb3:List Str:=["self","rows"]
def Zfn:List Str:=["piece"]
def Zck:List Str:=["self","found","row"]
def ZbV:List Str:=["_law_rows","_law_pieces","_law_found","_law_turn","_law_piece"]
def ZbL:List Str:=["_law_box_here","_law_series_here","_law_rows","_law_found","_law_row","_law_things","_law_piece","_law_thing_here"]
def N_law:List Str:=["_law_script","_law_k","_law_box_here","_law_rows","_law_other","_law_handed","_law_series_here","_law_beside"]
structure TxW (cl:Ec) (mg:Str → Option Value):Prop where
  f_all:mg "all" = none
  f_bool:mg "bool" = none
  f_enumerate:mg "enumerate" = none
  f_int:mg "int" = none
  f_isinstance:mg "isinstance" = none
  f_len:mg "len" = none
  f_list:mg "list" = none
  f_max:mg "max" = none
  f_min:mg "min" = none
  f_range:mg "range" = none
  f_set:mg "set" = none
  f_sorted:mg "sorted" = none
  f_str:mg "str" = none
  f_tuple:mg "tuple" = none
  f_zip:mg "zip" = none
  c_FIGURES:∃ u,mg "FIGURES" = some u ∧ RelV (.str "0123456789") u
  c_LETTERS:∃ u,mg "LETTERS" = some u ∧ RelV (.str "abcdefghijklmnopqrstuvwxyz") u
  c_LONGEST_NAME_series:∃ u,mg "LONGEST_NAME_series" = some u ∧ RelV (.int 6) u
  c_LONGEST_NAME_words:∃ u,mg "LONGEST_NAME_words" = some u ∧ RelV (.int 8) u
  c_MOST_LENGTH:∃ u,mg "MOST_LENGTH" = some u ∧ RelV (.int 12) u
  c_MOST_PIECES:∃ u,mg "MOST_PIECES" = some u ∧ RelV (.int 30) u
  c_MOST_TURN:∃ u,mg "MOST_TURN" = some u ∧ RelV (.int 199) u
  s_THINGS:CstG cl mg "THINGS" [[.str "first",.int 0,.int 199],[.str "window",.int 1,.int 200],[.str "length",.int 1,.int 12],[.str "every",.int 1,.int 200],[.str "times",.int 1,.int 30]]
  k_Pieces:Cls cl.K (cl.c 20)
  k_Series:Cls cl.K (cl.c 36)
  n_Pieces_fives:NoAttr cl.K (cl.c 20) "fives"
  n_Series_held:NoAttr cl.K (cl.c 36) "held"
  n_Series_known:NoAttr cl.K (cl.c 36) "known"
  g_NoPiece:mg "NoPiece" = some (.ref (cl.c 3))
  g_Pieces:mg "Pieces" = some (.ref (cl.c 20))
  g_SlackError:mg "SlackError" = some (.ref (cl.c 0))
  xf_NoPiece:XfC cl.K (cl.c 3)
  xn_NoPiece_found:PySem.W.findIn cl.K (.ref (cl.c 3)) "found" = some none
  ex_NoPiece_NoPiece:PySem.W.exmOne cl.K (.ref (cl.c 3)) (.ref (cl.c 3)) = some true
  ex_NoPiece_SlackError:PySem.W.exmOne cl.K (.ref (cl.c 3)) (.ref (cl.c 0)) = some true
  ic_Pieces_Pieces:IsC cl (cl.c 20) [(20,true)]
section
variable {P:Program} {w:World} {K:PySem.W.Frag} {mg:Str → Option Value} {base:Heap} {f:Addr} {fd:FuncData} {cl:Ec} {xf:Nat → List Str}
theorem sc__law_box:FnScope Zet ["_law_cell_here"] (defScope ZbK):=⟨rfl,rfl,rfl,by decide +kernel,rfl,by decide +kernel,by decide +kernel⟩
theorem Zhd (hK:cl.K = K) (hX:xf = xfG) (T:TxW cl mg) (Fd:FunD K "_law_box" "_law_box" (defArgs ZbK) (defBody ZbK) (defScope ZbK) [] [] f fd) :FnG P w K mg base (L2.CX P w) 1 f fd ["_law_cell_here"] (spF cl xf 1 Zb4):=by
  subst hK; subst hX
  refine fn_ok (N:=Zet) (ws:=fun _=>false) (ds:=ZdL) (io:=[false]) Fd sc__law_box rfl (by decide) (fun _ _=>rfl) fun cdv A outer s H E hr=>?_
  have tk:=takes_of (X:=cxOf (L2.CX P w) P w cl.K mg base Zet "_law_box" (defScope ZbK) f cdv A outer s H E) (E:=E) rfl rfl rfl rfl
  have hu:=huG hr; have hu2:=hu65 hr; have nd:=sc__law_box.nd
  exact (b_one (s_ret (d_lst (a_cons (d_n (b2n (o_max T.f_max)) g_max.n (n_k k_int (n_v (d_n (b2n o_sub) g_sub.n (n_k (k_var 0) (n_v (d_n (b2n o_pow) g_pow.n (n_k k_int (n_k k_int n_nil))) n_nil))) n_nil))) (a_cons (d_n (b2n o_mod) g_mod.n (n_k (k_var 0) (n_k k_int n_nil))) (a_cons (d_p k_int) a_nil))))))
theorem sc__law_take:FnScope ZdQ ["_law_box_here","_law_many"] (defScope Zby):=⟨rfl,rfl,rfl,by decide +kernel,rfl,by decide +kernel,by decide +kernel⟩
theorem Zgx (hK:cl.K = K) (hX:xf = xfG) (T:TxW cl mg) (Fd:FunD K "_law_take" "_law_take" (defArgs Zby) (defBody Zby) (defScope Zby) [] [] f fd) :FnG P w K mg base (L2.CX P w) 1 f fd ["_law_box_here","_law_many"] (spF cl xf 2 Za):=by
  subst hK; subst hX
  refine fn_ok (N:=ZdQ) (ws:=fun i=>[2,3].contains i) (ds:=Zcq) (io:=[true,false]) Fd sc__law_take rfl (by decide) (ioOk (by decide)) fun cdv A outer s H E hr=>?_
  have tk:=takes_of (X:=cxOf (L2.CX P w) P w cl.K mg base ZdQ "_law_take" (defScope Zby) f cdv A outer s H E) (E:=E) rfl rfl rfl rfl
  have hu:=huG hr; have hu2:=hu65 hr; have nd:=sc__law_take.nd
  exact (b_cons (s_if (t_n (c_cmp op_gt (nomark _)) g_gt.n (n_k (k_op (o_ix (cl:=cl) rfl hu (fun _ _=>rfl)) pop_ix (k_var 0) k_int) (n_k k_int n_nil))) (b_cons (s_set 2 (d_n (b2n o_mod) g_mod.n (n_k (k_op (o_ix (cl:=cl) rfl hu (fun _ _=>rfl)) pop_ix (k_var 0) k_int) (n_k (k_var 1) n_nil))) nd) (b_cons (ZeT hu (pl_var 0) (d_p k_int) (d_n (b2n o_div) g_div.n (n_k (k_op (o_ix (cl:=cl) rfl hu (fun _ _=>rfl)) pop_ix (k_var 0) k_int) (n_k (k_var 1) n_nil))) (hq:=fun _ _ h1 h2=>pg_sub h1 h2 (PSet.or' set_list (set_dict hu)))) (b_one (s_ret (d_mv 2))))) b_nil) (b_cons (ZeT hu (pl_var 0) (d_p k_int) (d_n (b2n (o_addB (cl:=cl) rfl)) na_add.n (n_k (k_op (o_ix (cl:=cl) rfl hu (fun _ _=>rfl)) pop_ix (k_var 0) k_int) (n_k k_int n_nil))) (hq:=fun _ _ h1 h2=>pg_sub h1 h2 (PSet.or' set_list (set_dict hu)))) (b_cons (s_set 3 (d_n (b2n o_mod) g_mod.n (n_v (d_n (b2n (o_addB (cl:=cl) rfl)) na_add.n (n_v (d_n (b2n (o_addB (cl:=cl) rfl)) na_add.n (n_v (d_n (b2n o_mulA) na_mul.n (n_k (k_op (o_ix (cl:=cl) rfl hu (fun _ _=>rfl)) pop_ix (k_var 0) k_int) (n_k k_int n_nil))) (n_v (d_n (b2n o_mulA) na_mul.n (n_k k_int (n_k (k_op (o_ix (cl:=cl) rfl hu (fun _ _=>rfl)) pop_ix (k_var 0) k_int) n_nil))) n_nil))) (n_k k_int n_nil))) (n_k k_int n_nil))) nd) (b_cons (s_set 3 (d_n (b2n o_mod) g_mod.n (n_v (d_n (b2n o_mulA) na_mul.n (n_v (d_n (b2n o_mod) g_mod.n (n_v (d_n (b2n o_mulA) na_mul.n (n_k (k_var 3) (n_k (k_var 3) n_nil))) (n_k k_int n_nil))) (n_k k_int n_nil))) (n_k k_int n_nil))) nd) (b_one (s_ret (d_n (b2n o_mod) g_mod.n (n_v (d_n (b2n o_div) g_div.n (n_v (d_n (b2n o_mod) g_mod.n (n_v (d_n (b2n o_mulA) na_mul.n (n_k (k_var 3) (n_k (k_var 3) n_nil))) (n_k k_int n_nil))) (n_k k_int n_nil))) (n_k (k_var 1) n_nil)))))))))
theorem sc__law_series_row:FnScope Zb1 ["_law_box_here","_law_name"] (defScope ZC):=⟨rfl,rfl,rfl,by decide +kernel,rfl,by decide +kernel,by decide +kernel⟩
theorem Zd1 (hK:cl.K = K) (hX:xf = xfG) (T:TxW cl mg) (Fd:FunD K "_law_series_row" "_law_series_row" (defArgs ZC) (defBody ZC) (defScope ZC) [] [] f fd) (H__law_take:Fn cl xf P w K mg base "_law_take" 1 2 Za):FnG P w K mg base (L2.CX P w) 2 f fd ["_law_box_here","_law_name"] (spF cl xf 2 ZW):=by
  subst hK; subst hX
  refine fn_ok (N:=Zb1) (ws:=fun i=>[2,3,4,5].contains i) (ds:=Zbt) (io:=[true,false]) Fd sc__law_series_row rfl (by decide) (ioOk (by decide)) fun cdv A outer s H E hr=>?_
  have tk:=takes_of (X:=cxOf (L2.CX P w) P w cl.K mg base Zb1 "_law_series_row" (defScope ZC) f cdv A outer s H E) (E:=E) rfl rfl rfl rfl
  have hu:=huG hr; have hu2:=hu65 hr; have nd:=sc__law_series_row.nd
  exact (b_cons (s_set 2 (d_ni (b2n (o_addB (cl:=cl) rfl)) na_add.n (z_v (d_p k_int) (z_v (d_ni (b2n (o_ix (cl:=cl) rfl hu (fun _ _=>rfl))) g_ix.n (z_v (d_lst (a_cons (d_io H__law_take hr (by decide) tk (q_o 0 (q_val (d_p k_int) q_nil)) rfl) (a_cons (d_io H__law_take hr (by decide) tk (q_o 0 (q_val (d_p k_int) q_nil)) rfl) (a_cons (d_io H__law_take hr (by decide) tk (q_o 0 (q_val (d_p k_int) q_nil)) rfl) a_nil)))) (z_v (d_io H__law_take hr (by decide) tk (q_o 0 (q_val (d_p k_int) q_nil)) rfl) z_nil))) z_nil))) nd) (b_cons (s_set 3 (d_ni (b2n (o_addB (cl:=cl) rfl)) na_add.n (z_v (d_p k_int) (z_v (d_ni (b2n (o_ix (cl:=cl) rfl hu (fun _ _=>rfl))) g_ix.n (z_v (d_lst (a_cons (d_io H__law_take hr (by decide) tk (q_o 0 (q_val (d_p k_int) q_nil)) rfl) (a_cons (d_io H__law_take hr (by decide) tk (q_o 0 (q_val (d_p k_int) q_nil)) rfl) (a_cons (d_io H__law_take hr (by decide) tk (q_o 0 (q_val (d_p k_int) q_nil)) rfl) (a_cons (d_io H__law_take hr (by decide) tk (q_o 0 (q_val (d_p k_int) q_nil)) rfl) a_nil))))) (z_v (d_io H__law_take hr (by decide) tk (q_o 0 (q_val (d_p k_int) q_nil)) rfl) z_nil))) z_nil))) nd) (b_cons (s_set 4 (d_ni (b2n (o_addB (cl:=cl) rfl)) na_add.n (z_v (d_p k_int) (z_v (d_ni (b2n (o_ix (cl:=cl) rfl hu (fun _ _=>rfl))) g_ix.n (z_v (d_lst (a_cons (d_io H__law_take hr (by decide) tk (q_o 0 (q_val (d_p k_int) q_nil)) rfl) (a_cons (d_io H__law_take hr (by decide) tk (q_o 0 (q_val (d_p k_int) q_nil)) rfl) (a_cons (d_io H__law_take hr (by decide) tk (q_o 0 (q_val (d_p k_int) q_nil)) rfl) a_nil)))) (z_v (d_io H__law_take hr (by decide) tk (q_o 0 (q_val (d_p k_int) q_nil)) rfl) z_nil))) z_nil))) nd) (b_cons (s_set 4 (d_n (b2n (o_min T.f_min)) g_min.n (n_k (k_var 4) (n_v (d_n (b2n o_sub) g_sub.n (n_k k_int (n_v (d_n (b2n o_mulA) na_mul.n (n_v (d_n (b2n o_sub) g_sub.n (n_k (k_var 3) (n_k k_int n_nil))) (n_v (d_n (b2n (o_min T.f_min)) g_min.n (n_k (k_var 2) (n_v (d_n (b2n o_div) g_div.n (n_k k_int (n_k (k_var 3) n_nil))) n_nil))) n_nil))) n_nil))) n_nil))) nd) (b_cons (s_set 2 (d_n (b2n (o_min T.f_min)) g_min.n (n_k (k_var 2) (n_v (d_n (b2n o_div) g_div.n (n_k k_int (n_k (k_var 3) n_nil))) n_nil))) nd) (b_cons (s_set 5 (d_io H__law_take hr (by decide) tk (q_o 0 (q_val (d_n (b2n o_sub) g_sub.n (n_v (d_n (b2n o_sub) g_sub.n (n_k k_int (n_k (k_var 4) n_nil))) (n_v (d_n (b2n o_mulA) na_mul.n (n_v (d_n (b2n o_sub) g_sub.n (n_k (k_var 3) (n_k k_int n_nil))) (n_k (k_var 2) n_nil))) n_nil))) q_nil)) rfl) nd) (b_one (s_ret (d_fr (d_tup (a_cons (d_p (k_var 1)) (a_cons (d_p (k_var 5)) (a_cons (d_p (k_var 4)) (a_cons (d_ni (b2n (o_addB (cl:=cl) rfl)) na_add.n (z_v (d_p k_int) (z_v (d_io H__law_take hr (by decide) tk (q_o 0 (q_val (d_ni (b2n (o_ix (cl:=cl) rfl hu (fun _ _=>rfl))) g_ix.n (z_v (d_lst (a_cons (d_p k_int) (a_cons (d_p k_int) a_nil))) (z_v (d_io H__law_take hr (by decide) tk (q_o 0 (q_val (d_p k_int) q_nil)) rfl) z_nil))) q_nil)) rfl) z_nil))) (a_cons (d_p (k_var 2)) (a_cons (d_p (k_var 3)) a_nil))))))))))))))))
theorem sc__law_word:FnScope Zcj ["_law_box_here"] (defScope Zbe):=⟨rfl,rfl,rfl,by decide +kernel,rfl,by decide +kernel,by decide +kernel⟩
theorem Zgw (hK:cl.K = K) (hX:xf = xfG) (T:TxW cl mg) (Fd:FunD K "_law_word" "_law_word" (defArgs Zbe) (defBody Zbe) (defScope Zbe) [] [] f fd) (H__law_take:Fn cl xf P w K mg base "_law_take" 1 2 Za):FnG P w K mg base (L2.CX P w) 2 f fd ["_law_box_here"] (spF cl xf 1 Zbp):=by
  subst hK; subst hX
  refine fn_ok (N:=Zcj) (ws:=fun i=>[1,2,4].contains i) (ds:=Zb5) (io:=[true]) Fd sc__law_word rfl (by decide) (ioOk (by decide)) fun cdv A outer s H E hr=>?_
  have tk:=takes_of (X:=cxOf (L2.CX P w) P w cl.K mg base Zcj "_law_word" (defScope Zbe) f cdv A outer s H E) (E:=E) rfl rfl rfl rfl
  have hu:=huG hr; have hu2:=hu65 hr; have nd:=sc__law_word.nd
  exact (b_cons (s_set 1 (d_p k_str) nd) (b_cons (s_set 2 (d_n (b2n (o_addB (cl:=cl) rfl)) na_add.n (n_k (k_var 1) (n_k k_str n_nil))) nd) (b_cons (s_if (t_ni (c_cmp (op_eqD hr.units) (nomark _)) g_eq.n (z_v (d_io H__law_take hr (by decide) tk (q_o 0 (q_val (d_p k_int) q_nil)) rfl) (z_v (d_p k_int) z_nil))) (b_one (s_ret (d_ni (b2n (o_addB (cl:=cl) rfl)) na_add.n (z_v (d_ni (b2n (o_ix (cl:=cl) rfl hu (fun _ _=>rfl))) g_ix.n (z_l 1 (z_v (d_io H__law_take hr (by decide) tk (q_o 0 (q_val (d_p k_int) q_nil)) rfl) z_nil))) (z_v (d_ni (b1n o_join) g_join.n (z_v (d_lc (own:=[("_law_k",3)]) (Zcf T.f_range (d_io H__law_take hr (by decide) tk (q_o 0 (q_val (d_p k_int) q_nil)) rfl)) (blkOk_by (own:=[("_law_k",3)]) (N:=Zcj) (sc:=defScope Zbe) (by decide +kernel)) (Z9 (by simp)) (uni_g fun _ _ _ _ _=>g_name 3 nd (by rfl)) uni_y (uni_e fun _ _ _ _ _=>(d_ni (b2n (o_ix (cl:=cl) rfl hu (fun _ _=>rfl))) g_ix.n (z_l 2 (z_v (d_io H__law_take hr (by decide) takes0 (q_o 0 (q_val (d_p k_int) q_nil)) rfl) z_nil)))) nd) z_nil)) z_nil))))) b_nil) (b_cons (s_set 4 (d_ni (b1n o_join) g_join.n (z_v (d_lc (own:=[("_law_k",3)]) (Zcf T.f_range (d_ni (b2n (o_addB (cl:=cl) rfl)) na_add.n (z_v (d_p k_int) (z_v (d_io H__law_take hr (by decide) tk (q_o 0 (q_val (d_p k_int) q_nil)) rfl) z_nil)))) (blkOk_by (own:=[("_law_k",3)]) (N:=Zcj) (sc:=defScope Zbe) (by decide +kernel)) (Z9 (by simp)) (uni_g fun _ _ _ _ _=>g_name 3 nd (by rfl)) uni_y (uni_e fun _ _ _ _ _=>(d_ni (b2n (o_ix (cl:=cl) rfl hu (fun _ _=>rfl))) g_ix.n (z_l 1 (z_v (d_io H__law_take hr (by decide) takes0 (q_o 0 (q_val (d_p k_int) q_nil)) rfl) z_nil)))) nd) z_nil)) nd) (b_one (s_ret (d_ni (b2n (o_addB (cl:=cl) rfl)) na_add.n (z_l 4 (z_v (d_ni (b2n (o_ix (cl:=cl) rfl hu (fun _ _=>rfl))) g_ix.n (z_v (d_lst (a_cons (d_p k_str) (a_cons (d_p k_str) (a_cons (d_p k_str) (a_cons (d_p k_str) (a_cons (d_p k_str) (a_cons (d_p k_str) a_nil))))))) (z_v (d_io H__law_take hr (by decide) tk (q_o 0 (q_val (d_p k_int) q_nil)) rfl) z_nil))) z_nil)))))))))
theorem sc__law_series_pieces:FnScope ZbG ["_law_rows"] (defScope Zs):=⟨rfl,rfl,rfl,by decide +kernel,rfl,by decide +kernel,by decide +kernel⟩
theorem Zdi (hK:cl.K = K) (hX:xf = xfG) (T:TxW cl mg) (Fd:FunD K "_law_series_pieces" "_law_series_pieces" (defArgs Zs) (defBody Zs) (defScope Zs) [] [] f fd) :FnG P w K mg base (L2.CX P w) 1 f fd ["_law_rows"] (spF cl xf 1 Zd):=by
  subst hK; subst hX
  refine fn_ok (N:=ZbG) (ws:=fun i=>[1,2,3,4,5,6,7,8].contains i) (ds:=Zbc) (io:=[false]) Fd sc__law_series_pieces rfl (by decide) (ioOk (by decide)) fun cdv A outer s H E hr=>?_
  have tk:=takes_of (X:=cxOf (L2.CX P w) P w cl.K mg base ZbG "_law_series_pieces" (defScope Zs) f cdv A outer s H E) (E:=E) rfl rfl rfl rfl
  have hu:=huG hr; have hu2:=hu65 hr; have nd:=sc__law_series_pieces.nd
  exact (b_cons (s_set 1 (d_lst a_nil) nd) (b_cons (s_for (i_anyP (cl:=cl) rfl (k_var 0)) (g_tup (Zbf (g_name 2 nd) (Zbf (g_name 3 nd) (Zbf (g_name 4 nd) (Zbf (g_name 5 nd) (Zbf (g_name 6 nd) (Zbf (g_name 7 nd) gs_nil))))))) (b_one (s_for (Zcf T.f_range (d_p (k_var 7))) (g_name 8 nd) (b_one (s_expr (d_app 1 (d_fr (d_tup (a_cons (d_n (b2n (o_addB (cl:=cl) rfl)) na_add.n (n_k (k_var 2) (n_v (d_n (bn_str T.f_str) na_str.n (n_k (k_var 8) n_nil)) n_nil))) (a_cons (d_n (b2n (o_addB (cl:=cl) rfl)) na_add.n (n_k (k_var 3) (n_v (d_n (b2n o_mulA) na_mul.n (n_k (k_var 8) (n_k (k_var 6) n_nil))) n_nil))) (a_cons (d_n (b2n o_sub) g_sub.n (n_v (d_n (b2n (o_addB (cl:=cl) rfl)) na_add.n (n_v (d_n (b2n (o_addB (cl:=cl) rfl)) na_add.n (n_k (k_var 3) (n_v (d_n (b2n o_mulA) na_mul.n (n_k (k_var 8) (n_k (k_var 6) n_nil))) n_nil))) (n_k (k_var 4) n_nil))) (n_k k_int n_nil))) (a_cons (d_p (k_var 5)) (a_cons (d_p (k_var 5)) a_nil))))))) (hq:=fun _ h=>pe_bm PySem.F.plainAttrs_list PySem.F.slot_list_append PySem.F.type_list_append mt_append (pv 1) (pa_cons h pa_nil))))) (passes_of rfl))) (passes_of rfl)) (b_one (s_ret (d_mv 1)))))
theorem sc__law_series:FnScope ZbU ["_law_box_here","_law_most"] (defScope ZO):=⟨rfl,rfl,rfl,by decide +kernel,rfl,by decide +kernel,by decide +kernel⟩
theorem Zfp (hK:cl.K = K) (hX:xf = xfG) (T:TxW cl mg) (Fd:FunD K "_law_series" "_law_series" (defArgs ZO) (defBody ZO) (defScope ZO) [] [] f fd) (H__law_take:Fn cl xf P w K mg base "_law_take" 1 2 Za) (H__law_series_row:Fn cl xf P w K mg base "_law_series_row" 2 2 ZW) (H__law_word:Fn cl xf P w K mg base "_law_word" 2 1 Zbp) (H__law_series_pieces:Fn cl xf P w K mg base "_law_series_pieces" 1 1 Zd):FnG P w K mg base (L2.CX P w) 3 f fd ["_law_box_here","_law_most"] (spF cl xf 2 ZL):=by
  subst hK; subst hX
  refine fn_ok (N:=ZbU) (ws:=fun i=>[2,3,4,5].contains i) (ds:=ZbH) (io:=[true,false]) Fd sc__law_series rfl (by decide) (ioOk (by decide)) fun cdv A outer s H E hr=>?_
  have tk:=takes_of (X:=cxOf (L2.CX P w) P w cl.K mg base ZbU "_law_series" (defScope ZO) f cdv A outer s H E) (E:=E) rfl rfl rfl rfl
  have hu:=huG hr; have hu2:=hu65 hr; have nd:=sc__law_series.nd
  exact (b_cons (s_set 2 (d_lst a_nil) nd) (b_cons (s_for (Zcf T.f_range (d_io H__law_take hr (by decide) tk (q_o 0 (q_val (d_n (b2n (o_addB (cl:=cl) rfl)) na_add.n (n_k (k_var 1) (n_k k_int n_nil))) q_nil)) rfl)) (g_name 3 nd) (b_cons (s_set 4 (d_io H__law_series_row hr (by decide) tk (q_o 0 (q_val (d_io H__law_word hr (by decide) tk (q_o 0 q_nil) rfl) q_nil)) rfl) nd) (b_cons (s_lcP 5 (own:=[("_law_piece",6)]) (i_anyD (cl:=cl) rfl (d_call H__law_series_pieces hr (by decide) tk (c_val (d_fr (d_n (b2n (o_addB (cl:=cl) rfl)) na_add.n (n_k (k_var 2) (n_v (d_lst (a_cons (d_p (k_var 4)) a_nil)) n_nil)))) c_nil) (ZbZ dl_nil))) (blkOk_by (own:=[("_law_piece",6)]) (N:=ZbU) (sc:=defScope ZO) (by decide +kernel)) (Z9 (by simp)) (uni_g fun _ _ _ _ _=>g_name 6 nd (by rfl)) uni_y (uni_e fun _ _ _ _ _=>(d_p (k_op (o_ix (cl:=cl) rfl hu (fun _ _=>rfl)) pop_ix (k_var 6) k_int))) nd (sw_true rfl rfl rfl (by decide +kernel))) (b_one (s_if (t_w (w_and (t_n (c_cmp (Zd0 (cl:=cl) rfl hu2) rfl) na_notin.n (n_k (k_op (o_ix (cl:=cl) rfl hu (fun _ _=>rfl)) pop_ix (k_var 4) k_int) (n_v (d_lcP (own:=[("_law_one",7)]) (i_anyP (cl:=cl) rfl (k_var 2)) (blkOk_by (own:=[("_law_one",7)]) (N:=ZbU) (sc:=defScope ZO) (by decide +kernel)) (Z9 (by simp)) (uni_g fun _ _ _ _ _=>g_name 7 nd (by rfl)) uni_y (uni_e fun _ _ _ _ _=>(d_p (k_op (o_ix (cl:=cl) rfl hu (fun _ _=>rfl)) pop_ix (k_var 7) k_int))) nd) n_nil))) (w_and (t_n (c_cmp (op_eqD hr.units) (nomark _)) g_eq.n (n_v (d_n (ZjB (cl:=cl) rfl T.f_len T.f_set) ZiP (n_k (k_var 5) n_nil)) (n_v (d_n (b1n (o_len (cl:=cl) rfl T.f_len)) g_len.n (n_k (k_var 5) n_nil)) n_nil))) (w_and1 (t_n (c_cmp op_lt (nomark _)) g_lt.n (n_v (d_n (b1n (o_len (cl:=cl) rfl T.f_len)) g_len.n (n_k (k_var 5) n_nil)) (n_k k_int n_nil))))))) (b_one (s_expr (d_app 2 (d_p (k_var 4)) (hq:=fun _ h=>pe_bm PySem.F.plainAttrs_list PySem.F.slot_list_append PySem.F.type_list_append mt_append (pv 2) (pa_cons h pa_nil))))) b_nil)))) (passes_of rfl)) (b_one (s_ret (d_mv 2)))))
theorem sc_is_name:FnScope Zeb ["thing"] (defScope ZbN):=⟨rfl,rfl,rfl,by decide +kernel,rfl,by decide +kernel,by decide +kernel⟩
theorem Zh9 (hK:cl.K = K) (hX:xf = xfG) (T:TxW cl mg) (Fd:FunD K "is_name" "is_name" (defArgs ZbN) (defBody ZbN) (defScope ZbN) [] [] f fd) :FnG P w K mg base (L2.CX P w) 1 f fd ["thing"] (spF cl xf 1 Zz):=by
  subst hK; subst hX
  refine fn_ok (N:=Zeb) (ws:=fun _=>false) (ds:=ZG) (io:=[false]) Fd sc_is_name rfl (by decide) (fun _ _=>rfl) fun cdv A outer s H E hr=>?_
  have tk:=takes_of (X:=cxOf (L2.CX P w) P w cl.K mg base Zeb "is_name" (defScope ZbN) f cdv A outer s H E) (E:=E) rfl rfl rfl rfl
  have hu:=huG hr; have hu2:=hu65 hr; have nd:=sc_is_name.nd
  exact (b_cons (s_if (t_w (w_or (t_not (t_v (d_n (b1n (o_isi (T:="str") T.f_isinstance T.f_str (by decide +kernel))) (g_isi (by decide)).n (n_k (k_var 0) n_nil)))) (w_or (t_not (t_ch op_le op_le p_le p_le (d_p k_int) (d_n (b1n (o_len (cl:=cl) rfl T.f_len)) g_len.n (n_k (k_var 0) n_nil)) (d_p (ZbO (pa:=0) T.c_LONGEST_NAME_words)))) (w_or1 (t_n (c_cmp (Zd0 (cl:=cl) rfl hu2) rfl) na_notin.n (n_k (k_op (o_ix (cl:=cl) rfl hu (fun _ _=>rfl)) pop_ix (k_var 0) k_int) (n_k (ZbO (pa:=0) T.c_LETTERS) n_nil))))))) (b_one (s_ret (d_p k_bl))) b_nil) (b_one (s_ret (d_n (b1n (o_all T.f_all)) g_all.n (n_v (d_lcP (own:=[("sign",1)]) (i_anyP (cl:=cl) rfl (k_var 0)) (blkOk_by (own:=[("sign",1)]) (N:=Zeb) (sc:=defScope ZbN) (by decide +kernel)) (Z9 (by simp)) (uni_g fun _ _ _ _ _=>g_name 1 nd (by rfl)) uni_y (uni_e fun _ _ _ _ _=>(d_n (b2n (o_cmp (opk_in (cl:=cl) rfl hu2) rfl)) na_in.n (n_k (k_var 1) (n_v (d_n (b2n (o_addB (cl:=cl) rfl)) na_add.n (n_k (ZbO (pa:=0) T.c_LETTERS) (n_k (ZbO (pa:=0) T.c_FIGURES) n_nil))) n_nil)))) nd) n_nil)))))
theorem sc_is_whole:FnScope Zes ["thing"] (defScope ZbJ):=⟨rfl,rfl,rfl,by decide +kernel,rfl,by decide +kernel,by decide +kernel⟩
theorem Zhc (hK:cl.K = K) (hX:xf = xfG) (T:TxW cl mg) (Fd:FunD K "is_whole" "is_whole" (defArgs ZbJ) (defBody ZbJ) (defScope ZbJ) [] [] f fd) :FnG P w K mg base (L2.CX P w) 1 f fd ["thing"] (spF cl xf 1 Z8):=by
  subst hK; subst hX
  refine fn_ok (N:=Zes) (ws:=fun _=>false) (ds:=ZX) (io:=[false]) Fd sc_is_whole rfl (by decide) (fun _ _=>rfl) fun cdv A outer s H E hr=>?_
  have tk:=takes_of (X:=cxOf (L2.CX P w) P w cl.K mg base Zes "is_whole" (defScope ZbJ) f cdv A outer s H E) (E:=E) rfl rfl rfl rfl
  have hu:=huG hr; have hu2:=hu65 hr; have nd:=sc_is_whole.nd
  exact (b_one (s_ret (d_and (d_n (b1n (o_isi (T:="int") T.f_isinstance T.f_int (by decide +kernel))) (g_isi (by decide)).n (n_k (k_var 0) n_nil)) (d_one (d_not (d_n (b1n (o_isi (T:="bool") T.f_isinstance T.f_bool (by decide +kernel))) (g_isi (by decide)).n (n_k (k_var 0) n_nil)))))))
theorem sc_is_within:FnScope ZdO ["thing","low","high"] (defScope Zbw):=⟨rfl,rfl,rfl,by decide +kernel,rfl,by decide +kernel,by decide +kernel⟩
theorem Zgu (hK:cl.K = K) (hX:xf = xfG) (T:TxW cl mg) (Fd:FunD K "is_within" "is_within" (defArgs Zbw) (defBody Zbw) (defScope Zbw) [] [] f fd) (H_is_whole:Fn cl xf P w K mg base "is_whole" 1 1 Z8):FnG P w K mg base (L2.CX P w) 2 f fd ["thing","low","high"] (spF cl xf 3 Zl):=by
  subst hK; subst hX
  refine fn_ok (N:=ZdO) (ws:=fun _=>false) (ds:=Z4) (io:=[false,false,false]) Fd sc_is_within rfl (by decide) (fun _ _=>rfl) fun cdv A outer s H E hr=>?_
  have tk:=takes_of (X:=cxOf (L2.CX P w) P w cl.K mg base ZdO "is_within" (defScope Zbw) f cdv A outer s H E) (E:=E) rfl rfl rfl rfl
  have hu:=huG hr; have hu2:=hu65 hr; have nd:=sc_is_within.nd
  exact (b_one (s_ret (d_and (d_call H_is_whole hr (by decide) tk (c_lend (k_var 0) c_nil) (Zk dl_nil)) (d_one (d_ch op_le op_le p_le p_le (d_p (k_var 1)) (d_p (k_var 0)) (d_p (k_var 2)))))))
theorem sc_pieces_of:FnScope ZdN ["row"] (defScope Zbv):=⟨rfl,rfl,rfl,by decide +kernel,rfl,by decide +kernel,by decide +kernel⟩
theorem Zgt (hK:cl.K = K) (hX:xf = xfG) (T:TxW cl mg) (Fd:FunD K "pieces_of" "pieces_of" (defArgs Zbv) (defBody Zbv) (defScope Zbv) [] [] f fd) :FnG P w K mg base (L2.CX P w) 1 f fd ["row"] (spF cl xf 1 Zh):=by
  subst hK; subst hX
  refine fn_ok (N:=ZdN) (ws:=fun i=>[1,2,3,4,5,6,7,8,9].contains i) (ds:=ZbQ) (io:=[false]) Fd sc_pieces_of rfl (by decide) (ioOk (by decide)) fun cdv A outer s H E hr=>?_
  have tk:=takes_of (X:=cxOf (L2.CX P w) P w cl.K mg base ZdN "pieces_of" (defScope Zbv) f cdv A outer s H E) (E:=E) rfl rfl rfl rfl
  have hu:=huG hr; have hu2:=hu65 hr; have nd:=sc_pieces_of.nd
  exact (b_cons (s_asg (d_p (k_var 0)) (g_tup (Zbf (g_name 1 nd) (Zbf (g_name 2 nd) (Zbf (g_name 3 nd) (Zbf (g_name 4 nd) (Zbf (g_name 5 nd) (Zbf (g_name 6 nd) gs_nil)))))))) (b_cons (s_set 7 (d_lst a_nil) nd) (b_cons (s_for (Zcf T.f_range (d_p (k_var 6))) (g_name 8 nd) (b_cons (s_set 9 (d_n (b2n (o_addB (cl:=cl) rfl)) na_add.n (n_k (k_var 2) (n_v (d_n (b2n o_mulA) na_mul.n (n_k (k_var 8) (n_k (k_var 5) n_nil))) n_nil))) nd) (b_one (s_expr (d_app 7 (d_fr (d_tup (a_cons (d_n (b2n (o_addB (cl:=cl) rfl)) na_add.n (n_k (k_var 1) (n_v (d_n (bn_str T.f_str) na_str.n (n_k (k_var 8) n_nil)) n_nil))) (a_cons (d_p (k_var 9)) (a_cons (d_n (b2n o_sub) g_sub.n (n_v (d_n (b2n (o_addB (cl:=cl) rfl)) na_add.n (n_k (k_var 9) (n_k (k_var 3) n_nil))) (n_k k_int n_nil))) (a_cons (d_p (k_var 4)) (a_cons (d_p (k_var 4)) a_nil))))))) (hq:=fun _ h=>pe_bm PySem.F.plainAttrs_list PySem.F.slot_list_append PySem.F.type_list_append mt_append (pv 7) (pa_cons h pa_nil)))))) (passes_of rfl)) (b_one (s_ret (d_mv 7))))))
theorem sc_row_fault:FnScope ZdM ["known","row"] (defScope Zbu):=⟨rfl,rfl,rfl,by decide +kernel,rfl,by decide +kernel,by decide +kernel⟩
theorem Zgs (hK:cl.K = K) (hX:xf = xfG) (T:TxW cl mg) (Fd:FunD K "row_fault" "row_fault" (defArgs Zbu) (defBody Zbu) (defScope Zbu) [] [] f fd) (H_is_name:Fn cl xf P w K mg base "is_name" 1 1 Zz) (H_is_within:Fn cl xf P w K mg base "is_within" 2 3 Zl) (H_pieces_of:Fn cl xf P w K mg base "pieces_of" 1 1 Zh):FnG P w K mg base (L2.CX P w) 3 f fd ["known","row"] (spF cl xf 2 Zt):=by
  subst hK; subst hX
  refine fn_ok (N:=ZdM) (ws:=fun i=>[2,3,4,5].contains i) (ds:=Zx) (io:=[false,false]) Fd sc_row_fault rfl (by decide) (ioOk (by decide)) fun cdv A outer s H E hr=>?_
  have tk:=takes_of (X:=cxOf (L2.CX P w) P w cl.K mg base ZdM "row_fault" (defScope Zbu) f cdv A outer s H E) (E:=E) rfl rfl rfl rfl
  have hu:=huG hr; have hu2:=hu65 hr; have nd:=sc_row_fault.nd
  exact (b_cons (s_if (t_w (w_or (t_not (t_v (d_n (b1n (o_isi (T:="tuple") T.f_isinstance T.f_tuple (by decide +kernel))) (g_isi (by decide)).n (n_k (k_var 1) n_nil)))) (w_or1 (t_n (c_cmp (op_neD hr.units) (nomark _)) g_ne.n (n_v (d_n (b1n (o_len (cl:=cl) rfl T.f_len)) g_len.n (n_k (k_var 1) n_nil)) (n_v (d_n (b2n (o_addB (cl:=cl) rfl)) na_add.n (n_k k_int (n_k (k_lenC (cl:=cl) rfl T.s_THINGS T.f_len) n_nil))) n_nil)))))) (b_one (s_ret (d_p k_str))) b_nil) (b_cons (s_if (t_w (w_or (t_not (t_v (d_call H_is_name hr (by decide) tk (c_lend (k_op (o_ix (cl:=cl) rfl hu (fun _ _=>rfl)) pop_ix (k_var 1) k_int) c_nil) (Zk dl_nil)))) (w_or1 (t_n (c_cmp op_gt (nomark _)) g_gt.n (n_v (d_n (b1n (o_len (cl:=cl) rfl T.f_len)) g_len.n (n_k (k_op (o_ix (cl:=cl) rfl hu (fun _ _=>rfl)) pop_ix (k_var 1) k_int) n_nil)) (n_k (ZbO (pa:=0) T.c_LONGEST_NAME_series) n_nil)))))) (b_one (s_ret (d_p k_str))) b_nil) (b_cons (s_if (t_n (c_cmp (opk_in (cl:=cl) rfl hu2) rfl) na_in.n (n_k (k_op (o_ix (cl:=cl) rfl hu (fun _ _=>rfl)) pop_ix (k_var 1) k_int) (n_k (k_var 0) n_nil))) (b_one (s_ret (d_p k_str))) b_nil) (b_cons (ZkT (cl:=cl) rfl T.s_THINGS T.f_zip (d_sl (cl:=cl) rfl (rb_k (k_var 1)) (ro_k k_int) ZkZ) (Zbf (g_name 2 nd (by rfl)) (Zbf (g_name 3 nd (by rfl)) (Zbf (g_name 4 nd (by rfl)) gs_nil))) (g_name 5 nd (by rfl)) (b_one (s_if (t_not (t_v (d_call H_is_within hr (by decide) tk (c_lend (k_var 5) (c_lend (k_var 3) (c_lend (k_var 4) c_nil))) (Zk (Zk (Zk dl_nil)))))) (b_one (s_ret (d_mv 2))) b_nil)) (passes_of rfl)) (b_cons (s_if (t_n (c_cmp op_gt (nomark _)) g_gt.n (n_v (d_n (b2n (o_ix (cl:=cl) rfl hu (fun _ _=>rfl))) g_ix.n (n_v (d_n (b2n (o_ix (cl:=cl) rfl hu (fun _ _=>rfl))) g_ix.n (n_v (d_call H_pieces_of hr (by decide) tk (c_lend (k_var 1) c_nil) (Zk dl_nil)) (n_v (d_n (b1n o_neg) g_neg.n (n_k k_int n_nil)) n_nil))) (n_k k_int n_nil))) (n_k (ZbO (pa:=0) T.c_MOST_TURN) n_nil))) (b_one (s_ret (d_p k_str))) b_nil) (b_one (s_ret (d_p k_non))))))))
theorem sc_meeting_fault:FnScope ZbC ["held","row"] (defScope Zy):=⟨rfl,rfl,rfl,by decide +kernel,rfl,by decide +kernel,by decide +kernel⟩
theorem ZeB (hK:cl.K = K) (hX:xf = xfG) (T:TxW cl mg) (Fd:FunD K "meeting_fault" "meeting_fault" (defArgs Zy) (defBody Zy) (defScope Zy) [] [] f fd) (H_pieces_of:Fn cl xf P w K mg base "pieces_of" 1 1 Zh):FnG P w K mg base (L2.CX P w) 2 f fd ["held","row"] (spF cl xf 2 Zo):=by
  subst hK; subst hX
  refine fn_ok (N:=ZbC) (ws:=fun i=>[2].contains i) (ds:=Zbq) (io:=[false,false]) Fd sc_meeting_fault rfl (by decide) (ioOk (by decide)) fun cdv A outer s H E hr=>?_
  have tk:=takes_of (X:=cxOf (L2.CX P w) P w cl.K mg base ZbC "meeting_fault" (defScope Zy) f cdv A outer s H E) (E:=E) rfl rfl rfl rfl
  have hu:=huG hr; have hu2:=hu65 hr; have nd:=sc_meeting_fault.nd
  exact (b_cons (s_lcP 2 (own:=[("piece",3)]) (i_anyD (cl:=cl) rfl (d_call H_pieces_of hr (by decide) tk (c_lend (k_var 1) c_nil) (Zk dl_nil))) (blkOk_by (own:=[("piece",3)]) (N:=ZbC) (sc:=defScope Zy) (by decide +kernel)) (Z9 (by simp)) (uni_g fun _ _ _ _ _=>g_name 3 nd (by rfl)) uni_y (uni_e fun _ _ _ _ _=>(d_p (k_op (o_ix (cl:=cl) rfl hu (fun _ _=>rfl)) pop_ix (k_var 3) k_int))) nd (sw_true rfl rfl rfl (by decide +kernel))) (b_cons (s_if (t_n (c_cmp (op_neD hr.units) (nomark _)) g_ne.n (n_v (d_lcP (own:=[("name",4)]) (i_anyP (cl:=cl) rfl (k_var 2)) (blkOk_by (own:=[("name",4)]) (N:=ZbC) (sc:=defScope Zy) (by decide +kernel)) (Z9 (by simp)) (uni_g fun _ _ _ _ _=>g_name 4 nd (by rfl)) (uni_t fun _ _ _ _ _=>(t_n (c_cmp (opk_in (cl:=cl) rfl hu2) rfl) na_in.n (n_k (k_var 4) (n_k (k_var 0) n_nil)))) (uni_e fun _ _ _ _ _=>(d_p (k_var 4))) nd) (n_v (d_lst a_nil) n_nil))) (b_one (s_ret (d_p k_str))) b_nil) (b_cons (s_if (t_n (c_cmp op_gt (nomark _)) g_gt.n (n_v (d_n (b2n (o_addB (cl:=cl) rfl)) na_add.n (n_v (d_n (b1n (o_len (cl:=cl) rfl T.f_len)) g_len.n (n_k (k_var 0) n_nil)) (n_v (d_n (b1n (o_len (cl:=cl) rfl T.f_len)) g_len.n (n_k (k_var 2) n_nil)) n_nil))) (n_k (ZbO (pa:=0) T.c_MOST_PIECES) n_nil))) (b_one (s_ret (d_p k_str))) b_nil) (b_one (s_ret (d_p k_non))))))
theorem sc_Series___init__:FnScope Zb2 ["self","rows"] (defScope ZD):=⟨rfl,rfl,rfl,by decide +kernel,rfl,by decide +kernel,by decide +kernel⟩
theorem Zd2 (hK:cl.K = K) (hX:xf = xfG) (T:TxW cl mg) (Fd:FunD K "__init__" "Series.__init__" (defArgs ZD) (defBody ZD) (defScope ZD) [] [] f fd) (H_meeting_fault:Fn cl xf P w K mg base "meeting_fault" 2 2 Zo) (H_pieces_of:Fn cl xf P w K mg base "pieces_of" 1 1 Zh) (H_row_fault_series:Fn cl xf P w K mg base "row_fault_series" 3 2 Zt) (X_BadSeries:Xc cl xf P w K mg base "BadSeries" 17 1):FnG P w K mg base (L2.CX P w) 4 f fd ["self","rows"] (spF cl xf 2 Zb):=by
  subst hK; subst hX
  refine fn_ok (N:=Zb2) (ws:=fun i=>[2,3,4,5,6].contains i) (ds:=Zu) (io:=[true,false]) Fd sc_Series___init__ rfl (by decide) (ioOk (by decide)) fun cdv A outer s H E hr=>?_
  have tk:=takes_of (X:=cxOf (L2.CX P w) P w cl.K mg base Zb2 "Series.__init__" (defScope ZD) f cdv A outer s H E) (E:=E) rfl rfl rfl rfl
  have hu:=huG hr; have hu2:=hu65 hr; have nd:=sc_Series___init__.nd
  exact (b_cons (s_if (t_not (t_v (d_n (o_isiT (cl:=cl) (t1:="list") (t2:="tuple") rfl T.f_isinstance T.f_list T.f_tuple (by decide +kernel) (by decide +kernel)) (ZiQ (by decide) (by decide)) (n_k (k_var 1) n_nil)))) (b_one (Zdg X_BadSeries rfl hr (by decide) tk (a_cons (d_p k_non) (a_cons (d_p k_str) a_nil)))) b_nil) (b_cons (s_if (t_n (c_cmp op_gt (nomark _)) g_gt.n (n_v (d_n (b1n (o_len (cl:=cl) rfl T.f_len)) g_len.n (n_k (k_var 1) n_nil)) (n_k (ZbO (pa:=0) T.c_MOST_PIECES) n_nil))) (b_one (Zdg X_BadSeries rfl hr (by decide) tk (a_cons (d_p (ZbO (pa:=0) T.c_MOST_PIECES)) (a_cons (d_p k_str) a_nil)))) b_nil) (b_cons (s_fld (cl:=cl) rfl T.k_Series T.n_Series_known (pl_var 0) Zgd) (b_cons (s_fld (cl:=cl) rfl T.k_Series T.n_Series_held (pl_var 0) Zgd) (b_one (s_for (i_enP (cl:=cl) rfl T.f_enumerate (k_var 1)) (g_tup (Zbf (g_name 2 nd) (Zbf (g_name 3 nd) gs_nil))) (b_cons (s_set 4 (d_orN (cl:=cl) rfl (d_call H_row_fault_series hr (by decide) tk (c_lend (k_un o_fld (ZcV T.k_Series T.n_Series_known) (k_var 0)) (c_lend (k_var 3) c_nil)) (Zk (Zk dl_nil))) (d_call H_meeting_fault hr (by decide) tk (c_lend (k_un o_fld (ZcV T.k_Series T.n_Series_held) (k_var 0)) (c_lend (k_var 3) c_nil)) (Zk (Zk dl_nil)))) nd) (b_cons (s_if (Zix (n_k (k_var 4) n_nil)) (b_one (Zdg X_BadSeries rfl hr (by decide) tk (a_cons (d_p (k_var 2)) (a_cons (d_p (k_var 4)) a_nil)))) b_nil) (b_cons (ZeT hu (pl_fld T.k_Series T.n_Series_known (pl_var 0)) (d_p (k_op (o_ix (cl:=cl) rfl hu (fun _ _=>rfl)) pop_ix (k_var 3) k_int)) (d_p (k_var 3)) (hq:=fun _ _ h1 h2=>pg_sub h1 h2 (PSet.or' set_list (set_dict hu)))) (b_one (s_for (i_enD (cl:=cl) rfl T.f_enumerate (d_call H_pieces_of hr (by decide) tk (c_lend (k_var 3) c_nil) (Zk dl_nil))) (g_tup (Zbf (g_name 5 nd) (Zbf (g_name 6 nd) gs_nil))) (b_one (ZeT hu (pl_fld T.k_Series T.n_Series_held (pl_var 0)) (d_p (k_op (o_ix (cl:=cl) rfl hu (fun _ _=>rfl)) pop_ix (k_var 6) k_int)) (d_tup (a_cons (d_p (k_op (o_ix (cl:=cl) rfl hu (fun _ _=>rfl)) pop_ix (k_var 3) k_int)) (a_cons (d_p (k_var 5)) a_nil))) (hq:=fun _ _ h1 h2=>pg_sub h1 h2 (PSet.or' set_list (set_dict hu))))) (passes_of rfl)))))) (passes_of rfl)))))))
theorem sc__law_cell:FnScope ZdR ["_law_script","_law_k"] (defScope Zbz):=⟨rfl,rfl,rfl,by decide +kernel,rfl,by decide +kernel,by decide +kernel⟩
theorem Zgy (hK:cl.K = K) (hX:xf = xfG) (T:TxW cl mg) (Fd:FunD K "_law_cell" "_law_cell" (defArgs Zbz) (defBody Zbz) (defScope Zbz) [] [] f fd) :FnG P w K mg base (L2.CX P w) 1 f fd ["_law_script","_law_k"] (spF cl xf 2 ZbM):=by
  subst hK; subst hX
  refine fn_ok (N:=ZdR) (ws:=fun _=>false) (ds:=Zb9) (io:=[false,false]) Fd sc__law_cell rfl (by decide) (fun _ _=>rfl) fun cdv A outer s H E hr=>?_
  have tk:=takes_of (X:=cxOf (L2.CX P w) P w cl.K mg base ZdR "_law_cell" (defScope Zbz) f cdv A outer s H E) (E:=E) rfl rfl rfl rfl
  have hu:=huG hr; have hu2:=hu65 hr; have nd:=sc__law_cell.nd
  exact (b_cons (s_if (t_n (c_cmp op_lt (nomark _)) g_lt.n (n_k (k_var 1) (n_v (d_n (b1n (o_len (cl:=cl) rfl T.f_len)) g_len.n (n_k (k_var 0) n_nil)) n_nil))) (b_one (s_ret (d_p (k_op (o_ix (cl:=cl) rfl hu (fun _ _=>rfl)) pop_ix (k_var 0) (k_var 1))))) b_nil) (b_cons (s_if (t_n (c_cmp (op_eqD hr.units) (nomark _)) g_eq.n (n_v (d_n (b1n (o_len (cl:=cl) rfl T.f_len)) g_len.n (n_k (k_var 0) n_nil)) (n_k k_int n_nil))) (b_one (s_ret (d_n (b2n (o_addB (cl:=cl) rfl)) na_add.n (n_v (d_n (b2n o_mulA) na_mul.n (n_k k_int (n_k (k_var 1) n_nil))) (n_k k_int n_nil))))) b_nil) (b_one (s_ret (d_n (b2n (o_addB (cl:=cl) rfl)) na_add.n (n_v (d_n (b2n o_div) g_div.n (n_v (d_n (b2n (o_ix (cl:=cl) rfl hu (fun _ _=>rfl))) g_ix.n (n_k (k_var 0) (n_v (d_n (b2n o_mod) g_mod.n (n_k (k_var 1) (n_v (d_n (b1n (o_len (cl:=cl) rfl T.f_len)) g_len.n (n_k (k_var 0) n_nil)) n_nil))) n_nil))) (n_v (d_n (b2n (o_addB (cl:=cl) rfl)) na_add.n (n_k (k_var 1) (n_k k_int n_nil))) n_nil))) (n_v (d_n (b2n o_mulA) na_mul.n (n_k k_int (n_k (k_var 1) n_nil))) n_nil)))))))
theorem sc_Pieces_told:FnScope ZcZ ["self"] (defScope Zbb):=⟨rfl,rfl,rfl,by decide +kernel,rfl,by decide +kernel,by decide +kernel⟩
theorem Zfr (hK:cl.K = K) (hX:xf = xfG) (T:TxW cl mg) (Fd:FunD K "told" "Pieces.told" (defArgs Zbb) (defBody Zbb) (defScope Zbb) [] [] f fd) :FnG P w K mg base (L2.CX P w) 1 f fd ["self"] (spF cl xf 1 Zj):=by
  subst hK; subst hX
  refine fn_ok (N:=ZcZ) (ws:=fun _=>false) (ds:=ZbF) (io:=[false]) Fd sc_Pieces_told rfl (by decide) (fun _ _=>rfl) fun cdv A outer s H E hr=>?_
  have tk:=takes_of (X:=cxOf (L2.CX P w) P w cl.K mg base ZcZ "Pieces.told" (defScope Zbb) f cdv A outer s H E) (E:=E) rfl rfl rfl rfl
  have hu:=huG hr; have hu2:=hu65 hr; have nd:=sc_Pieces_told.nd
  exact (b_one (s_ret (d_n (ZhX T.f_tuple) na_valsT.n (n_k (k_un o_fld (ZcV T.k_Pieces T.n_Pieces_fives) (k_var 0)) n_nil))))
theorem sc_Series_told:FnScope ZcY ["self"] (defScope Zba):=⟨rfl,rfl,rfl,by decide +kernel,rfl,by decide +kernel,by decide +kernel⟩
theorem Zfq (hK:cl.K = K) (hX:xf = xfG) (T:TxW cl mg) (Fd:FunD K "told" "Series.told" (defArgs Zba) (defBody Zba) (defScope Zba) [] [] f fd) :FnG P w K mg base (L2.CX P w) 1 f fd ["self"] (spF cl xf 1 Zi):=by
  subst hK; subst hX
  refine fn_ok (N:=ZcY) (ws:=fun _=>false) (ds:=ZbE) (io:=[false]) Fd sc_Series_told rfl (by decide) (fun _ _=>rfl) fun cdv A outer s H E hr=>?_
  have tk:=takes_of (X:=cxOf (L2.CX P w) P w cl.K mg base ZcY "Series.told" (defScope Zba) f cdv A outer s H E) (E:=E) rfl rfl rfl rfl
  have hu:=huG hr; have hu2:=hu65 hr; have nd:=sc_Series_told.nd
  exact (b_one (s_ret (d_n (ZhX T.f_tuple) na_valsT.n (n_k (k_un o_fld (ZcV T.k_Series T.n_Series_known) (k_var 0)) n_nil))))
theorem sc_Series_names:FnScope ZcE ["self"] (defScope Z3):=⟨rfl,rfl,rfl,by decide +kernel,rfl,by decide +kernel,by decide +kernel⟩
theorem ZeZ (hK:cl.K = K) (hX:xf = xfG) (T:TxW cl mg) (Fd:FunD K "names" "Series.names" (defArgs Z3) (defBody Z3) (defScope Z3) [] [] f fd) :FnG P w K mg base (L2.CX P w) 1 f fd ["self"] (spF cl xf 1 Zp):=by
  subst hK; subst hX
  refine fn_ok (N:=ZcE) (ws:=fun _=>false) (ds:=ZbA) (io:=[false]) Fd sc_Series_names rfl (by decide) (fun _ _=>rfl) fun cdv A outer s H E hr=>?_
  have tk:=takes_of (X:=cxOf (L2.CX P w) P w cl.K mg base ZcE "Series.names" (defScope Z3) f cdv A outer s H E) (E:=E) rfl rfl rfl rfl
  have hu:=huG hr; have hu2:=hu65 hr; have nd:=sc_Series_names.nd
  exact (b_one (s_ret (d_n (ZjA (cl:=cl) rfl T.f_list) na_list.n (n_k (k_un o_fld (ZcV T.k_Series T.n_Series_known) (k_var 0)) n_nil))))
theorem sc__law_thing:FnScope Zdp ["_law_box_here"] (defScope Zbj):=⟨rfl,rfl,rfl,by decide +kernel,rfl,by decide +kernel,by decide +kernel⟩
theorem ZfV (hK:cl.K = K) (hX:xf = xfG) (T:TxW cl mg) (Fd:FunD K "_law_thing" "_law_thing" (defArgs Zbj) (defBody Zbj) (defScope Zbj) [] [] f fd) (H__law_take:Fn cl xf P w K mg base "_law_take" 1 2 Za):FnG P w K mg base (L2.CX P w) 2 f fd ["_law_box_here"] (spF cl xf 1 Zbd):=by
  subst hK; subst hX
  refine fn_ok (N:=Zdp) (ws:=fun i=>[1].contains i) (ds:=Zcg) (io:=[true]) Fd sc__law_thing rfl (by decide) (ioOk (by decide)) fun cdv A outer s H E hr=>?_
  have tk:=takes_of (X:=cxOf (L2.CX P w) P w cl.K mg base Zdp "_law_thing" (defScope Zbj) f cdv A outer s H E) (E:=E) rfl rfl rfl rfl
  have hu:=huG hr; have hu2:=hu65 hr; have nd:=sc__law_thing.nd
  exact (b_cons (s_set 1 (d_lst (a_cons (d_p k_non) (a_cons (d_p k_bl) (a_cons (d_p k_bl) (a_cons (d_p k_int) (a_cons (d_p k_int) (a_cons (d_n (b2n o_sub) g_sub.n (n_k k_int (n_k k_int n_nil))) (a_cons (d_p k_int) (a_cons (d_p k_int) (a_cons (d_n (b2n o_pow) g_pow.n (n_k k_int (n_k k_int n_nil))) (a_cons (d_n (b2n o_sub) g_sub.n (n_k k_int (n_v (d_n (b2n o_pow) g_pow.n (n_k k_int (n_k k_int n_nil))) n_nil))) (a_cons (d_p k_str) (a_cons (d_p k_str) (a_cons (d_p k_str) (a_cons (d_p k_str) (a_cons (d_p k_str) (a_cons (d_p k_str) (a_cons (d_p k_str) a_nil)))))))))))))))))) nd) (b_cons (s_set 1 (d_n (b2n (o_addB (cl:=cl) rfl)) na_add.n (n_k (k_var 1) (n_v (d_lst (a_cons (d_p k_str) (a_cons (d_p k_str) (a_cons (d_p k_str) (a_cons (d_p k_str) (a_cons (d_p k_str) (a_cons (d_p k_str) (a_cons (d_p k_str) (a_cons (d_p k_str) (a_cons (d_p k_str) (a_cons (d_p k_str) (a_cons (d_p k_str) (a_cons (d_p k_str) (a_cons (d_p k_str) a_nil)))))))))))))) n_nil))) nd) (b_cons (s_set 1 (d_n (b2n (o_addB (cl:=cl) rfl)) na_add.n (n_k (k_var 1) (n_v (d_lst (a_cons (d_lst a_nil) (a_cons (d_tup a_nil) (a_cons Zgd (a_cons (d_lst (a_cons (d_p k_int) a_nil)) (a_cons (d_tup (a_cons (d_p k_int) a_nil)) (a_cons (d_tup (a_cons (d_p k_str) (a_cons (d_p k_int) (a_cons (d_p k_int) (a_cons (d_p k_int) a_nil))))) (a_cons (d_disp (Zk4 k_str (d_p k_int) pr_nil)) (a_cons (d_lst (a_cons (d_lst (a_cons (d_p k_str) (a_cons (d_p k_int) (a_cons (d_p k_int) (a_cons (d_p k_int) a_nil))))) a_nil)) (a_cons (d_p k_str) (a_cons (d_p k_str) a_nil))))))))))) n_nil))) nd) (b_one (s_ret (d_ni (b2n (o_ix (cl:=cl) rfl hu (fun _ _=>rfl))) g_ix.n (z_l 1 (z_v (d_io H__law_take hr (by decide) tk (q_o 0 (q_val (d_p k_int) q_nil)) rfl) z_nil))))))))
theorem sc_Series_row:FnScope Zdr ["self","name"] (defScope Zbl):=⟨rfl,rfl,rfl,by decide +kernel,rfl,by decide +kernel,by decide +kernel⟩
theorem ZfY (hK:cl.K = K) (hX:xf = xfG) (T:TxW cl mg) (Fd:FunD K "row" "Series.row" (defArgs Zbl) (defBody Zbl) (defScope Zbl) [] [] f fd) (X_NoPiece:Xc cl xf P w K mg base "NoPiece" 3 1):FnG P w K mg base (L2.CX P w) 3 f fd ["self","name"] (spF cl xf 2 Zq):=by
  subst hK; subst hX
  refine fn_ok (N:=Zdr) (ws:=fun _=>false) (ds:=Z6) (io:=[false,false]) Fd sc_Series_row rfl (by decide) (fun _ _=>rfl) fun cdv A outer s H E hr=>?_
  have tk:=takes_of (X:=cxOf (L2.CX P w) P w cl.K mg base Zdr "Series.row" (defScope Zbl) f cdv A outer s H E) (E:=E) rfl rfl rfl rfl
  have hu:=huG hr; have hu2:=hu65 hr; have nd:=sc_Series_row.nd
  exact (b_cons (s_if (t_w (w_or (t_not (t_v (d_n (b1n (o_isi (T:="str") T.f_isinstance T.f_str (by decide +kernel))) (g_isi (by decide)).n (n_k (k_var 1) n_nil)))) (w_or1 (t_n (c_cmp (Zd0 (cl:=cl) rfl hu2) rfl) na_notin.n (n_k (k_var 1) (n_k (k_un o_fld (ZcV T.k_Series T.n_Series_known) (k_var 0)) n_nil)))))) (b_one (Zdg X_NoPiece rfl hr (by decide) tk (a_cons (d_p (k_var 1)) a_nil))) b_nil) (b_one (s_ret (d_p (k_op (o_ix (cl:=cl) rfl hu (fun _ _=>rfl)) pop_ix (k_un o_fld (ZcV T.k_Series T.n_Series_known) (k_var 0)) (k_var 1))))))
theorem sc_Series_whose:FnScope ZcD ["self","name"] (defScope Z2):=⟨rfl,rfl,rfl,by decide +kernel,rfl,by decide +kernel,by decide +kernel⟩
theorem ZeY (hK:cl.K = K) (hX:xf = xfG) (T:TxW cl mg) (Fd:FunD K "whose" "Series.whose" (defArgs Z2) (defBody Z2) (defScope Z2) [] [] f fd) (X_NoPiece:Xc cl xf P w K mg base "NoPiece" 3 1):FnG P w K mg base (L2.CX P w) 3 f fd ["self","name"] (spF cl xf 2 Zn):=by
  subst hK; subst hX
  refine fn_ok (N:=ZcD) (ws:=fun _=>false) (ds:=ZR) (io:=[false,false]) Fd sc_Series_whose rfl (by decide) (fun _ _=>rfl) fun cdv A outer s H E hr=>?_
  have tk:=takes_of (X:=cxOf (L2.CX P w) P w cl.K mg base ZcD "Series.whose" (defScope Z2) f cdv A outer s H E) (E:=E) rfl rfl rfl rfl
  have hu:=huG hr; have hu2:=hu65 hr; have nd:=sc_Series_whose.nd
  exact (b_cons (s_if (t_w (w_or (t_not (t_v (d_n (b1n (o_isi (T:="str") T.f_isinstance T.f_str (by decide +kernel))) (g_isi (by decide)).n (n_k (k_var 1) n_nil)))) (w_or1 (t_n (c_cmp (Zd0 (cl:=cl) rfl hu2) rfl) na_notin.n (n_k (k_var 1) (n_k (k_un o_fld (ZcV T.k_Series T.n_Series_held) (k_var 0)) n_nil)))))) (b_one (Zdg X_NoPiece rfl hr (by decide) tk (a_cons (d_p (k_var 1)) a_nil))) b_nil) (b_one (s_ret (d_p (k_op (o_ix (cl:=cl) rfl hu (fun _ _=>rfl)) pop_ix (k_un o_fld (ZcV T.k_Series T.n_Series_held) (k_var 0)) (k_var 1))))))
theorem sc__law_asked:FnScope Zdq ["_law_series_here","_law_way","_law_thing_here"] (defScope Zbk):=⟨rfl,rfl,rfl,by decide +kernel,rfl,by decide +kernel,by decide +kernel⟩
theorem ZfX (hK:cl.K = K) (hX:xf = xfG) (T:TxW cl mg) (Fd:FunD K "_law_asked" "_law_asked" (defArgs Zbk) (defBody Zbk) (defScope Zbk) [] [] f fd) (M_Series_row:Mt cl xf P w K mg base 36 "row" 3 2 Zq) (M_Series_whose:Mt cl xf P w K mg base 36 "whose" 3 2 Zn):FnG P w K mg base (L2.CX P w) 4 f fd ["_law_series_here","_law_way","_law_thing_here"] (spF cl xf 3 ZH):=by
  subst hK; subst hX
  refine fn_ok (N:=Zdq) (ws:=fun i=>[3,4].contains i) (ds:=Zci) (io:=[false,false,false]) Fd sc__law_asked rfl (by decide) (ioOk (by decide)) fun cdv A outer s H E hr=>?_
  have tk:=takes_of (X:=cxOf (L2.CX P w) P w cl.K mg base Zdq "_law_asked" (defScope Zbk) f cdv A outer s H E) (E:=E) rfl rfl rfl rfl
  have hu:=huG hr; have hu2:=hu65 hr; have nd:=sc__law_asked.nd
  exact (b_cons (s_set 3 (d_p k_non) nd) (b_cons (s_try (n:=(fun c=>[3].contains c)) rfl tk nd (fun W' pn xe tk po=>(b_one (s_if (t_n (c_cmp (op_eqD hr.units) (nomark _)) g_eq.n (n_k (k_var 1) (n_k k_int n_nil))) (b_one (s_set 3 (d_tup (a_cons (d_p k_str) (a_cons (Zjs M_Series_row hr (by decide) tk (k_var 0) (c_lend (k_var 2) c_nil) (Zk (Zk dl_nil))) a_nil))) nd)) (b_one (s_set 3 (d_tup (a_cons (d_p k_str) (a_cons (Zjs M_Series_whose hr (by decide) tk (k_var 0) (c_lend (k_var 2) c_nil) (Zk (Zk dl_nil))) a_nil))) nd))))) (.cons (hc_as (k:=4) (m:=(fun c=>[3].contains c)) ⟨rfl,by decide,.inl T.g_NoPiece⟩ rfl rfl rfl (Zjj T.ex_NoPiece_NoPiece is_nil) (fun a oe cls d pn hz hd=>(ZiG (qs_set 3 (qe_tup (ZfS (qk_of k_str) (ZfS (qk_fld 4 3 0 T.xf_NoPiece T.xn_NoPiece_found hz hd (one_of (by decide))) ql_nil))) nd)))) (.cons (ZlB (m:=(fun c=>[3].contains c)) ⟨rfl,by decide,.inl T.g_SlackError⟩ (Zjj T.ex_NoPiece_SlackError is_nil) (fun a oe cls d pn hz hd=>(ZiG (qs_set 3 (qe_tup (ZfS (qk_of k_str) (ZfS (qk_of k_non) ql_nil))) nd)))) Hcs.nil))) (b_one (s_ret (d_mv 3)))))
theorem sc__law_one_right:FnScope Z7 ["_law_series_here","_law_rows","_law_thing_here"] (defScope Zr):=⟨rfl,rfl,rfl,by decide +kernel,rfl,by decide +kernel,by decide +kernel⟩
theorem Zeo (hK:cl.K = K) (hX:xf = xfG) (T:TxW cl mg) (Fd:FunD K "_law_one_right" "_law_one_right" (defArgs Zr) (defBody Zr) (defScope Zr) [] [] f fd) (H__law_series_pieces:Fn cl xf P w K mg base "_law_series_pieces" 1 1 Zd) (H__law_asked:Fn cl xf P w K mg base "_law_asked" 4 3 ZH):FnG P w K mg base (L2.CX P w) 5 f fd ["_law_series_here","_law_rows","_law_thing_here"] (spF cl xf 3 Z5):=by
  subst hK; subst hX
  refine fn_ok (N:=Z7) (ws:=fun i=>[3,4,5,7,9,10,11].contains i) (ds:=Zb0) (io:=[false,false,false]) Fd sc__law_one_right rfl (by decide) (ioOk (by decide)) fun cdv A outer s H E hr=>?_
  have tk:=takes_of (X:=cxOf (L2.CX P w) P w cl.K mg base Z7 "_law_one_right" (defScope Zr) f cdv A outer s H E) (E:=E) rfl rfl rfl rfl
  have hu:=huG hr; have hu2:=hu65 hr; have nd:=sc__law_one_right.nd
  exact (b_cons (s_lcP 3 (own:=[("_law_row",4)]) (i_anyP (cl:=cl) rfl (k_var 1)) (blkOk_by (own:=[("_law_row",4)]) (N:=Z7) (sc:=defScope Zr) (by decide +kernel)) (Z9 (by simp)) (uni_g fun _ _ _ _ _=>g_name 4 nd (by rfl)) uni_y (uni_e fun _ _ _ _ _=>(d_p (k_op (o_ix (cl:=cl) rfl hu (fun _ _=>rfl)) pop_ix (k_var 4) k_int))) nd (sw_true rfl rfl rfl (by decide +kernel))) (b_cons (s_lcP 5 (own:=[("_law_piece",6)]) (i_anyD (cl:=cl) rfl (d_call H__law_series_pieces hr (by decide) tk (c_lend (k_var 1) c_nil) (Zk dl_nil))) (blkOk_by (own:=[("_law_piece",6)]) (N:=Z7) (sc:=defScope Zr) (by decide +kernel)) (Z9 (by simp)) (uni_g fun _ _ _ _ _=>g_name 6 nd (by rfl)) uni_y (uni_e fun _ _ _ _ _=>(d_p (k_op (o_ix (cl:=cl) rfl hu (fun _ _=>rfl)) pop_ix (k_var 6) k_int))) nd (sw_true rfl rfl rfl (by decide +kernel))) (b_cons (s_set 7 (d_lst a_nil) nd) (b_cons (s_for (i_anyP (cl:=cl) rfl (k_var 1)) (g_name 4 nd) (b_one (s_expr (d_mut (cl:=cl) rfl Ze1 mt_extend PySem.F.plainAttrs_list PySem.F.slot_list_extend PySem.F.type_list_extend (pl_var 7) (a_cons (d_lcP (own:=[("_law_k",8)]) (Zcf T.f_range (d_p (k_op (o_ix (cl:=cl) rfl hu (fun _ _=>rfl)) pop_ix (k_var 4) k_int))) (blkOk_by (own:=[("_law_k",8)]) (N:=Z7) (sc:=defScope Zr) (by decide +kernel)) (Z9 (by simp)) (uni_g fun _ _ _ _ _=>g_name 8 nd (by rfl)) uni_y (uni_e fun _ _ _ _ _=>(d_tup (a_cons (d_p (k_op (o_ix (cl:=cl) rfl hu (fun _ _=>rfl)) pop_ix (k_var 4) k_int)) (a_cons (d_p (k_var 8)) a_nil)))) nd) a_nil)))) (passes_of rfl)) (b_cons (s_for (Zcf T.f_range (d_p k_int)) (g_name 9 nd) (b_cons (s_set 10 (d_tup (a_cons (d_p k_str) (a_cons (d_p (k_var 2)) a_nil))) nd) (b_cons (s_if (t_w (w_and (t_n (c_cmp (op_eqM hr.units) (nomark _)) g_eqM.n (n_k (k_var 9) (n_k k_int n_nil))) (w_and (t_v (d_n (b1n (o_isi (T:="str") T.f_isinstance T.f_str (by decide +kernel))) (g_isi (by decide)).n (n_k (k_var 2) n_nil))) (w_and1 (t_n (c_cmp (opk_in (cl:=cl) rfl hu2) rfl) na_in.n (n_k (k_var 2) (n_k (k_var 3) n_nil))))))) (b_one (s_set 10 (d_tup (a_cons (d_p k_str) (a_cons (d_n (b2n (o_ix (cl:=cl) rfl hu (fun _ _=>rfl))) g_ix.n (n_k (k_var 1) (n_v (d_m (bm_1 (cl:=cl) rfl PySem.F.plainAttrs_list PySem.F.slot_list_index PySem.F.type_list_index (mt_indexX hu2 (X:=_))) na_indexX.n (rt_k (k_var 3)) (n_k (k_var 2) n_nil)) n_nil))) a_nil))) nd)) b_nil) (b_cons (s_if (t_w (w_and (t_n (c_cmp (op_eqM hr.units) (nomark _)) g_eqM.n (n_k (k_var 9) (n_k k_int n_nil))) (w_and (t_v (d_n (b1n (o_isi (T:="str") T.f_isinstance T.f_str (by decide +kernel))) (g_isi (by decide)).n (n_k (k_var 2) n_nil))) (w_and1 (t_n (c_cmp (opk_in (cl:=cl) rfl hu2) rfl) na_in.n (n_k (k_var 2) (n_k (k_var 5) n_nil))))))) (b_one (s_set 10 (d_tup (a_cons (d_p k_str) (a_cons (d_n (b2n (o_ix (cl:=cl) rfl hu (fun _ _=>rfl))) g_ix.n (n_k (k_var 7) (n_v (d_m (bm_1 (cl:=cl) rfl PySem.F.plainAttrs_list PySem.F.slot_list_index PySem.F.type_list_index (mt_indexX hu2 (X:=_))) na_indexX.n (rt_k (k_var 5)) (n_k (k_var 2) n_nil)) n_nil))) a_nil))) nd)) b_nil) (b_cons (s_set 11 (d_call H__law_asked hr (by decide) tk (c_lend (k_var 0) (c_lend (k_var 9) (c_lend (k_var 2) c_nil))) (Zk (Zk (Zk dl_nil)))) nd) (b_one (s_if (t_w (w_or (t_n (c_cmp (op_neM hr.units) (nomark _)) g_neM.n (n_k (k_var 11) (n_k (k_var 10) n_nil))) (w_or1 (t_n (c_cmp (op_neM hr.units) (nomark _)) g_neM.n (n_v (d_n (b1n (o_isi (T:="bool") T.f_isinstance T.f_bool (by decide +kernel))) (g_isi (by decide)).n (n_k (k_op (o_ix (cl:=cl) rfl hu (fun _ _=>rfl)) pop_ix (k_var 11) k_int) n_nil)) (n_v (d_n (b1n (o_isi (T:="bool") T.f_isinstance T.f_bool (by decide +kernel))) (g_isi (by decide)).n (n_k (k_op (o_ix (cl:=cl) rfl hu (fun _ _=>rfl)) pop_ix (k_var 10) k_int) n_nil)) n_nil)))))) (b_one (s_ret (d_p k_bl))) b_nil)))))) (passes_of rfl)) (b_one (s_ret (d_p k_bl))))))))
theorem sc_window_fault:FnScope ZcC ["row"] (defScope Z1):=⟨rfl,rfl,rfl,by decide +kernel,rfl,by decide +kernel,by decide +kernel⟩
theorem ZeX (hK:cl.K = K) (hX:xf = xfG) (T:TxW cl mg) (Fd:FunD K "window_fault" "window_fault" (defArgs Z1) (defBody Z1) (defScope Z1) [] [] f fd) (H_is_within:Fn cl xf P w K mg base "is_within" 2 3 Zl):FnG P w K mg base (L2.CX P w) 3 f fd ["row"] (spF cl xf 1 ZS):=by
  subst hK; subst hX
  refine fn_ok (N:=ZcC) (ws:=fun _=>false) (ds:=ZbB) (io:=[false]) Fd sc_window_fault rfl (by decide) (fun _ _=>rfl) fun cdv A outer s H E hr=>?_
  have tk:=takes_of (X:=cxOf (L2.CX P w) P w cl.K mg base ZcC "window_fault" (defScope Z1) f cdv A outer s H E) (E:=E) rfl rfl rfl rfl
  have hu:=huG hr; have hu2:=hu65 hr; have nd:=sc_window_fault.nd
  exact (b_cons (s_if (t_not (t_v (d_call H_is_within hr (by decide) tk (c_lend (k_op (o_ix (cl:=cl) rfl hu (fun _ _=>rfl)) pop_ix (k_var 0) k_int) (c_lend k_int (c_val (d_n (b2n (o_addB (cl:=cl) rfl)) na_add.n (n_k (ZbO (pa:=0) T.c_MOST_TURN) (n_k k_int n_nil))) c_nil))) (Zk (Zk (ZbZ dl_nil)))))) (b_one (s_ret (d_p k_str))) b_nil) (b_cons (s_if (t_not (t_v (d_call H_is_within hr (by decide) tk (c_lend (k_op (o_ix (cl:=cl) rfl hu (fun _ _=>rfl)) pop_ix (k_var 0) k_int) (c_val (d_n (b2n (o_max T.f_max)) g_max.n (n_k k_int (n_v (d_n (b2n o_sub) g_sub.n (n_k (k_op (o_ix (cl:=cl) rfl hu (fun _ _=>rfl)) pop_ix (k_var 0) k_int) (n_k k_int n_nil))) n_nil))) (c_lend (ZbO (pa:=0) T.c_MOST_TURN) c_nil))) (Zk (ZbZ (Zk dl_nil)))))) (b_one (s_ret (d_p k_str))) b_nil) (b_cons (s_if (t_not (t_v (d_call H_is_within hr (by decide) tk (c_lend (k_op (o_ix (cl:=cl) rfl hu (fun _ _=>rfl)) pop_ix (k_var 0) k_int) (c_lend k_int (c_lend (ZbO (pa:=0) T.c_MOST_LENGTH) c_nil))) (Zk (Zk (Zk dl_nil)))))) (b_one (s_ret (d_p k_str))) b_nil) (b_cons (s_if (t_w (w_and (t_n (c_cmp (op_eqD hr.units) (nomark _)) g_eq.n (n_v (d_n (b1n (o_len (cl:=cl) rfl T.f_len)) g_len.n (n_k (k_var 0) n_nil)) (n_k k_int n_nil))) (w_and1 (t_not (t_v (d_call H_is_within hr (by decide) tk (c_lend (k_op (o_ix (cl:=cl) rfl hu (fun _ _=>rfl)) pop_ix (k_var 0) k_int) (c_lend k_int (c_lend (k_op (o_ix (cl:=cl) rfl hu (fun _ _=>rfl)) pop_ix (k_var 0) k_int) c_nil))) (Zk (Zk (Zk dl_nil))))))))) (b_one (s_ret (d_p k_str))) b_nil) (b_one (s_ret (d_p k_non)))))))
theorem sc_row_fault_pieces:FnScope ZbT ["known","row"] (defScope Zw):=⟨rfl,rfl,rfl,by decide +kernel,rfl,by decide +kernel,by decide +kernel⟩
theorem ZdI (hK:cl.K = K) (hX:xf = xfG) (T:TxW cl mg) (Fd:FunD K "row_fault" "row_fault" (defArgs Zw) (defBody Zw) (defScope Zw) [] [] f fd) (H_is_name:Fn cl xf P w K mg base "is_name" 1 1 Zz) (H_window_fault:Fn cl xf P w K mg base "window_fault" 3 1 ZS):FnG P w K mg base (L2.CX P w) 4 f fd ["known","row"] (spF cl xf 2 ZU):=by
  subst hK; subst hX
  refine fn_ok (N:=ZbT) (ws:=fun _=>false) (ds:=ZbR) (io:=[false,false]) Fd sc_row_fault_pieces rfl (by decide) (fun _ _=>rfl) fun cdv A outer s H E hr=>?_
  have tk:=takes_of (X:=cxOf (L2.CX P w) P w cl.K mg base ZbT "row_fault" (defScope Zw) f cdv A outer s H E) (E:=E) rfl rfl rfl rfl
  have hu:=huG hr; have hu2:=hu65 hr; have nd:=sc_row_fault_pieces.nd
  exact (b_cons (s_if (t_w (w_or (t_not (t_v (d_n (b1n (o_isi (T:="tuple") T.f_isinstance T.f_tuple (by decide +kernel))) (g_isi (by decide)).n (n_k (k_var 1) n_nil)))) (w_or1 (t_not (t_ch op_le op_le p_le p_le (d_p k_int) (d_n (b1n (o_len (cl:=cl) rfl T.f_len)) g_len.n (n_k (k_var 1) n_nil)) (d_p k_int)))))) (b_one (s_ret (d_p k_str))) b_nil) (b_cons (s_if (t_not (t_v (d_call H_is_name hr (by decide) tk (c_lend (k_op (o_ix (cl:=cl) rfl hu (fun _ _=>rfl)) pop_ix (k_var 1) k_int) c_nil) (Zk dl_nil)))) (b_one (s_ret (d_p k_str))) b_nil) (b_cons (s_if (t_n (c_cmp (opk_in (cl:=cl) rfl hu2) rfl) na_in.n (n_k (k_op (o_ix (cl:=cl) rfl hu (fun _ _=>rfl)) pop_ix (k_var 1) k_int) (n_k (k_var 0) n_nil))) (b_one (s_ret (d_p k_str))) b_nil) (b_one (s_ret (d_call H_window_fault hr (by decide) tk (c_lend (k_var 1) c_nil) (Zk dl_nil)))))))
theorem sc_five_of:FnScope Zfo ["row"] (defScope Zb7):=⟨rfl,rfl,rfl,by decide +kernel,rfl,by decide +kernel,by decide +kernel⟩
theorem Zia (hK:cl.K = K) (hX:xf = xfG) (T:TxW cl mg) (Fd:FunD K "five_of" "five_of" (defArgs Zb7) (defBody Zb7) (defScope Zb7) [] [] f fd) :FnG P w K mg base (L2.CX P w) 1 f fd ["row"] (spF cl xf 1 Zbo):=by
  subst hK; subst hX
  refine fn_ok (N:=Zfo) (ws:=fun _=>false) (ds:=Zca) (io:=[false]) Fd sc_five_of rfl (by decide) (fun _ _=>rfl) fun cdv A outer s H E hr=>?_
  have tk:=takes_of (X:=cxOf (L2.CX P w) P w cl.K mg base Zfo "five_of" (defScope Zb7) f cdv A outer s H E) (E:=E) rfl rfl rfl rfl
  have hu:=huG hr; have hu2:=hu65 hr; have nd:=sc_five_of.nd
  exact (b_cons (s_if (t_n (c_cmp (op_eqD hr.units) (nomark _)) g_eq.n (n_v (d_n (b1n (o_len (cl:=cl) rfl T.f_len)) g_len.n (n_k (k_var 0) n_nil)) (n_k k_int n_nil))) (b_one (s_ret (d_n (b2n (o_addB (cl:=cl) rfl)) na_add.n (n_k (k_var 0) (n_v (d_tup (a_cons (d_p (k_op (o_ix (cl:=cl) rfl hu (fun _ _=>rfl)) pop_ix (k_var 0) k_int)) a_nil)) n_nil))))) b_nil) (b_one (s_ret (d_mv 0))))
theorem sc_five_rows:FnScope ZdP ["rows"] (defScope Zbx):=⟨rfl,rfl,rfl,by decide +kernel,rfl,by decide +kernel,by decide +kernel⟩
theorem Zgv (hK:cl.K = K) (hX:xf = xfG) (T:TxW cl mg) (Fd:FunD K "five_rows" "five_rows" (defArgs Zbx) (defBody Zbx) (defScope Zbx) [] [] f fd) (H_five_of:Fn cl xf P w K mg base "five_of" 1 1 Zbo) (H_row_fault_pieces:Fn cl xf P w K mg base "row_fault_pieces" 4 2 ZU) (X_BadPieces:Xc cl xf P w K mg base "BadPieces" 1 1):FnG P w K mg base (L2.CX P w) 5 f fd ["rows"] (spF cl xf 1 ZV):=by
  subst hK; subst hX
  refine fn_ok (N:=ZdP) (ws:=fun i=>[1,2,3,4].contains i) (ds:=ZbS) (io:=[false]) Fd sc_five_rows rfl (by decide) (ioOk (by decide)) fun cdv A outer s H E hr=>?_
  have tk:=takes_of (X:=cxOf (L2.CX P w) P w cl.K mg base ZdP "five_rows" (defScope Zbx) f cdv A outer s H E) (E:=E) rfl rfl rfl rfl
  have hu:=huG hr; have hu2:=hu65 hr; have nd:=sc_five_rows.nd
  exact (b_cons (s_if (t_not (t_v (d_n (o_isiT (cl:=cl) (t1:="list") (t2:="tuple") rfl T.f_isinstance T.f_list T.f_tuple (by decide +kernel) (by decide +kernel)) (ZiQ (by decide) (by decide)) (n_k (k_var 0) n_nil)))) (b_one (Zdg X_BadPieces rfl hr (by decide) tk (a_cons (d_p k_non) (a_cons (d_p k_str) a_nil)))) b_nil) (b_cons (s_if (t_n (c_cmp op_gt (nomark _)) g_gt.n (n_v (d_n (b1n (o_len (cl:=cl) rfl T.f_len)) g_len.n (n_k (k_var 0) n_nil)) (n_k (ZbO (pa:=0) T.c_MOST_PIECES) n_nil))) (b_one (Zdg X_BadPieces rfl hr (by decide) tk (a_cons (d_p (ZbO (pa:=0) T.c_MOST_PIECES)) (a_cons (d_p k_str) a_nil)))) b_nil) (b_cons (s_set 1 Zgd nd) (b_cons (s_for (i_enP (cl:=cl) rfl T.f_enumerate (k_var 0)) (g_tup (Zbf (g_name 2 nd) (Zbf (g_name 3 nd) gs_nil))) (b_cons (s_set 4 (d_call H_row_fault_pieces hr (by decide) tk (c_lend (k_var 1) (c_lend (k_var 3) c_nil)) (Zk (Zk dl_nil))) nd) (b_cons (s_if (Zix (n_k (k_var 4) n_nil)) (b_one (Zdg X_BadPieces rfl hr (by decide) tk (a_cons (d_p (k_var 2)) (a_cons (d_p (k_var 4)) a_nil)))) b_nil) (b_one (ZeT hu (pl_var 1) (d_p (k_op (o_ix (cl:=cl) rfl hu (fun _ _=>rfl)) pop_ix (k_var 3) k_int)) (d_call H_five_of hr (by decide) tk (c_lend (k_var 3) c_nil) (Zk dl_nil)) (hq:=fun _ _ h1 h2=>pg_sub h1 h2 (PSet.or' set_list (set_dict hu))))))) (passes_of rfl)) (b_one (s_ret (d_mv 1)))))))
theorem sc_Pieces___init__:FnScope Zb3 ["self","rows"] (defScope ZE):=⟨rfl,rfl,rfl,by decide +kernel,rfl,by decide +kernel,by decide +kernel⟩
theorem Zd3 (hK:cl.K = K) (hX:xf = xfG) (T:TxW cl mg) (Fd:FunD K "__init__" "Pieces.__init__" (defArgs ZE) (defBody ZE) (defScope ZE) [] [] f fd) (H_five_rows:Fn cl xf P w K mg base "five_rows" 5 1 ZV):FnG P w K mg base (L2.CX P w) 6 f fd ["self","rows"] (spF cl xf 2 Zm):=by
  subst hK; subst hX
  refine fn_ok (N:=Zb3) (ws:=fun _=>false) (ds:=Zbi) (io:=[true,false]) Fd sc_Pieces___init__ rfl (by decide) (fun _ _=>rfl) fun cdv A outer s H E hr=>?_
  have tk:=takes_of (X:=cxOf (L2.CX P w) P w cl.K mg base Zb3 "Pieces.__init__" (defScope ZE) f cdv A outer s H E) (E:=E) rfl rfl rfl rfl
  have hu:=huG hr; have hu2:=hu65 hr; have nd:=sc_Pieces___init__.nd
  exact (b_one (s_fld (cl:=cl) rfl T.k_Pieces T.n_Pieces_fives (pl_var 0) (d_call H_five_rows hr (by decide) tk (c_lend (k_var 1) c_nil) (Zk dl_nil))))
theorem sc_row_key:FnScope Zfn ["piece"] (defScope Zb6):=⟨rfl,rfl,rfl,by decide +kernel,rfl,by decide +kernel,by decide +kernel⟩
theorem Zh8 (hK:cl.K = K) (hX:xf = xfG) (T:TxW cl mg) (Fd:FunD K "row_key" "row_key" (defArgs Zb6) (defBody Zb6) (defScope Zb6) [] [] f fd) :FnG P w K mg base (L2.CX P w) 1 f fd ["piece"] (spF cl xf 1 ZA):=by
  subst hK; subst hX
  refine fn_ok (N:=Zfn) (ws:=fun _=>false) (ds:=Zc2) (io:=[false]) Fd sc_row_key rfl (by decide) (fun _ _=>rfl) fun cdv A outer s H E hr=>?_
  have tk:=takes_of (X:=cxOf (L2.CX P w) P w cl.K mg base Zfn "row_key" (defScope Zb6) f cdv A outer s H E) (E:=E) rfl rfl rfl rfl
  have hu:=huG hr; have hu2:=hu65 hr; have nd:=sc_row_key.nd
  exact (b_one (s_ret (d_p (k_op (o_ix (cl:=cl) rfl hu (fun _ _=>rfl)) pop_ix (k_var 0) k_int))))
theorem sc_Series_pieces:FnScope Zck ["self"] (defScope ZQ):=⟨rfl,rfl,rfl,by decide +kernel,rfl,by decide +kernel,by decide +kernel⟩
theorem ZeD (hK:cl.K = K) (hX:xf = xfG) (T:TxW cl mg) (Fd:FunD K "pieces" "Series.pieces" (defArgs ZQ) (defBody ZQ) (defScope ZQ) [] [] f fd) (H_pieces_of:Fn cl xf P w K mg base "pieces_of" 1 1 Zh) (H_row_key:Fn cl xf P w K mg base "row_key" 1 1 ZA) (K_Pieces:Kc cl xf P w K mg base "Pieces" 20 6 2 Zm):FnG P w K mg base (L2.CX P w) 8 f fd ["self"] (spF cl xf 1 Zf):=by
  subst hK; subst hX
  refine fn_ok (N:=Zck) (ws:=fun i=>[1,2].contains i) (ds:=Zbr) (io:=[false]) Fd sc_Series_pieces rfl (by decide) (ioOk (by decide)) fun cdv A outer s H E hr=>?_
  have tk:=takes_of (X:=cxOf (L2.CX P w) P w cl.K mg base Zck "Series.pieces" (defScope ZQ) f cdv A outer s H E) (E:=E) rfl rfl rfl rfl
  have hu:=huG hr; have hu2:=hu65 hr; have nd:=sc_Series_pieces.nd
  exact (b_cons (s_set 1 (d_lst a_nil) nd) (b_cons (ZkS 0 (fun k=>[2].contains k) (lw_ok rfl) (ZkU 0 rfl T.k_Series T.n_Series_known (g_name 2 nd) (b_one (s_expr (d_mut (cl:=cl) rfl Ze1 mt_extend PySem.F.plainAttrs_list PySem.F.slot_list_extend PySem.F.type_list_extend (pl_var 1) (a_cons (d_call H_pieces_of hr (by decide) tk (c_lend (k_var 2) c_nil) (Zk dl_nil)) a_nil)))) (passes_of rfl))) (b_one (s_ret (d_mk K_Pieces hr (by decide) tk (c_val (d_n (Zkw (cl:=cl) rfl T.f_sorted H_row_key hr (by decide)) Zj7 (n_k (k_var 1) n_nil)) c_nil) (ZbZ dl_nil))))))
theorem sc__law_in_order:FnScope ZbV ["_law_rows"] (defScope ZF):=⟨rfl,rfl,rfl,by decide +kernel,rfl,by decide +kernel,by decide +kernel⟩
theorem ZeC (hK:cl.K = K) (hX:xf = xfG) (T:TxW cl mg) (Fd:FunD K "_law_in_order" "_law_in_order" (defArgs ZF) (defBody ZF) (defScope ZF) [] [] f fd) (H__law_series_pieces:Fn cl xf P w K mg base "_law_series_pieces" 1 1 Zd):FnG P w K mg base (L2.CX P w) 2 f fd ["_law_rows"] (spF cl xf 1 ZB):=by
  subst hK; subst hX
  refine fn_ok (N:=ZbV) (ws:=fun i=>[1,2,3].contains i) (ds:=Zcb) (io:=[false]) Fd sc__law_in_order rfl (by decide) (ioOk (by decide)) fun cdv A outer s H E hr=>?_
  have tk:=takes_of (X:=cxOf (L2.CX P w) P w cl.K mg base ZbV "_law_in_order" (defScope ZF) f cdv A outer s H E) (E:=E) rfl rfl rfl rfl
  have hu:=huG hr; have hu2:=hu65 hr; have nd:=sc__law_in_order.nd
  exact (b_cons (s_set 1 (d_call H__law_series_pieces hr (by decide) tk (c_lend (k_var 0) c_nil) (Zk dl_nil)) nd) (b_cons (s_set 2 (d_lst a_nil) nd) (b_cons (s_for (Zcf T.f_range (d_p k_int)) (g_name 3 nd) (b_one (s_expr (d_mut (cl:=cl) rfl Ze1 mt_extend PySem.F.plainAttrs_list PySem.F.slot_list_extend PySem.F.type_list_extend (pl_var 2) (a_cons (d_lcP (own:=[("_law_piece",4)]) (i_anyP (cl:=cl) rfl (k_var 1)) (blkOk_by (own:=[("_law_piece",4)]) (N:=ZbV) (sc:=defScope ZF) (by decide +kernel)) (Z9 (by simp)) (uni_g fun _ _ _ _ _=>g_name 4 nd (by rfl)) (uni_t fun _ _ _ _ _=>(t_n (c_cmp (op_eqD hr.units) (nomark _)) g_eq.n (n_k (k_op (o_ix (cl:=cl) rfl hu (fun _ _=>rfl)) pop_ix (k_var 4) k_int) (n_k (k_var 3) n_nil)))) (uni_e fun _ _ _ _ _=>(d_p (k_var 4))) nd) a_nil)))) (passes_of rfl)) (b_one (s_ret (d_mv 2))))))
theorem sc__law_right:FnScope ZbL ["_law_box_here","_law_series_here","_law_rows"] (defScope ZP):=⟨rfl,rfl,rfl,by decide +kernel,rfl,by decide +kernel,by decide +kernel⟩
theorem ZfW (hK:cl.K = K) (hX:xf = xfG) (T:TxW cl mg) (Fd:FunD K "_law_right" "_law_right" (defArgs ZP) (defBody ZP) (defScope ZP) [] [] f fd) (H__law_series_pieces:Fn cl xf P w K mg base "_law_series_pieces" 1 1 Zd) (H__law_thing:Fn cl xf P w K mg base "_law_thing" 2 1 Zbd) (H__law_one_right:Fn cl xf P w K mg base "_law_one_right" 5 3 Z5) (H__law_in_order:Fn cl xf P w K mg base "_law_in_order" 2 1 ZB) (M_Series_told:Mt cl xf P w K mg base 36 "told" 1 1 Zi) (M_Series_names:Mt cl xf P w K mg base 36 "names" 1 1 Zp) (M_Series_pieces:Mt cl xf P w K mg base 36 "pieces" 8 1 Zf) (M_Pieces_told:Mt cl xf P w K mg base 20 "told" 1 1 Zj):FnG P w K mg base (L2.CX P w) 9 f fd ["_law_box_here","_law_series_here","_law_rows"] (spF cl xf 3 ZM):=by
  subst hK; subst hX
  refine fn_ok (N:=ZbL) (ws:=fun i=>[3,5,7].contains i) (ds:=ZbI) (io:=[true,false,false]) Fd sc__law_right rfl (by decide) (ioOk (by decide)) fun cdv A outer s H E hr=>?_
  have tk:=takes_of (X:=cxOf (L2.CX P w) P w cl.K mg base ZbL "_law_right" (defScope ZP) f cdv A outer s H E) (E:=E) rfl rfl rfl rfl
  have hu:=huG hr; have hu2:=hu65 hr; have nd:=sc__law_right.nd
  exact (b_cons (s_if (t_w (w_or (t_n (c_cmp (op_neD hr.units) (nomark _)) g_ne.n (n_v (Zcp M_Series_told hr (by decide) tk (k_var 1) (Zk dl_nil)) (n_v (d_n (bn_tup (cl:=cl) rfl T.f_tuple) na_tup.n (n_k (k_var 2) n_nil)) n_nil))) (w_or (t_not (t_v (d_n (b1n (o_isi (T:="tuple") T.f_isinstance T.f_tuple (by decide +kernel))) (g_isi (by decide)).n (n_v (Zcp M_Series_told hr (by decide) tk (k_var 1) (Zk dl_nil)) n_nil)))) (w_or1 (t_not (t_v (d_n (b1n (o_isi (T:="list") T.f_isinstance T.f_list (by decide +kernel))) (g_isi (by decide)).n (n_v (Zcp M_Series_names hr (by decide) tk (k_var 1) (Zk dl_nil)) n_nil)))))))) (b_one (s_ret (d_p k_bl))) b_nil) (b_cons (s_set 3 (Zcp M_Series_names hr (by decide) tk (k_var 1) (Zk dl_nil)) nd) (b_cons (s_if (t_n (c_cmp (op_neD hr.units) (nomark _)) g_ne.n (n_k (k_var 3) (n_v (d_lcP (own:=[("_law_row",4)]) (i_anyP (cl:=cl) rfl (k_var 2)) (blkOk_by (own:=[("_law_row",4)]) (N:=ZbL) (sc:=defScope ZP) (by decide +kernel)) (Z9 (by simp)) (uni_g fun _ _ _ _ _=>g_name 4 nd (by rfl)) uni_y (uni_e fun _ _ _ _ _=>(d_p (k_op (o_ix (cl:=cl) rfl hu (fun _ _=>rfl)) pop_ix (k_var 4) k_int))) nd) n_nil))) (b_one (s_ret (d_p k_bl))) b_nil) (b_cons (s_expr (d_app 3 (d_p k_str) (hq:=fun _ h=>pe_bm PySem.F.plainAttrs_list PySem.F.slot_list_append PySem.F.type_list_append mt_append (pv 3) (pa_cons h pa_nil)))) (b_cons (s_set 5 (d_n (b2n (o_addB (cl:=cl) rfl)) na_add.n (n_v (d_lcP (own:=[("_law_row",4)]) (i_anyP (cl:=cl) rfl (k_var 2)) (blkOk_by (own:=[("_law_row",4)]) (N:=ZbL) (sc:=defScope ZP) (by decide +kernel)) (Z9 (by simp)) (uni_g fun _ _ _ _ _=>g_name 4 nd (by rfl)) uni_y (uni_e fun _ _ _ _ _=>(d_p (k_op (o_ix (cl:=cl) rfl hu (fun _ _=>rfl)) pop_ix (k_var 4) k_int))) nd) (n_v (d_lcP (own:=[("_law_piece",6)]) (i_anyD (cl:=cl) rfl (d_call H__law_series_pieces hr (by decide) tk (c_lend (k_var 2) c_nil) (Zk dl_nil))) (blkOk_by (own:=[("_law_piece",6)]) (N:=ZbL) (sc:=defScope ZP) (by decide +kernel)) (Z9 (by simp)) (uni_g fun _ _ _ _ _=>g_name 6 nd (by rfl)) uni_y (uni_e fun _ _ _ _ _=>(d_p (k_op (o_ix (cl:=cl) rfl hu (fun _ _=>rfl)) pop_ix (k_var 6) k_int))) nd) n_nil))) nd) (b_cons (s_for (i_anyD (cl:=cl) rfl (d_ni (b2n (o_addB (cl:=cl) rfl)) na_add.n (z_l 5 (z_v (d_lst (a_cons (d_io H__law_thing hr (by decide) tk (q_o 0 q_nil) rfl) (a_cons (d_io H__law_thing hr (by decide) tk (q_o 0 q_nil) rfl) (a_cons (d_p k_str) (a_cons (d_lst (a_cons (d_p k_str) a_nil)) (a_cons (d_p k_str) a_nil)))))) z_nil)))) (g_name 7 nd) (b_one (s_if (t_not (t_v (d_call H__law_one_right hr (by decide) tk (c_lend (k_var 1) (c_lend (k_var 2) (c_lend (k_var 7) c_nil))) (Zk (Zk (Zk dl_nil)))))) (b_one (s_ret (d_p k_bl))) b_nil)) (passes_of rfl)) (b_one (s_ret (d_and (d_n (b1n (o_iso (cl:=cl) rfl T.f_isinstance T.g_Pieces)) (g_iso T.ic_Pieces_Pieces).n (n_v (Zcp M_Series_pieces hr (by decide) tk (k_var 1) (Zk dl_nil)) n_nil)) (d_one (d_n (b2n (o_cmp (op_eqD hr.units) (nomark _))) g_eq.n (n_v (Zd9 M_Pieces_told hr (by decide) tk (Zcp M_Series_pieces hr (by decide) tk (k_var 1) (Zk dl_nil)) (ZbZ dl_nil)) (n_v (d_n (bn_tup (cl:=cl) rfl T.f_tuple) na_tup.n (n_v (d_call H__law_in_order hr (by decide) tk (c_lend (k_var 2) c_nil) (Zk dl_nil)) n_nil)) n_nil)))))))))))))
theorem sc_law:FnScope N_law ["_law_script"] (defScope s_law):=⟨rfl,rfl,rfl,by decide +kernel,rfl,by decide +kernel,by decide +kernel⟩
theorem ok_law (hK:cl.K = K) (hX:xf = xfG) (T:TxW cl mg) (Fd:FunD K "law" "law" (defArgs s_law) (defBody s_law) (defScope s_law) [] [] f fd) (H__law_box:Fn cl xf P w K mg base "_law_box" 1 1 Zb4) (H__law_cell:Fn cl xf P w K mg base "_law_cell" 1 2 ZbM) (H__law_series:Fn cl xf P w K mg base "_law_series" 3 2 ZL) (H__law_take:Fn cl xf P w K mg base "_law_take" 1 2 Za) (H__law_in_order:Fn cl xf P w K mg base "_law_in_order" 2 1 ZB) (H__law_right:Fn cl xf P w K mg base "_law_right" 9 3 ZM) (M_Pieces_told:Mt cl xf P w K mg base 20 "told" 1 1 Zj) (M_Series_pieces:Mt cl xf P w K mg base 36 "pieces" 8 1 Zf) (M_Series_told:Mt cl xf P w K mg base 36 "told" 1 1 Zi) (K_Series:Kc cl xf P w K mg base "Series" 36 4 2 Zb):FnG P w K mg base (L2.CX P w) 10 f fd ["_law_script"] (spF cl xf 1 ZcU):=by
  subst hK; subst hX
  refine fn_ok (N:=N_law) (ws:=fun i=>[1,2,3,4,5,6,7].contains i) (ds:=Zfl) (io:=[false]) Fd sc_law rfl (by decide) (ioOk (by decide)) fun cdv A outer s H E hr=>?_
  have tk:=takes_of (X:=cxOf (L2.CX P w) P w cl.K mg base N_law "law" (defScope s_law) f cdv A outer s H E) (E:=E) rfl rfl rfl rfl
  have hu:=huG hr; have hu2:=hu65 hr; have nd:=sc_law.nd
  exact (b_cons (s_for (Zcf T.f_range (d_n (b2n (o_max T.f_max)) g_max.n (n_k k_int (n_v (d_n (b2n (o_min T.f_min)) g_min.n (n_v (d_n (b1n (o_len (cl:=cl) rfl T.f_len)) g_len.n (n_k (k_var 0) n_nil)) (n_k k_int n_nil))) n_nil)))) (g_name 1 nd) (b_cons (s_set 2 (d_call H__law_box hr (by decide) tk (c_val (d_call H__law_cell hr (by decide) tk (c_lend (k_var 0) (c_lend (k_var 1) c_nil)) (Zk (Zk dl_nil))) c_nil) (ZbZ dl_nil)) nd) (b_cons (s_set 3 (d_io H__law_series hr (by decide) tk (q_o 2 (q_val (d_p k_int) q_nil)) rfl) nd) (b_cons (s_set 4 (d_io H__law_series hr (by decide) tk (q_o 2 (q_val (d_p k_int) q_nil)) rfl) nd) (b_cons (s_set 5 (d_n (ZjA (cl:=cl) rfl T.f_list) na_list.n (n_k (k_var 3) n_nil)) nd) (b_cons (s_set 6 (d_ni (b2n (o_ix (cl:=cl) rfl hu (fun _ _=>rfl))) g_ix.n (z_v (d_lst (a_cons (d_mk K_Series hr (by decide) tk (c_lend (k_var 5) c_nil) (Zk dl_nil)) (a_cons (d_mk K_Series hr (by decide) tk (c_val (d_fr (d_fr (d_n (bn_tup (cl:=cl) rfl T.f_tuple) na_tup.n (n_k (k_var 5) n_nil)))) c_nil) (ZbZ dl_nil)) a_nil))) (z_v (d_io H__law_take hr (by decide) tk (q_o 2 (q_val (d_p k_int) q_nil)) rfl) z_nil))) nd) (b_cons (s_set 7 (d_mk K_Series hr (by decide) tk (c_lend (k_var 4) c_nil) (Zk dl_nil)) nd) (b_cons (s_expr (d_app 5 (d_tup (a_cons (d_p k_str) (a_cons (d_p k_int) (a_cons (d_p k_int) (a_cons (d_p k_int) (a_cons (d_p k_int) (a_cons (d_p k_int) a_nil))))))) (hq:=fun _ h=>pe_bm PySem.F.plainAttrs_list PySem.F.slot_list_append PySem.F.type_list_append mt_append (pv 5) (pa_cons h pa_nil)))) (b_cons (s_if (t_w (w_and (t_ni (c_cmp (op_eqD hr.units) (nomark _)) g_eq.n (z_v (d_io H__law_take hr (by decide) tk (q_o 2 (q_val (d_p k_int) q_nil)) rfl) (z_v (d_p k_int) z_nil))) (w_and1 (t_n (c_cmp (op_neD hr.units) (nomark _)) g_ne.n (n_v (Zd9 M_Pieces_told hr (by decide) tk (Zcp M_Series_pieces hr (by decide) tk (k_var 6) (Zk dl_nil)) (ZbZ dl_nil)) (n_v (d_n (bn_tup (cl:=cl) rfl T.f_tuple) na_tup.n (n_v (d_call H__law_in_order hr (by decide) tk (c_lend (k_var 3) c_nil) (Zk dl_nil)) n_nil)) n_nil)))))) (b_one (s_ret (d_p k_bl))) b_nil) (b_one (s_if (t_w (w_or (t_not (t_v (d_io H__law_right hr (by decide) tk (q_o 2 (q_l 6 (q_l 3 q_nil))) rfl))) (w_or (t_not (t_v (d_io H__law_right hr (by decide) tk (q_o 2 (q_l 7 (q_l 4 q_nil))) rfl))) (w_or1 (t_n (c_cmp (op_neD hr.units) (nomark _)) g_ne.n (n_v (Zcp M_Series_told hr (by decide) tk (k_var 6) (Zk dl_nil)) (n_v (d_n (bn_tup (cl:=cl) rfl T.f_tuple) na_tup.n (n_k (k_var 3) n_nil)) n_nil))))))) (b_one (s_ret (d_p k_bl))) b_nil)))))))))) (passes_of rfl)) (b_one (s_ret (d_and (d_n (b2n (o_cmp (op_eqD hr.units) (nomark _))) g_eq.n (n_v (Zd9 M_Pieces_told hr (by decide) tk (Zd9 M_Series_pieces hr (by decide) tk (d_mk K_Series hr (by decide) tk (c_val (d_fr (d_lst a_nil)) c_nil) (ZbZ dl_nil)) (ZbZ dl_nil)) (ZbZ dl_nil)) (n_v (d_tup a_nil) n_nil))) (d_one (d_n (b2n (o_cmp (op_eqD hr.units) (nomark _))) g_eq.n (n_v (Zd9 M_Series_told hr (by decide) tk (d_mk K_Series hr (by decide) tk (c_val (d_fr (d_tup a_nil)) c_nil) (ZbZ dl_nil)) (ZbZ dl_nil)) (n_v (d_tup a_nil) n_nil))))))))
end
end Lw
namespace Lw
open PySem PySem.Spec PyProof.Rows L2 Fs
abbrev boxD (a b c:Int):D:=.n .lst .own [.int a,.int b,.int c]
def IsBox (d:D):Prop:=∃ a b c:Int,d = boxD a b c ∧ 0 ≤ b ∧ b < 2147483647
theorem IsBox.free {d:D} (h:IsBox d):d.free = true:=by obtain ⟨a,b,c,rfl,_⟩:=h; rfl
theorem emod_b (x m:Int) (h:0 < m):0 ≤ x % m ∧ x % m < m:=⟨Int.emod_nonneg x (by omega),Int.emod_lt_of_pos x h⟩
theorem ZjN {d:D} {m:Int} (h:IsBox d) (hm:0 < m) (hm2:m < 1606938044258990275541962092341162602522202993782792835301376):sat (Za [d,.int m]) fun y ios=>∃ r d',y = .int r ∧ ios = [some d',none] ∧ 0 ≤ r ∧ r < m ∧ IsBox d':=by
  obtain ⟨a,b,c,rfl,hb,hb2⟩:=h
  refine sat_F rfl ?_
  by_cases ha:0 < a
  · simp [Zcq,ha,cMod_p hm,cDiv_w hm hm2,ioF]
    exact ⟨(emod_b a m hm).1,(emod_b a m hm).2,_,_,_,rfl,hb,hb2⟩
  · have h1:=emod_b (b * 48271 + 7919 * (c + 1) + 11) 2147483629 (by omega)
    generalize hx:(b * 48271 + 7919 * (c + 1) + 11) % 2147483629 = n1 at h1
    have h2:=emod_b (n1 * n1 % 2147483587 * 69621) 2147483647 (by omega)
    generalize hy:n1 * n1 % 2147483587 * 69621 % 2147483647 = n2 at h2
    have e1:cMul n1 n1 = true:=cMul_l (by omega)
    have e2:cMul n2 n2 = true:=cMul_l (by omega)
    have e3:∀ i,cMul i 48271 = true:=fun i=>cMul_r (by decide)
    have e4:∀ i,cMul 7919 i = true:=fun i=>cMul_l (by decide)
    have e5:∀ i,cMul i 69621 = true:=fun i=>cMul_r (by decide)
    have e6:∀ i j:Int,0 < j → cMod i j = true:=fun i j h=>cMod_p h
    have e7:∀ i,cDiv i 8 = true:=fun i=>cDiv_p (by decide) (by decide)
    simp [Zcq,ha,e1,e2,e3,e4,e5,e6,e7,hm,hx,hy,ioF]
    exact ⟨(emod_b _ m hm).1,(emod_b _ m hm).2,_,_,_,rfl,hb,hb2⟩
theorem ZN {d:D} {m:Int} (h:IsBox d) (hm:0 < m) (hm2:m < 1073741824):sat (Za [d,.int m]) fun y ios=>∃ r d',y = .int r ∧ ios = [some d',none] ∧ 0 ≤ r ∧ r < m ∧ IsBox d':=ZjN h hm (by omega)
@[simp] theorem Znn {i j:Int}:eqD (.v (.int i)) (.v (.int j)) = some (.v (.bl (decide (i = j)))):=by
  have h1:∀ k:Int,SeqAt.shaped (.int k) = true:=fun k=>rfl
  simp only [eqD,pd,Option.bind_some,h1,and_self,if_true]
  simp only [PyData.eqv,Option.some.injEq,D.v.injEq,V.bl.injEq]; by_cases h:i = j <;> simp [h]
@[simp] theorem Zm2 {i j:Int}:neD (.v (.int i)) (.v (.int j)) = some (.v (.bl (!decide (i = j)))):=by
  have h1:∀ k:Int,SeqAt.shaped (.int k) = true:=fun k=>rfl
  simp only [neD,pd,Option.bind_some,h1,and_self,if_true]
  simp only [PyData.eqv,Option.some.injEq,D.v.injEq,V.bl.injEq]; by_cases h:i = j <;> simp [h]
theorem Zf4 {ns:List Int}:lenD (.s ns) = some (.int (ns.length:Int)):=rfl
theorem box_sp (i:Int):sat (Zb4 [.int i]) fun y _=>IsBox y:=by
  refine sat_F rfl ?_
  have e1:cMod i 2147483647 = true:=cMod_p (by decide)
  have h:=emod_b i 2147483647 (by decide)
  have e2:powD (.v (.int 10)) (.v (.int 18)) = some (.v (.int (10 ^ 18))):=rfl
  simp [ZdL,e1,e2,mkLst]
  exact ⟨_,_,_,rfl,h.1,h.2⟩
theorem ZlO (ns:List Int) (k:Nat) (hk:k ≤ 100):sat (ZbM [.s ns,.int (k:Int)]) fun y _=>∃ i,y = .int i:=by
  refine sat_F rfl ?_
  by_cases h:k < ns.length
  · have e:ixD (.s ns) (.v (.int (k:Int))) = some (.int ns[k]):=by
      simp only [ixD,atI,ixN]
      simp [h]
    simp [Zb9,Zf4,h,e]
  · have h3:¬ ((k:Int) < ns.length):=by omega
    by_cases h0:ns.length = 0
    · have e1:cMul 48271 (k:Int) = true:=cMul_l (by decide)
      have h4:¬ ((k:Int) < 0):=by omega
      simp [Zb9,Zf4,h0,h4,e1]
    · have h5:¬ (ns = []):=fun z=>h0 (by rw [z]; rfl)
      have e1:cMod (k:Int) (ns.length:Int) = true:=cMod_p (by omega)
      have hm:=emod_b (k:Int) (ns.length:Int) (by omega)
      have e2:ixK (.s ns) (.v (.int ((k:Int) % (ns.length:Int)))) = some (.int (ns[((k:Int) % (ns.length:Int)).toNat]'(by omega))):=by
        simp only [ixK,ixD,atI,ixN]
        have:((k:Int) % (ns.length:Int)).toNat < ns.length:=by omega
        simp [hm.1,hm.2,this]
      have e3:∀ i:Int,cDiv i ((k:Int) + 1) = true:=fun i=>cDiv_p (by omega) (by omega)
      have e4:cMul 7919 (k:Int) = true:=cMul_l (by decide)
      simp [Zb9,Zf4,h,h3,h5,e1,e2,e3,e4]
end Lw
namespace Lw
open PySem PySem.Spec PyProof.Rows L2 Fs
section
variable {s:Sl}
theorem Zv {N:Nat} {io:List Bool} {ds:DS} {args:List D} {d:D} (hl:args.length = io.length) (h:sat (ds (args.map some ++ List.replicate (N - args.length) none)) fun f _=>match f with | .nx=>d = .non | .rt x=>x = d | _=>False):callK (runF N io ds) args s = .ok d s:=by
  have h2:sat (runF N io ds args) fun y _=>y = d:=sat_F hl (Zg h fun f s h=>by cases f <;> first | exact h.symm | exact h)
  obtain ⟨y,s',e,rfl⟩:=h2
  exact ZeL e
@[simp] theorem Zl1 {i:Int}:isiD "int" (.v (.int i)) = some (.v (.bl true)):=rfl
@[simp] theorem ZlV {i:Int}:isiD "bool" (.v (.int i)) = some (.v (.bl false)):=rfl
@[simp] theorem Zl0 {z:Str}:isiD "str" (.v (.str z)) = some (.v (.bl true)):=rfl
@[simp] theorem Znc {w:Fl} {ds:List D}:isiD "tuple" (.n .tup w ds) = some (.v (.bl true)):=rfl
@[simp] theorem ZlW {i:Int}:callK Z8 [.v (.int i)] s = .ok (.v (.bl true)) s:=Zv rfl (by simp [ZX])
@[simp] theorem Zlv {i lo hi:Int}:callK Zl [.v (.int i),.v (.int lo),.v (.int hi)] s = .ok (.v (.bl (decide (lo ≤ i) && decide (i ≤ hi)))) s:=Zv rfl (by
  by_cases h:lo ≤ i <;> simp [Z4,h])
abbrev sg (c:Nat):D:=D.str ⟨#[c]⟩
def LF:List Nat:=(("abcdefghijklmnopqrstuvwxyz":Str) ++ ("0123456789":Str)).cps.toList
def LT:List Nat:=("abcdefghijklmnopqrstuvwxyz":Str).cps.toList
theorem Zdj (z:Str):z.length = z.cps.toList.length:=by simp [Str.length]
theorem Str.ext' {a b:Str} (h:a.cps.toList = b.cps.toList):a = b:=by
  obtain ⟨⟨x⟩⟩:=a; obtain ⟨⟨y⟩⟩:=b
  simp only at h
  rw [h]
def nameB (cs:List Nat):Bool:=match cs with
  | []=>false
  | c :: _=>decide (cs.length ≤ 8) && (decide (c ∈ LT) && cs.all fun c=>decide (c ∈ LF))
theorem ZhY (f:Nat → Bool):∀ cs:List Nat,Fs.allB (cs.map fun c=>D.bl (f c)) = some (cs.all f)
  | []=>rfl
  | c :: cs=>by simp [Fs.allB,ZhY f cs]
theorem Zfm {i:Nat} {tst:DT} {elt:DE} {g:D → D} {t:D → Bool} {δ:Sl} (hw:δ.set i none = δ):∀ (its acc:List D),(∀ d ∈ its,tst (δ.set i (some d)) = .ok (t d) (δ.set i (some d)) ∧ (t d = true → elt (δ.set i (some d)) = .ok (g d) (δ.set i (some d)) ∧ frz (g d) = g d)) → acc.length + its.length ≤ 100000 → comp [i] (tgN i) tst elt its acc δ = .ok (acc ++ (its.filter t).map g) δ
  | [],acc,_,_=>by simp [comp]
  | d :: its,acc,h,hl=>by
    have h1:=h d List.mem_cons_self
    unfold comp
    have e0:(tgN i) d δ = some (δ.set i (some d)):=rfl
    have e1:wipeD (δ.set i (some d)) [i] = δ:=by simp only [wipeD,List.set_set]; exact hw
    simp only [e0,h1.1,noX_ok,Z0]
    cases ht:t d with
    | true =>
      simp only [(h1.2 ht).1,(h1.2 ht).2,noX_ok,Z0]
      rw [if_pos (by simp at hl; omega),e1,Zfm hw its (acc ++ [g d]) (fun x hx=>h x (List.mem_cons_of_mem _ hx)) (by simp at hl ⊢; omega)]
      simp [ht]
    | false =>
      simp only
      rw [e1,Zfm hw its acc (fun x hx=>h x (List.mem_cons_of_mem _ hx)) (by simp at hl ⊢; omega)]
      simp [ht]
theorem ZlK {i:Nat} {keep:Bool} {di:DA} {tst:DT} {elt:DE} {δ δ1:Sl} {its:List D} (t:D → Bool) (g:D → D) (h1:di δ = .ok its δ1) (hw:(δ1.set i none) = δ1) (h2:∀ d ∈ its,tst (δ1.set i (some d)) = .ok (t d) (δ1.set i (some d)) ∧ (t d = true → elt (δ1.set i (some d)) = .ok (g d) (δ1.set i (some d)) ∧ frz (g d) = g d)) (hl:its.length ≤ 100000):dComp keep [i] di (tgN i) tst elt δ = .ok (.n .lst .own ((its.filter t).map g)) δ1:=by
  unfold dComp
  have e1:wipeD δ1 [i] = δ1:=by simp only [wipeD]; exact hw
  rw [h1,Z0,e1,Zfm hw its [] h2 (by simpa using hl),Z0]
  cases keep <;> simp
theorem ZlJ {i:Nat} {keep:Bool} {di:DA} {elt:DE} {δ δ1:Sl} {its:List D} (g:D → D) (h1:di δ = .ok its δ1) (hw:(δ1.set i none) = δ1) (h2:∀ d ∈ its,elt (δ1.set i (some d)) = .ok (g d) (δ1.set i (some d)) ∧ frz (g d) = g d) (hl:its.length ≤ 100000):dComp keep [i] di (tgN i) dtYes elt δ = .ok (.n .lst .own (its.map g)) δ1:=by
  have h:=ZlK (keep:=keep) (i:=i) (tst:=dtYes) (elt:=elt) (fun _=>true) g h1 hw (fun d hd=>⟨rfl,fun _=>h2 d hd⟩) hl
  rw [h,List.filter_eq_self.mpr (fun _ _=>rfl)]
theorem it_str {z:Str}:itA true (.v (.str z)) = some (z.cps.toList.map sg):=rfl
theorem len_str {z:Str} (hl:z.length ≤ 100000):lenD (.v (.str z)) = some (.int z.length):=by simp [lenD,hl]
theorem Zja {z:Str} {c:Nat} {cs:List Nat} (h:z.cps.toList = c :: cs) (hl:z.length ≤ 100000):ixD (.v (.str z)) (.v (.int 0)) = some (sg c):=by
  simp only [ixD,hl,if_true,h]
  simp [atI,ixN]
theorem add_lf:addA (.v (.str "abcdefghijklmnopqrstuvwxyz")) (.v (.str "0123456789")) = some (.v (.str (("abcdefghijklmnopqrstuvwxyz":Str) ++ ("0123456789":Str)))):=by
  simp only [addA]
  rw [if_pos (by decide +kernel)]
theorem ZgK {z:Str} (hl:z.length ≤ 100):callK Zz [.v (.str z)] s = .ok (.v (.bl (nameB z.cps.toList))) s:=Zv rfl (by
  have hl2:z.length ≤ 100000:=by omega
  have hlen:=Zdj z
  cases hc:z.cps.toList with
  | nil =>
    rw [hc] at hlen
    simp [ZG,len_str hl2,hlen,nameB]
  | cons c cs =>
    rw [hc] at hlen
    simp only [List.length_cons] at hlen
    by_cases h8:z.length ≤ 8
    · by_cases hL:c ∈ LT
      · have hcomp:dComp true [1] (diP (itA true) (pVar 0)) (tgN 1) dtYes (dN (f2 inD) [.k (pVar 1),.v (dN (f2 addA) [.k (pC (.str "abcdefghijklmnopqrstuvwxyz")),.k (pC (.str "0123456789"))])]) [some (D.v (.str z)),none] = .ok (.n .lst .own (((c :: cs).map sg).map fun d=>match d with | .v (.str ⟨⟨[c]⟩⟩)=>D.bl (decide (c ∈ LF)) | _=>.non)) [some (D.v (.str z)),none]:=by
          refine ZlJ _ (by simp only [diP,pVar,List.getElem?_cons_zero,Option.join_some,Option.bind_some,it_str,hc]; rfl) rfl (fun d hd=>?_) (by simp; omega)
          obtain ⟨k,hk,rfl⟩:=List.mem_map.mp hd
          have e2:inD (sg k) (.v (.str (("abcdefghijklmnopqrstuvwxyz":Str) ++ ("0123456789":Str)))) = some (.v (.bl (decide (k ∈ LF)))):=rfl
          constructor
          · simp [add_lf,e2]
          · simp
        have e3:allD (.n .lst .own (((c :: cs).map sg).map fun d=>match d with | .v (.str ⟨⟨[c]⟩⟩)=>D.bl (decide (c ∈ LF)) | _=>.non)) = some (.v (.bl ((c :: cs).all fun c=>decide (c ∈ LF)))):=by
          have:=ZhY (fun c=>decide (c ∈ LF)) (c :: cs)
          simp only [List.map_map,allD] at this ⊢
          rw [show ((fun d=>match d with | .v (.str ⟨⟨[c]⟩⟩)=>D.bl (decide (c ∈ LF)) | _=>.non) ∘ sg) = fun c=>D.bl (decide (c ∈ LF)) from rfl,this]
          rfl
        generalize (((c :: cs).map sg).map fun d=>match d with | .v (.str ⟨⟨[c]⟩⟩)=>D.bl (decide (c ∈ LF)) | _=>.non) = G at hcomp e3
        have hn:notinD (sg c) (.v (.str "abcdefghijklmnopqrstuvwxyz")) = some (.v (.bl false)):=by show some (D.v (.bl (!decide (c ∈ LT)))) = _; simp [hL]
        have h1:(1:Int) ≤ z.length:=by omega
        have h2:(z.length:Int) ≤ 8:=by omega
        simp only [ZG]
        have h3:cs.length + 1 ≤ 8:=by omega
        simp only [nameB,List.length_cons,h3,hL,decide_true,Bool.true_and]
        simp [len_str hl2,h1,h2,Zja hc hl2,hn,hcomp,e3]
      · have hn:notinD (sg c) (.v (.str "abcdefghijklmnopqrstuvwxyz")) = some (.v (.bl true)):=by show some (D.v (.bl (!decide (c ∈ LT)))) = _; simp [hL]
        have h1:(1:Int) ≤ z.length:=by omega
        have h2:(z.length:Int) ≤ 8:=by omega
        simp [ZG,len_str hl2,h1,h2,Zja hc hl2,hn,nameB,hL]
    · have h1:(1:Int) ≤ z.length:=by omega
      have h2:¬ (z.length:Int) ≤ 8:=by omega
      have h3:¬ (cs.length + 1 ≤ 8):=by omega
      simp [ZG,len_str hl2,h1,h2,nameB,h3])
end
end Lw
namespace Lw
open PySem PySem.Spec PyProof.Rows L2 Fs
structure Row where
  nm:Str
  a:Int
  b:Int
  l:Int
  k:Int
abbrev rowD (r:Row):D:=.n .tup .shr [.v (.str r.nm),.v (.int r.a),.v (.int r.b),.v (.int r.l),.v (.int r.k)]
structure Row.ok (r:Row):Prop where
  nm:nameB r.nm.cps.toList = true
  a0:0 ≤ r.a
  a1:r.a ≤ 200
  b0:0 ≤ r.b
  b1:r.a - 1 ≤ r.b
  b2:r.b ≤ 199
  l0:1 ≤ r.l
  l1:r.l ≤ 12
  k0:0 ≤ r.k
  k1:r.k ≤ r.l
theorem ZiV {cs:List Nat} (h:nameB cs = true):cs.length ≤ 8:=by
  cases cs with
  | nil=>simp
  | cons c cs =>
    simp only [nameB,Bool.and_eq_true,decide_eq_true_eq] at h
    exact h.1
section
variable {s:Sl}
@[simp] theorem ixR0 {r:Row}:ixD (rowD r) (.v (.int 0)) = some (.v (.str r.nm)):=rfl
@[simp] theorem ixR1 {r:Row}:ixD (rowD r) (.v (.int 1)) = some (.v (.int r.a)):=rfl
@[simp] theorem ixR2 {r:Row}:ixD (rowD r) (.v (.int 2)) = some (.v (.int r.b)):=rfl
@[simp] theorem ixR3 {r:Row}:ixD (rowD r) (.v (.int 3)) = some (.v (.int r.l)):=rfl
@[simp] theorem ixR4 {r:Row}:ixD (rowD r) (.v (.int 4)) = some (.v (.int r.k)):=rfl
@[simp] theorem lenR {r:Row}:lenD (rowD r) = some (.v (.int 5)):=rfl
theorem ZjH {r:Row} (h:r.ok):callK ZS [rowD r] s = .ok .non s:=Zv rfl (by
  have h1:max 0 (r.a - 1) ≤ r.b:=by have:=h.b0; have:=h.b1; omega
  have h2:=h.b0; have h3:r.a ≤ r.b + 1:=by have:=h.b1; omega
  simp [ZbB,h.a0,h.a1,h1,h2,h3,h.b2,h.l0,h.l1,h.k0,h.k1])
theorem in_dct {z:Str} {ks:List Key} {w:Fl} {xs:List D}:inD (.v (.str z)) (.n (.dct ks) w xs) = some (.v (.bl (lkD ks xs (.inr z)).isSome)):=by
  simp [inD,inB,keyD]
theorem Zg5 {r:Row} {ks:List Key} {w:Fl} {xs:List D} (h:r.ok) (hn:lkD ks xs (.inr r.nm) = none):callK ZU [.n (.dct ks) w xs,rowD r] s = .ok .non s:=Zv rfl (by
  have hl:=ZiV h.nm
  have hl2:r.nm.length ≤ 100:=by rw [Zdj]; omega
  simp [ZbR,ZgK hl2,h.nm,in_dct,hn,ZjH h])
theorem Zjp {r:Row}:callK Zbo [rowD r] s = .ok (rowD r) s:=Zv rfl (by
  simp [Zca,dMv,D.free])
end
end Lw
namespace Lw
open PySem PySem.Spec PyProof.Rows L2 Fs
abbrev keyR (r:Row):Key:=.inr r.nm
abbrev keysR (rs:List Row):List Key:=rs.map keyR
abbrev rowsD (rs:List Row):List D:=rs.map rowD
abbrev fivesD (w:Fl) (rs:List Row):D:=.n (.dct (keysR rs)) w (rowsD rs)
abbrev Zel (w:Fl) (rs:List Row):D:=.n (.obj 20 ["fives"]) w [fivesD w rs]
structure RowsOk (rs:List Row):Prop where
  len:rs.length ≤ 30
  nd:(rs.map Row.nm).Nodup
  ok:∀ r ∈ rs,r.ok
def lw:Fl → Fl | .own=>.bor | .bor=>.bor | .shr=>.shr
section
variable {s:Sl}
theorem Zh6 {i:Nat} {ks:List Key} {xs:List D} {k:Key} {kk y:D} {kd:DE} {fz:Bool} (hd:s[i]? = some (some (.n (.dct ks) .own xs))) (hk:kd s = .ok kk s) (hkey:keyD kk = some k) (hn:ks.Nodup) (hl:xs.length < 100000) :
    storeK (plV i) kd fz y s = .ok .nx (s.set i (some (.n (.dct (putKs ks k)) .own (putVs ks xs k (if fz then frz y else y))))):=by
  simp only [storeK,Fs.stC,plV,hd,Option.join_some,getP,D.free,ownP,Bool.and_self,if_true,hk,noX_ok,Z0,stEnd,mSet,hkey,Option.bind_some]
  rw [if_pos ⟨hn,hl⟩]
  rfl
theorem lkR (rs:List Row) (z:Str):lkD (keysR rs) (rowsD rs) (.inr z) = (rs.find? fun r=>decide (r.nm = z)).map rowD:=by
  induction rs with
  | nil=>rfl
  | cons r rs ih =>
    simp only [keysR,rowsD,List.map_cons,lkD,List.find?_cons] at ih ⊢
    by_cases h:r.nm = z
    · simp [h]
    · have h2:¬ ((Sum.inr r.nm:Key) = .inr z):=fun e=>h (Sum.inr.inj e)
      simp only [if_neg h2,decide_eq_false h,ih]
theorem Zki {rs:List Row} {z:Str} (h:z ∉ rs.map Row.nm):lkD (keysR rs) (rowsD rs) (.inr z) = none:=by
  rw [lkR,List.find?_eq_none.mpr]
  · rfl
  · intro r hr
    simp only [decide_eq_true_eq]
    exact fun e=>h (List.mem_map.mpr ⟨r,hr,e⟩)
theorem ZdZ:∀ {ks:List Key} {k:Key},k ∉ ks → putKs ks k = ks ++ [k]
  | [],k,_=>rfl
  | k' :: ks,k,h=>by
    have h1:k' ≠ k:=fun e=>h (by rw [e]; exact List.mem_cons_self)
    rw [Zej h1,ZdZ (fun e=>h (List.mem_cons_of_mem _ e))]
    rfl
theorem ZdY {α:Type}:∀ {ks:List Key} {xs:List α} {k:Key} {y:α},k ∉ ks → ks.length = xs.length → putVs ks xs k y = xs ++ [y]
  | [],xs,k,y,_,_=>rfl
  | k' :: ks,[],k,y,h,e=>by simp at e
  | k' :: ks,x :: xs,k,y,h,e=>by
    have h1:k' ≠ k:=fun e=>h (by rw [e]; exact List.mem_cons_self)
    simp only [putVs,if_neg h1,List.cons_append]
    rw [ZdY (fun e=>h (List.mem_cons_of_mem _ e)) (by simpa using e)]
theorem Zlq {rs:List Row} (h:(rs.map Row.nm).Nodup):(keysR rs).Nodup:=by
  have e:keysR rs = (rs.map Row.nm).map Sum.inr:=by simp [keysR,keyR]
  rw [e]
  exact List.pairwise_map.mpr (h.imp fun q e=>q (Sum.inr.inj e))
theorem Zgl (rs:List Row):(rowsD rs).all D.kept = true:=by simp [rowsD,D.kept]
theorem ZeV {n:Nat} {x:D} {xs:List D}:pairsE n (x :: xs) = .n .tup .shr [.int (n:Int),x] :: pairsE (n + 1) xs:=rfl
theorem ZdK {rs:List Row} {w:Fl} (h:RowsOk rs) (hw:w ≠ .own):callK ZV [.n .lst w (rowsD rs)] s = .ok (fivesD .own rs) s:=Zv rfl (by
  have e1:isiTD ["list","tuple"] (.n .lst w (rowsD rs)) = some (.v (.bl true)):=rfl
  have e2:lenD (.n .lst w (rowsD rs)) = some (.v (.int (rs.length:Int))):=by simp [lenD]
  have e3:¬ ((30:Int) < rs.length):=by have:=h.len; omega
  have e4:itEn false (.n .lst w (rowsD rs)) = some (pairsE 0 (rowsD rs)):=by
    have h0:(rowsD rs).all D.kept = true ∧ (false = true ∨ w ≠ .own):=⟨Zgl rs,.inr hw⟩
    simp only [itEn,if_pos h0]
  generalize hR:(.n .lst w (rowsD rs):D) = R at e1 e2 e4
  simp [ZbS,e1,e2,e3,e4,dDict0,diP]
  refine Zg (ZfQ (I:=fun its s=>∃ dn rest y2 y3 y4,rs = dn ++ rest ∧ its = pairsE dn.length (rowsD rest) ∧ s = [some R,some (fivesD .own dn),y2,y3,y4]) ?_ ⟨[],rs,_,_,_,rfl,rfl,rfl⟩) ?_
  · rintro d r s ⟨dn,rest,y2,y3,y4,e,ei,rfl⟩
    cases rest with
    | nil=>simp [rowsD,pairsE] at ei
    | cons x rest =>
      rw [show rowsD (x :: rest) = rowD x :: rowsD rest from rfl,ZeV] at ei
      obtain ⟨rfl,rfl⟩:=List.cons.inj ei
      have hx:x.ok:=h.ok x (by rw [e]; simp)
      have hnd:=h.nd
      rw [e,List.map_append,List.map_cons] at hnd
      have hxn:x.nm ∉ dn.map Row.nm:=fun q=>(List.nodup_append.mp hnd).2.2 _ q _ List.mem_cons_self rfl
      have hdn:(dn.map Row.nm).Nodup:=(List.nodup_append.mp hnd).1
      have hl:=h.len
      rw [e] at hl
      simp only [List.length_append,List.length_cons] at hl
      refine ⟨_,rfl,?_⟩
      have e6:lends (rowsD dn) = rowsD dn:=by
        clear e hl hdn hnd hxn ei
        induction dn with
        | nil=>simp
        | cons r dn ih=>simp only [rowsD,List.map_cons,ZfD,Zf3] at ih ⊢; rw [ih]
      have e5:=Zg5 (s:=[some R,some (fivesD .own dn),some (.int (dn.length:Int)),some (rowD x),y4]) (ks:=keysR dn) (w:=.bor) (xs:=rowsD dn) hx (Zki hxn)
      have hkn:keyR x ∉ keysR dn:=fun q=>by
        obtain ⟨r,hr,er⟩:=List.mem_map.mp q
        exact hxn (List.mem_map.mpr ⟨r,hr,Sum.inr.inj er⟩)
      have e7:=Zh6 (s:=[some R,some (fivesD .own dn),some (.int (dn.length:Int)),some (rowD x),some .non]) (i:=1) (kd:=dP (pOp ixD (pVar 3) (pC (.int 0)))) (fz:=true) (y:=rowD x) rfl (kk:=.v (.str x.nm)) rfl rfl (Zlq hdn) (by simp [rowsD]; omega)
      rw [ZdZ hkn,ZdY hkn (by simp [keysR,rowsD])] at e7
      simp only [ZlC,if_true] at e7
      simp [e6,e5,Zjp,e7]
      exact ⟨dn ++ [x],rest,by simpa using e,by simp,by simp [keysR],by simp [rowsD]⟩
  · rintro f s' ⟨rfl,dn,rest,y2,y3,y4,e,ei,rfl⟩
    cases rest with
    | cons x rest=>simp [rowsD,pairsE] at ei
    | nil =>
      simp only [List.append_nil] at e
      subst e
      simp [dMv,D.free])
theorem ZfC:∀ rs:List Row,lends (rowsD rs) = rowsD rs
  | []=>by simp
  | r :: rs=>by
    have:=ZfC rs
    simp only [rowsD,List.map_cons,ZfD,Zf3] at this ⊢
    rw [this]
theorem ZiW {rs:List Row} {w:Fl} (h:RowsOk rs):callK (mkF 20 Zm) [.n .lst w (rowsD rs)] s = .ok (Zel .own rs) s:=by
  have h1:sat (Zm [.n (.obj 20 []) .own [],.n .lst w (rowsD rs)]) fun y ios=>y = .non ∧ ios = [some (Zel .own rs),none]:=by
    refine sat_F rfl ?_
    have e:∀ s,callK ZV [lend (.n .lst w (rowsD rs))] s = .ok (fivesD .own rs) s:=fun s=>by
      cases w with
      | own=>rw [Zkk,ZfC]; exact ZdK h (by decide)
      | shr=>rw [Zf3]; exact ZdK h (by decide)
      | bor=>rw [Zkl]; exact ZdK h (by decide)
    have e2:fldSK (plV 0) 20 "fives" (fivesD .own rs) [some (.n (.obj 20 []) .own []),some (.n .lst w (rowsD rs))] = .ok .nx [some (Zel .own rs),some (.n .lst w (rowsD rs))]:=rfl
    generalize hR:(.n .lst w (rowsD rs):D) = R at e e2
    simp [Zbi,e,e2,ioF]
  obtain ⟨y,ios,e,rfl,rfl⟩:=h1
  refine ZeL (s':=[none]) ?_
  unfold mkF
  rw [e]
  rfl
@[simp] theorem ZlX {w:Fl} {rs:List Row}:fldD 20 "fives" (Zel w rs) = some (fivesD w rs):=rfl
@[simp] theorem told_c {w:Fl} {rs:List Row}:callK Zj [Zel w rs] s = .ok (.n .tup .shr (rowsD rs)) s:=Zv rfl (by
  have e:valsTD (fivesD w rs) = some (.n .tup .shr (rowsD rs)):=by simp only [valsTD,Zgl,if_true]
  simp [ZbF,e])
end
end Lw
namespace Lw
open PySem PySem.Spec PyProof.Rows L2 Fs
section
variable {s:Sl} {τ:Type}
@[simp] theorem intP_i {i:Int}:intP (.v (.int i)) = some (.v (.int i)):=rfl
abbrev stD (a b:Int):D:=.n .tup .shr [.v (.int a),.v (.int b)]
@[simp] theorem ixS0 {a b:Int}:ixD (stD a b) (.v (.int 0)) = some (.v (.int a)):=rfl
@[simp] theorem ixS1 {a b:Int}:ixD (stD a b) (.v (.int 1)) = some (.v (.int b)):=rfl
@[simp] theorem lenS {a b:Int}:lenD (stD a b) = some (.v (.int 2)):=rfl
def inSt (a b:Int) (r:Row):Bool:=decide (a ≤ r.a) && decide (r.b ≤ b)
end
end Lw
namespace Lw
open PySem PySem.Spec PyProof.Rows L2 Fs
section
variable {s:Sl}
def glI (ns:List Int):Int:=(maxI ns).getD 0
def ksum (rs:List Row) (a b:Int):Int:=((rs.filter (inSt a b)).map Row.k).sum
def lmax (rs:List Row) (a b:Int):Int:=glI ((rs.filter (inSt a b)).map Row.l)
def needI (rs:List Row) (a b f:Int):Int:=ksum rs a b + f * lmax rs a b
end
end Lw
namespace Lw
open PySem PySem.Spec PyProof.Rows L2 Fs
theorem LT_eq:LT = (List.range 26).map (97 + ·):=by decide +kernel
theorem mem_LT {c:Nat}:c ∈ LT ↔ 97 ≤ c ∧ c < 123:=by
  rw [LT_eq]
  simp only [List.mem_map,List.mem_range]
  constructor
  · rintro ⟨i,hi,rfl⟩; omega
  · intro h; exact ⟨c - 97,by omega,by omega⟩
def ofC (cs:List Nat):Str:=⟨cs.toArray⟩
theorem Ze0 (cs:List Nat):(ofC cs).cps.toList = cs:=rfl
end Lw
namespace Lw
open PySem PySem.Spec PyProof.Rows L2 Fs
section
variable {s:Sl} {α:Type}
theorem ZeF {vs:List Nat} {tg:D → Sl → Option Sl} {tst:DT} {elt:DE} (I:List D → List D → Sl → Prop) (hs:∀ d r acc s,I (d :: r) acc s → ∃ s1,tg d s = some s1 ∧ sat (tst s1) fun b s2=>(b = true → sat (elt s2) fun y s3=>acc.length < 100000 ∧ I r (acc ++ [frz y]) (wipeD s3 vs)) ∧ (b = false → I r acc (wipeD s2 vs))) :
    ∀ {its acc:List D} {s:Sl},I its acc s → sat (comp vs tg tst elt its acc s) fun acc' s'=>I [] acc' s'
  | [],acc,s,h=>by unfold comp; exact sat_ok.mpr h
  | d :: r,acc,s,h=>by
    obtain ⟨s1,e1,b,s2,e2,h1,h2⟩:=hs d r acc s h
    unfold comp
    simp only [e1,e2,noX_ok,Z0]
    cases b with
    | true =>
      obtain ⟨y,s3,e3,h3,h4⟩:=h1 rfl
      simp only [e3,noX_ok,Z0,if_pos h3]
      exact ZeF I hs h4
    | false=>exact ZeF I hs (h2 rfl)
theorem Zgj {keep:Bool} {ns:List Nat} {di:DA} {tg:D → Sl → Option Sl} {tst:DT} {elt:DE} {Q:D → Sl → Prop}:sat (dComp keep ns di tg tst elt s) Q ↔ sat (di s) fun its s1=>sat (comp ns tg tst elt its [] (wipeD s1 ns)) fun acc s2=>Q (.n .lst .own acc) (if keep then s1 else s2):=by
  unfold dComp
  simp only [ZjY,sat_ok]
theorem ZeI {n:Nat} (h:n ≤ 100000):itR (.v (.int (n:Int))) = some ((List.range n).map fun (k:Nat)=>D.int (k:Int)):=by
  simp only [itR]
  rw [if_pos (by omega)]
  rfl
theorem Zlr (cs:List Nat):(Txt.join ("":Str) (cs.map fun c=>(⟨#[c]⟩:Str))).cps.toList = cs:=by
  have h0:(("":Str)).cps = #[]:=rfl
  have h:∀ (cs:List Nat) (a:Array Nat),((cs.map fun c=>(⟨#[c]⟩:Str)).foldl (fun acc p=>acc ++ ("":Str).cps ++ p.cps) a).toList = a.toList ++ cs:=by
    intro cs
    induction cs with
    | nil=>intro a; simp
    | cons c cs ih=>intro a; rw [List.map_cons,List.foldl_cons,ih]; simp [h0]
  unfold Txt.join Builtin.Str.glued
  cases cs with
  | nil=>rfl
  | cons c cs=>simp only [List.map_cons,List.drop_succ_cons,List.drop_zero,List.headD_cons]; rw [h]; simp
theorem Ziw:∀ cs:List Nat,txts (cs.map sg) = some (cs.map fun c=>(⟨#[c]⟩:Str))
  | []=>rfl
  | c :: cs=>by simp [txts,Ziw cs]
theorem ZhP (cs:List Nat) (hl:cs.length ≤ 1000):joinD "" (.n .lst .own (cs.map sg)) = some (.v (.str (ofC cs))):=by
  have:Txt.join ("":Str) (cs.map fun c=>(⟨#[c]⟩:Str)) = ofC cs:=Str.ext' (Zlr cs)
  unfold joinD
  simp only [Ziw,Option.bind_some]
  rw [if_pos,this]
  have h1:∀ cs:List Nat,((cs.map fun c=>(⟨#[c]⟩:Str)).map (·.length)).sum = cs.length:=by
    intro cs
    induction cs with
    | nil=>rfl
    | cons c cs ih=>simp only [List.map_cons,List.sum_cons,ih,List.length_cons]; show 1 + cs.length = _; omega
  have h2:("":Str).length = 0:=rfl
  rw [h1,h2]
  omega
theorem ZfF {i:Nat} (h:i < 26):ixK (.v (.str "abcdefghijklmnopqrstuvwxyz")) (.v (.int (i:Int))) = some (sg (97 + i)):=by
  have e:("abcdefghijklmnopqrstuvwxyz":Str).cps.toList = LT:=rfl
  have hl:("abcdefghijklmnopqrstuvwxyz":Str).length ≤ 100000:=by decide +kernel
  simp only [ixK,ixD,hl,if_true,e,atI,ixN,LT_eq]
  have h3:(i:Int) < ((List.map (97 + ·) (List.range 26)).length:Int):=by simp; omega
  rw [if_pos (by omega),if_pos h3]
  simp [h,D.kept]
theorem add_str {a b:List Nat} (h:a.length + b.length ≤ 1000):addA (.v (.str (ofC a))) (.v (.str (ofC b))) = some (.v (.str (ofC (a ++ b)))):=by
  have h1:(ofC a).length + (ofC b).length ≤ 100000:=by rw [Zdj,Zdj,Ze0,Ze0]; omega
  simp only [addA,if_pos h1]
  have:ofC a ++ ofC b = ofC (a ++ b):=Str.ext' (by show ((ofC a).cps ++ (ofC b).cps).toList = _; simp [ofC])
  rw [this]
end
end Lw
namespace Fs
open PySem PySem.Spec PyProof.Rows L2 Lw
section
variable {ρ τ:Type} {enc:ρ → D} {w w':Fl} {xs ys:List ρ} {s δ:Sl} {keep:Bool} {di:DA} {tst:DT} {elt:DE} {Q:D → Sl → Prop} {out:τ → D}
def enE (enc:ρ → D) (p:ρ × Nat):D:=.n .tup .shr [.v (.int (p.2:Int)),enc p.1]
instance:Ke (enE enc):=⟨fun _=>rfl⟩
theorem Zfx:∀ (xs:List ρ) (n:Nat),pairsE n (xs.map enc) = (xs.zipIdx n).map (enE enc)
  | [],n=>rfl
  | x :: xs,n=>by simp [pairsE,Zfx xs (n + 1),enE]
theorem it_En [Ke enc] {p:Bool} (h:p = true ∨ w ≠ .own):itEn p (Lst enc w xs) = some (xs.zipIdx.map (enE enc)):=by
  simp only [Lst,itEn]
  rw [if_pos ⟨Zbm xs,h⟩,Zfx]
def kdE (x:{d:D // d.kept = true}):D:=x.1
instance:Ke kdE:=⟨fun x=>x.2⟩
def tryK (n:Nat → Bool) (hs:List Hn):Out Flow → Out Flow
  | .exc c xs δ1=>if n c = true ∧ xs.all D.kept = true then pick c xs hs δ1 else .bad
  | o=>o
@[simp] theorem Znt {n:Nat → Bool} {b:DS} {hs:List Hn}:dsTry n b hs s = tryK n hs (b s):=by unfold dsTry tryK; cases b s <;> rfl
@[simp] theorem ZmS {n:Nat → Bool} {hs:List Hn} {f:Flow}:tryK n hs (.ok f s) = .ok f s:=rfl
theorem ZhB {n:Nat → Bool} {hs:List Hn} {c:Nat} {xs:List D} (h:n c = true) (hk:xs.all D.kept = true):tryK n hs (.exc c xs s) = pick c xs hs s:=if_pos ⟨h,hk⟩
theorem Zjv {N:Nat} {io:List Bool} {ds:DS} {args:List D} {c:Nat} {xs:List D} {s':Sl} (hl:args.length = io.length) (h:ds (args.map some ++ List.replicate (N - args.length) none) = .exc c xs s'):callK (runF N io ds) args s = .exc c xs s:=by
  unfold callK
  rw [runF_c hl,h]
  rfl
theorem tgT_2 {i j:Nat} {a b:D} (ha:a.kept = true) (hb:b.kept = true):tgT [tgN i,tgN j] (.n .tup .shr [a,b]) s = some ((s.set i (some a)).set j (some b)):=by
  simp [tgT,ha,hb,tgs,tgN]
end
end Fs
namespace Fs
open PySem PySem.Spec PyProof.Rows L2
mutual
def rc:PyData → Nat
  | .none=>4
  | .bool _=>5
  | .int _=>42
  | .str x=>(reprText x).length
  | .list xs=>rcs xs + 2
  | .tuple xs=>rcs xs + 3
  | .dict _=>0
def rcs:List PyData → Nat
  | []=>0
  | x :: xs=>rc x + 2 + rcs xs
end
mutual
def sm:PyData → Bool
  | .int i=>decide (i.natAbs < 10 ^ 40)
  | .list xs=>sms xs
  | .tuple xs=>sms xs
  | .dict _=>false
  | _=>true
def sms:List PyData → Bool
  | []=>true
  | x :: xs=>sm x && sms xs
end
theorem ZiU {n:Nat} (h:n < 10 ^ 40):(Str.ofString (toString (Int.ofNat n))).length ≤ 40:=by
  rw [text_ofNat]
  show ((Nat.toDigits 10 n).map Char.toNat).toArray.size ≤ 40
  rw [List.size_toArray,List.length_map]
  exact (Nat.length_toDigits_le_iff (by decide) (by decide)).mpr h
theorem Zlw {i:Int} (h:i.natAbs < 10 ^ 40):(Str.ofString (toString i)).length ≤ 42:=by
  cases i with
  | ofNat n=>have:=ZiU (n:=n) h; omega
  | negSucc n =>
    have h2:=ZiU (n:=n + 1) h
    rw [len_text_neg (by omega),show (0:Int) - Int.negSucc n = Int.ofNat (n + 1) by rw [Int.negSucc_eq]; show _ = ((n + 1:Nat):Int); omega]
    omega
theorem Zlm:∀ ts:List Str,(listText ts).length ≤ piled ts + 2
  | []=>by decide
  | t :: ts=>by
    have h:=textFrom_length_pos ts 1 (("[":Str) ++ (if 0 > 0 then ", " else "":String) ++ t) (by decide)
    have e:(listText (t :: ts)).length = (textFrom 1 (("[":Str) ++ (if 0 > 0 then ", " else "":String) ++ t) ts).length + 1:=by
      show (textFrom 0 "[" (t :: ts) ++ "]").length = _
      rw [strLen_append]; rfl
    rw [e,h,strLen_append,strLen_append,piled_cons]
    have e1:("[":Str).length = 1:=rfl
    have e2:(Str.ofString (if 0 > 0 then ", " else "":String)).length = 0:=rfl
    omega
theorem ZjL (ts:List Str):(tupleText ts).length ≤ piled ts + 3:=by
  have e:(tupleText ts).length ≤ 1 + (Str.join ", " ts).length + 2:=by
    unfold tupleText
    rw [strLen_append,strLen_append]
    have e1:("(":Str).length = 1:=rfl
    have e2:(Str.ofString (if ts.length == 1 then ",)" else ")":String)).length ≤ 2:=by split <;> decide
    omega
  by_cases h:ts = []
  · subst h
    have e3:(Str.join ", " ([]:List Str)).length = 0:=rfl
    omega
  · have:=join_length_add ts h
    omega
mutual
theorem rc_ok:∀ d:PyData,sm d = true → d.shown.length ≤ rc d ∧ d.showable = true ∧ d.hasDict = false
  | .none,_=>⟨by decide,rfl,rfl⟩
  | .bool b,_=>⟨by cases b <;> decide,rfl,rfl⟩
  | .int i,h=>by
    have h1:i.natAbs < 10 ^ 40:=by simpa [sm] using h
    refine ⟨by simp only [PyData.shown,rc]; exact Zlw h1,?_,rfl⟩
    simp only [PyData.showable,decide_eq_true_eq]
    by_cases h0:i.natAbs = 0
    · rw [h0]; decide
    · exact (Nat.log2_lt h0).mpr (Nat.lt_trans h1 (by decide +kernel))
  | .str x,_=>⟨by simp only [PyData.shown,rc]; exact Nat.le_refl _,rfl,rfl⟩
  | .list xs,h=>by
    obtain ⟨h1,h2,h3⟩:=rcs_ok xs (by simpa [sm] using h)
    refine ⟨?_,by simpa [PyData.showable] using h2,by simpa [PyData.hasDict] using h3⟩
    simp only [PyData.shown,rc]
    have:=Zlm (PyData.shownAll xs)
    omega
  | .tuple xs,h=>by
    obtain ⟨h1,h2,h3⟩:=rcs_ok xs (by simpa [sm] using h)
    refine ⟨?_,by simpa [PyData.showable] using h2,by simpa [PyData.hasDict] using h3⟩
    simp only [PyData.shown,rc]
    have:=ZjL (PyData.shownAll xs)
    omega
  | .dict _,h=>by simp [sm] at h
theorem rcs_ok:∀ ds:List PyData,sms ds = true → piled (PyData.shownAll ds) ≤ rcs ds ∧ PyData.showableAll ds = true ∧ PyData.hasDictAll ds = false
  | [],_=>⟨by simp [PyData.shownAll,rcs,piled],rfl,rfl⟩
  | x :: xs,h=>by
    simp only [sms,Bool.and_eq_true] at h
    obtain ⟨a1,a2,a3⟩:=rc_ok x h.1
    obtain ⟨b1,b2,b3⟩:=rcs_ok xs h.2
    refine ⟨?_,by simp [PyData.showableAll,a2,b2],by simp [PyData.hasDictAll,a3,b3]⟩
    simp only [PyData.shownAll,piled_cons,rcs]
    omega
end
section
variable {ρ:Type} {enc:ρ → D} {xs ys:List ρ}
theorem sl_Tpl [Ke enc] {a b:D} {lo hi:Option Int} (ha:partD a = some lo) (hb:partD b = some hi):slD [Tpl enc xs,a,b] = some (Tpl enc (cutD xs lo hi)):=by
  simp only [Tpl,slD,ha,hb,Option.bind_some,Zbm,if_true,cutD,List.map_drop,List.map_take,List.length_map]
theorem ix_Tpl [Ke enc] {i:Nat} {x:ρ} (h:xs[i]? = some x):ixD (Tpl enc xs) (.v (.int (i:Int))) = some (enc x):=by
  have hl:i < xs.length:=(List.getElem?_eq_some_iff.mp h).1
  simp only [Tpl,ixD,atI,ixN]
  have h2:xs[i] = x:=by rw [List.getElem?_eq_getElem hl] at h; exact Option.some.inj h
  simp [hl,h2]
end
abbrev KD:={d:D // d.kept = true}
end Fs
set_option maxHeartbeats 1000000
namespace Lw
open PySem PySem.Spec PyProof.Rows L2 Fs
def FlowP (io:List Bool) (Q:D → Sl → Prop):Fs.Flow → Sl → Prop:=fun f s=>match f with | .nx=>Q .non (ioF io s) | .rt d=>Q d (ioF io s) | _=>False
@[simp] theorem ZmQ {io:List Bool} {Q:D → Sl → Prop} {d:D} {s:Sl}:FlowP io Q (.rt d) s = Q d (ioF io s):=rfl
@[simp] theorem ZmR {io:List Bool} {Q:D → Sl → Prop} {s:Sl}:FlowP io Q .nx s = Q .non (ioF io s):=rfl
theorem sat_F' {N:Nat} {io:List Bool} {ds:DS} {args:List D} {Q:D → Sl → Prop} (hl:args.length = io.length) (h:sat (ds (args.map some ++ List.replicate (N - args.length) none)) (FlowP io Q)):sat (runF N io ds args) Q:=sat_F hl h
abbrev ltrs:D:=.v (.str "abcdefghijklmnopqrstuvwxyz")
end Lw
set_option maxHeartbeats 1000000
namespace Lw
open PySem PySem.Spec PyProof.Rows L2 Fs
end Lw
set_option maxHeartbeats 1000000
namespace Lw
open PySem PySem.Spec PyProof.Rows L2 Fs
def rowP (r:Row):PyData:=.tuple [.str r.nm,.int r.a,.int r.b,.int r.l,.int r.k]
end Lw
set_option maxHeartbeats 1000000
namespace Lw
open PySem PySem.Spec PyProof.Rows L2 Fs
section
variable {s:Sl} {τ:Type}
def starts (rs:List Row):List Int:=sset (rs.map Row.a)
def ends (rs:List Row):List Int:=sset (rs.map Row.b)
def okSt (rs:List Row) (a b:Int):Bool:=decide (a - 1 ≤ b) && !(rs.filter (inSt a b)).isEmpty
def found (rs:List Row):List (Int × Int):=(starts rs).flatMap fun a=>((ends rs).filter (okSt rs a)).map fun b=>(a,b)
def strB:DS:=(dsIf (dtAnd (dtV (dN (f2 geD) [.k (pVar 6),.v (dN (f2 subD) [.k (pVar 5),.k (pC (.int 1))])])) (dtV (dN (f2 neD) [.v (dCall Zc0 (daLend (pVar 0) (daCons (dF mkTup (daCons (dP (pVar 5)) (daCons (dP (pVar 6)) daNil))) daNil))),.v (dF mkLst daNil)]))) (dsDrop (dApp 4 (dF mkTup (daCons (dP (pVar 5)) (daCons (dP (pVar 6)) daNil))))) dsNext)
end
end Lw
set_option maxHeartbeats 1000000
namespace Lw
open PySem PySem.Spec PyProof.Rows L2 Fs
end Lw
set_option maxHeartbeats 1000000
namespace Lw
open PySem PySem.Spec PyProof.Rows L2 Fs
section
variable {s:Sl}
def stP (p:Int × Int):PyData:=.tuple [.int p.1,.int p.2]
end
end Lw
set_option maxHeartbeats 1000000
namespace Lw
open PySem PySem.Spec PyProof.Rows L2 Fs
end Lw
set_option maxHeartbeats 1000000
namespace Lw
open PySem PySem.Spec PyProof.Rows L2 Fs
instance:DecidableEq Row:=fun x y =>
  if h:x.nm = y.nm ∧ x.a = y.a ∧ x.b = y.b ∧ x.l = y.l ∧ x.k = y.k then isTrue (by
    obtain ⟨a,b,c,d,e⟩:=x
    obtain ⟨a',b',c',d',e'⟩:=y
    simp only at h
    obtain ⟨rfl,rfl,rfl,rfl,rfl⟩:=h
    rfl) else isFalse fun e=>h (by rw [e]; exact ⟨rfl,rfl,rfl,rfl,rfl⟩)
instance:Ke rowD:=⟨fun _=>rfl⟩
def Pcs (w:Fl) (rs:List Row):D:=Zel w rs
def stE (p:Int × Int):D:=stD p.1 p.2
instance:Ke stE:=⟨fun _=>rfl⟩
def tbE (p:Int × Int × Int × Int):D:=.n .tup .shr [.v (.int p.1),.v (.int p.2.1),.v (.int p.2.2.1),.v (.int p.2.2.2)]
instance:Ke tbE:=⟨fun _=>rfl⟩
@[simp] theorem ZmA {p:Int × Int}:Option.filter D.kept (some (stE p)) = some (stE p):=rfl
@[simp] theorem Zmp {p:Int × Int}:(stE p).kept = true:=rfl
@[simp] theorem Zmu {p:Int × Int}:(stE p).free = true:=rfl
@[simp] theorem Zmz {p:Int × Int × Int × Int}:Option.filter D.kept (some (tbE p)) = some (tbE p):=rfl
@[simp] theorem Zmo {p:Int × Int × Int × Int}:(tbE p).kept = true:=rfl
@[simp] theorem Zmt {p:Int × Int × Int × Int}:(tbE p).free = true:=rfl
@[simp] theorem ixE0 {p:Int × Int}:ixD (stE p) (.v (.int 0)) = some (.v (.int p.1)):=rfl
@[simp] theorem ixE1 {p:Int × Int}:ixD (stE p) (.v (.int 1)) = some (.v (.int p.2)):=rfl
instance:EqE rowD (fun r=>okS r.nm):=⟨rowP,fun r=>by simp [pd,pds,rowP],fun r h=>by simp [PyData.canLay0,PyData.canLayAll0,rowP,ZfL h],fun r=>by simp [rowP,PyData.depth,PyData.depthAll],fun r q=>by
  obtain ⟨a,b,c,d,e⟩:=r
  obtain ⟨a',b',c',d',e'⟩:=q
  simp [rowP,PyData.eqv,PyData.eqvAll]⟩
instance:EqE stE (fun _=>True):=⟨stP,fun r=>by simp [stE,pd,pds,stP],fun r h=>by simp [PyData.canLay0,PyData.canLayAll0,stP],fun r=>by simp [stP,PyData.depth,PyData.depthAll],fun r q=>by
  obtain ⟨a,b⟩:=r
  obtain ⟨a',b'⟩:=q
  simp [stP,PyData.eqv,PyData.eqvAll]⟩
def tbP (p:Int × Int × Int × Int):PyData:=.tuple [.int p.1,.int p.2.1,.int p.2.2.1,.int p.2.2.2]
instance:EqE tbE (fun _=>True):=⟨tbP,fun r=>by simp [tbE,pd,pds,tbP],fun r h=>by simp [PyData.canLay0,PyData.canLayAll0,tbP],fun r=>by simp [tbP,PyData.depth,PyData.depthAll],fun r q=>by
  obtain ⟨a,b,c,d⟩:=r
  obtain ⟨a',b',c',d'⟩:=q
  simp [tbP,PyData.eqv,PyData.eqvAll]⟩
section
variable {s:Sl} {w w':Fl} {rs:List Row} {a b f:Int}
@[simp] theorem Zmy:(Pcs .own rs).free = true:=rfl
@[simp] theorem told_P:callK Zj [Pcs w rs] s = .ok (Tpl rowD rs) s:=told_c
def tbl (rs:List Row) (f:Int):List (Int × Int × Int × Int):=(found rs).map fun p=>(p.1,p.2,needI rs p.1 p.2 f,p.2 - p.1 + 1)
def badP (q:Int × Int × Int × Int):Bool:=decide (q.2.2.2 < q.2.2.1)
def bad (rs:List Row) (f:Int):List (Int × Int):=((tbl rs f).filter badP).map fun q=>(q.1,q.2.1)
end
end Lw
set_option maxHeartbeats 1000000
namespace Lw
open PySem PySem.Spec PyProof.Rows L2 Fs
end Lw
set_option maxHeartbeats 1000000
namespace Lw
open PySem PySem.Spec PyProof.Rows L2 Fs
section
variable {s:Sl} {w w':Fl} {rs:List Row} {a b f g:Int}
@[simp] theorem ixT2 {q:Int × Int × Int × Int}:ixD (tbE q) (.v (.int 2)) = some (.v (.int q.2.2.1)):=rfl
@[simp] theorem ixT3 {q:Int × Int × Int × Int}:ixD (tbE q) (.v (.int 3)) = some (.v (.int q.2.2.2)):=rfl
end
end Lw
set_option maxHeartbeats 1000000
namespace Lw
open PySem PySem.Spec PyProof.Rows L2 Fs
section
variable {s:Sl} {w w':Fl} {rs:List Row} {a b f g:Int}
@[simp] theorem negD_i {i:Int}:negD (.v (.int i)) = some (.v (.int (-i))):=rfl
end
end Lw
set_option maxHeartbeats 1000000
namespace Lw
open PySem PySem.Spec PyProof.Rows L2 Fs
end Lw
set_option maxHeartbeats 1000000
namespace Lw
open PySem PySem.Spec PyProof.Rows L2 Fs
abbrev lfs:D:=.v (.str (("abcdefghijklmnopqrstuvwxyz":Str) ++ ("0123456789":Str)))
theorem ixK_lf {i:Nat} (h:i < 36):∃ c,c ∈ LF ∧ (i < 26 → c ∈ LT) ∧ ixK lfs (.v (.int (i:Int))) = some (sg c):=by
  have e:(("abcdefghijklmnopqrstuvwxyz":Str) ++ ("0123456789":Str)).cps.toList = LF:=by decide +kernel
  have hl:(("abcdefghijklmnopqrstuvwxyz":Str) ++ ("0123456789":Str)).length ≤ 100000:=by decide +kernel
  have hL:LF.length = 36:=by decide +kernel
  have hi:i < LF.length:=by omega
  refine ⟨LF[i],List.getElem_mem hi,fun h26=>?_,?_⟩
  · have:∀ i:Fin 26,LF.getD i 0 ∈ LT:=by decide +kernel
    have h2:=this ⟨i,h26⟩
    simpa [List.getD_eq_getElem?_getD,hi] using h2
  · simp only [ixK,ixD,hl,if_true,e,atI,ixN]
    rw [if_pos (by omega),if_pos (by omega)]
    simp [hi,D.kept]
end Lw
set_option maxHeartbeats 1000000
namespace Lw
open PySem PySem.Spec PyProof.Rows L2 Fs
inductive At | i (n:Int) | b (c:Bool) | s (z:Str) | o (d:KD)
def atE:At → D | .i n=>.v (.int n) | .b c=>.v (.bl c) | .s z=>.v (.str z) | .o d=>d.1
instance:Ke atE:=⟨fun a=>by cases a with | i n=>rfl | b c=>rfl | s z=>rfl | o d=>exact d.2⟩
structure AtK (a:At):Prop where
  s:∀ z,a = .s z → z.length ≤ 100
  sc:∀ z,a = .s z → ∀ c ∈ z.cps.toList,c < 128
  oi:∀ d,a = .o d → isiD "int" d.1 = some (.v (.bl false))
  os:∀ d,a = .o d → isiD "str" d.1 = some (.v (.bl false))
def inI (a:At) (lo hi:Int):Bool:=match a with | .i n=>decide (lo ≤ n) && decide (n ≤ hi) | _=>false
def whA (a:At):Bool:=match a with | .i _=>true | _=>false
def numA (a:At):Int:=match a with | .i n=>n | _=>0
section
variable {s:Sl} {w w':Fl} {a a0 a1 a2 a3 a4:At}
theorem Ze2:lend (atE a) = atE a:=Zbh (Ke.kept a)
theorem ZfJ (h:AtK a):callK Z8 [atE a] s = .ok (.v (.bl (whA a))) s:=Zv rfl (by
  cases a with
  | i n=>simp [ZX,atE,whA]
  | b c=>simp [ZX,atE,whA,show isiD "int" (.v (.bl c)) = some (.v (.bl true)) from rfl,show isiD "bool" (.v (.bl c)) = some (.v (.bl true)) from rfl]
  | s z=>simp [ZX,atE,whA,show isiD "int" (.v (.str z)) = some (.v (.bl false)) from rfl]
  | o d=>simp [ZX,atE,whA,h.oi d rfl])
theorem Ziu {lo hi:Int} (h:AtK a):callK Zl [atE a,.v (.int lo),.v (.int hi)] s = .ok (.v (.bl (inI a lo hi))) s:=by
  cases ha:a with
  | i n=>simp [atE,inI]
  | b c=>exact Zv rfl (by simp [Z4,Ze2,ZfJ (ha ▸ h),whA,inI])
  | s z=>exact Zv rfl (by simp [Z4,Ze2,ZfJ (ha ▸ h),whA,inI])
  | o d=>exact Zv rfl (by simp [Z4,Ze2,ZfJ (ha ▸ h),whA,inI])
def nmA (a:At):Bool:=match a with | .s z=>nameB z.cps.toList | _=>false
theorem Zlj (h:AtK a):callK Zz [atE a] s = .ok (.v (.bl (nmA a))) s:=by
  cases ha:a with
  | s z=>exact ZgK (h.s z ha)
  | i n=>exact Zv rfl (by simp [ZG,atE,nmA,show isiD "str" (.v (.int n)) = some (.v (.bl false)) from rfl])
  | b c=>exact Zv rfl (by simp [ZG,atE,nmA,show isiD "str" (.v (.bl c)) = some (.v (.bl false)) from rfl])
  | o d=>exact Zv rfl (by simp [ZG,atE,nmA,h.os d ha])
def whyD:Option String → D | none=>.v .non | some x=>.v (.str (Str.ofString x))
theorem int_of {lo hi:Int} (h:inI a lo hi = true):a = .i (numA a):=by cases a <;> simp_all [inI,numA]
inductive Rw | t (ks:List At) | n (d:KD)
def rwE:Rw → D | .t ks=>Tpl atE ks | .n d=>d.1
instance:Ke rwE:=⟨fun e=>by cases e with | t ks=>rfl | n d=>exact d.2⟩
structure RwK (e:Rw):Prop where
  at_:∀ ks,e = .t ks → (∀ a ∈ ks,AtK a) ∧ ks.length ≤ 50
  no:∀ d,e = .n d → isiD "tuple" d.1 = some (.v (.bl false))
def strA (a:At):Str:=match a with | .s z=>z | _=>""
theorem Zi1 {α:Type} {kn:List Str} {z:Str}:∀ {xs:List α},xs.length = kn.length → (lkD (kn.map Sum.inr) xs (.inr z:Key)).isSome = decide (z ∈ kn):=by
  induction kn with
  | nil=>intro xs _; cases xs <;> simp [lkD]
  | cons k kn ih =>
    intro xs h
    cases xs with
    | nil=>simp at h
    | cons x xs =>
      simp only [List.map_cons,lkD]
      by_cases q:k = z
      · simp [q]
      · have q':¬ z = k:=fun r=>q r.symm
        have:¬ ((Sum.inr k:Key) = Sum.inr z):=fun r=>q (Sum.inr.inj r)
        rw [if_neg this,ih (by simpa using h)]
        simp [q']
end
end Lw
set_option maxHeartbeats 1000000
namespace Lw
open PySem PySem.Spec PyProof.Rows L2 Fs
section
variable {s:Sl} {w w':Fl} {a a0 a1 a2 a3 a4:At} {kn:List Str} {z:Str}
theorem vals_strs:∀ kn:List Str,valsD (kn.map D.str) = some (kn.map V.str)
  | []=>rfl
  | k :: kn=>by simp [valsD,vals_strs kn]
theorem ZhR:∀ kn:List Str,inV (.str z) (kn.map V.str) = decide (z ∈ kn)
  | []=>rfl
  | k :: kn=>by
    have ih:=ZhR kn
    unfold inV at ih ⊢
    have e:eqV (V.str k) (.str z) = decide (k = z):=by
      show (k == z) = _
      by_cases q:k = z
      · subst q; simp
      · have:(k == z) = false:=beq_eq_false_iff_ne.mpr q
        simp [this,q]
    simp only [List.map_cons,List.any_cons,ih,e,List.mem_cons,Bool.decide_or]
    congr 1
    simp [eq_comm]
theorem in_kn:inD (.v (.str z)) (Lst D.str w kn) = some (.v (.bl (decide (z ∈ kn)))):=by
  have e:inB (.v (.str z)) (Lst D.str w kn) = some (decide (z ∈ kn)):=by
    simp only [inB,Lst,seqA,Option.bind_some,vals_strs,ZhR]
  simp only [inD,e]
  rfl
end
end Lw
set_option maxHeartbeats 1000000
namespace Lw
open PySem PySem.Spec PyProof.Rows L2 Fs
section
variable {s:Sl} {w w':Fl} {a a0 a1 a2 a3 a4:At} {kn:List Str} {z:Str}
theorem inI_i {lo hi n:Int}:inI (.i n) lo hi = true ↔ lo ≤ n ∧ n ≤ hi:=by simp [inI]
def wordD (x:String):D:=.v (.str (Str.ofString x))
inductive Th | l (es:List Rw) | t (es:List Rw) | n (d:KD)
structure ThK (t:Th):Prop where
  hl:∀ es,t = .l es → ∀ e ∈ es,RwK e
  ht:∀ es,t = .t es → ∀ e ∈ es,RwK e
  hn:∀ d:KD,t = .n d → isiTD ["list","tuple"] d.1 = some (.v (.bl false))
def thE (w:Fl):Th → D | .l es=>Lst rwE w es | .t es=>Tpl rwE es | .n d=>d.1
theorem itEn_T {es:List Rw} {p:Bool}:itEn p (Tpl rwE es) = some (pairsE 0 (es.map rwE)):=by
  simp only [Tpl,itEn]
  first | rw [if_pos (Zbm es)] | rw [if_pos ⟨Zbm es,.inr (by decide)⟩]
end
end Lw
set_option maxHeartbeats 1000000
namespace Lw
open PySem PySem.Spec PyProof.Rows L2 Fs
end Lw
set_option maxHeartbeats 1000000
namespace Lw
open PySem PySem.Spec PyProof.Rows L2 Fs
def Rep (b dep:Nat) (d:D):Prop:=∃ p,pdx d = some p ∧ p.showable = true ∧ p.depth ≤ dep ∧ p.shown.length ≤ b
section
variable {ρ:Type} {enc:ρ → D} {w:Fl} {xs:List ρ} {b dep:Nat}
theorem Rep.mono {d:D} {b' dep':Nat} (h:Rep b dep d) (h1:b ≤ b') (h2:dep ≤ dep'):Rep b' dep' d:=by
  obtain ⟨p,e1,e2,e3,e4⟩:=h
  exact ⟨p,e1,e2,by omega,by omega⟩
theorem Zk1 {i:Int} (h:i.natAbs < 10 ^ 40):Rep 42 1 (.v (.int i)):=by
  obtain ⟨h1,h2,_⟩:=rc_ok (.int i) (by simpa [sm] using h)
  exact ⟨.int i,rfl,h2,by simp [PyData.depth],by simpa [rc] using h1⟩
theorem Zk0 {z:Str} (h:z.length ≤ 100) (hc:∀ c ∈ z.cps.toList,c < 128):Rep 1100 1 (.v (.str z)):=by
  refine ⟨.str z,rfl,rfl,by simp [PyData.depth],?_⟩
  simp only [PyData.shown]
  have h2:=PySem.StrLaws.reprText_len z (fun c hc'=>by
    have:=hc c (by simpa using hc')
    omega)
  omega
end
structure GA (a:At):Prop where
  k:AtK a
  r:Rep 1100 3 (atE a)
theorem ga_i {i:Int} (h:i.natAbs < 10 ^ 40):GA (.i i):=⟨⟨fun _ e=>(by cases e),fun _ e=>(by cases e),fun _ e=>(by cases e),fun _ e=>(by cases e)⟩,(Zk1 h).mono (by decide) (by decide)⟩
theorem ga_s {z:Str} (h:z.length ≤ 100) (hc:∀ c ∈ z.cps.toList,c < 128):GA (.s z):=⟨⟨fun _ e=>(by cases e; exact h),fun _ e=>(by cases e; exact hc),fun _ e=>(by cases e),fun _ e=>(by cases e)⟩,(Zk0 h hc).mono (by decide) (by decide)⟩
structure GR (n:Nat) (e:Rw):Prop where
  t:∀ ks,e = .t ks → (∀ a ∈ ks,GA a) ∧ ks.length ≤ n
  n:∀ d,e = .n d → isiD "tuple" d.1 = some (.v (.bl false)) ∧ Rep 12000 5 d.1
theorem GR.k {n:Nat} {e:Rw} (h:GR n e) (hn:n ≤ 10):RwK e:=⟨fun ks q=>⟨fun a ha=>((h.t ks q).1 a ha).k,by have:=(h.t ks q).2; omega⟩,fun d q=>(h.n d q).1⟩
def tA:D:=.n .tup .shr [.v (.str "a"),.v (.int 0),.v (.int 5),.v (.int 2)]
def dA:D:=.n (.dct [.inr "a"]) .shr [.v (.int 1)]
def thA:List At:=[.o ⟨.v .non,rfl⟩,.b true,.b false,.i 0,.i 1,.i (-1),.i 200,.i 201,.i (10 ^ 29),.i (-(10 ^ 29)),.s "",.s "a",.s "0",.s "7",.s "07",.s "9999",.s "10000",.s "a1",.s "1a",.s "A",.s "abcdefgh",.s "abcdefghi",.s "a ",.s " 1",.s "+1",.s "-1",.s "a-b",.s "1.5",.s "a\n",.s "z9z9z9z9",
  .o ⟨.n .lst .shr [],rfl⟩,.o ⟨.n .tup .shr [],rfl⟩,.o ⟨.n (.dct []) .shr [],rfl⟩,.o ⟨.n .lst .shr [.v (.int 1)],rfl⟩,.o ⟨.n .tup .shr [.v (.int 1)],rfl⟩,.o ⟨tA,rfl⟩,.o ⟨dA,rfl⟩,.o ⟨.n .lst .shr [.n .lst .shr [.v (.str "a"),.v (.int 0),.v (.int 5),.v (.int 2)]],rfl⟩,.s "\n",.s "mow 3 40 5"]
end Lw
set_option maxHeartbeats 1000000
namespace Lw
open PySem PySem.Spec PyProof.Rows L2 Fs
end Lw
namespace Fs
open PySem PySem.Spec PyProof.Rows L2
section
variable {s:Sl}
def frK:D → Sl → Out D:=fun x δ1=>.ok (frz x) δ1
@[simp] theorem dFr_c {a:DE}:dFr a s = (a s).bind frK:=of_eq_true (eq_self _)
@[simp] theorem frK_c {d:D}:frK d s = .ok (frz d) s:=of_eq_true (eq_self _)
theorem of_sat {α:Type} {o:Out α} {x:α} {t:Sl} (h:sat o fun a s'=>a = x ∧ s' = t):o = .ok x t:=by
  obtain ⟨_,_,e,rfl,rfl⟩:=h
  exact e
end
end Fs
namespace Lw
open PySem PySem.Spec PyProof.Rows L2 Fs
end Lw
set_option maxHeartbeats 1000000
namespace Lw
open PySem PySem.Spec PyProof.Rows L2 Fs
section
variable {s:Sl} {w w':Fl} {z:Str}
def numE:Option Nat → D | some n=>.v (.int (n:Int)) | none=>.v .non
instance:Ke numE:=⟨fun o=>by cases o <;> rfl⟩
end
end Lw
set_option maxHeartbeats 1000000
namespace Lw
open PySem PySem.Spec PyProof.Rows L2 Fs
def rowG (p:Row × Bool):D:=if p.2 then rowD p.1 else .n .tup .shr [.v (.str p.1.nm),.v (.int p.1.a),.v (.int p.1.b),.v (.int p.1.l)]
instance:Ke rowG:=⟨fun ⟨r,b⟩=>by cases b <;> rfl⟩
section
variable {s:Sl} {w w':Fl} {rs:List Row} {hs:List (Row × Bool)} {a b f g:Int}
@[simp] theorem ZmC:Option.filter D.kept (some (Pcs .shr rs)) = some (Pcs .shr rs):=rfl
end
end Lw
set_option maxHeartbeats 1000000
namespace Lw
open PySem PySem.Spec PyProof.Rows L2 Fs
end Lw
set_option maxHeartbeats 1000000
namespace Lw
open PySem PySem.Spec PyProof.Rows L2 Fs
end Lw
set_option maxHeartbeats 1000000
namespace Lw
open PySem PySem.Spec PyProof.Rows L2 Fs
end Lw
set_option maxHeartbeats 1000000
namespace Lw
end Lw
set_option maxHeartbeats 1000000
namespace Fs
open PySem PySem.Spec PyProof.Rows L2
section
variable {s:Sl}
def elseK (o:Out D) (b:DE) (s:Sl):Out D:=match o with | .bad=>b s | .ok d s'=>.ok d s' | .exc c xs s'=>.exc c xs s'
@[simp] theorem Zl4 {b:DE}:elseK .bad b s = b s:=rfl
@[simp] theorem ZmF {b:DE} {d:D} {s':Sl}:elseK (.ok d s') b s = .ok d s':=rfl
@[simp] theorem Zm7 {r:DA}:lendK none r s = .bad:=rfl
end
end Fs
namespace Lw
open PySem PySem.Spec PyProof.Rows L2 Fs
def KpD (w:Fl) (rs:List Row) (f:Int):D:=.n (.obj 23 ["held","most"]) w [Pcs .shr rs,.v (.int f)]
def CrD (w:Fl) (rs:List Row) (f:Int) (p:Int × Int):D:=.n (.obj 24 ["held","most","spot"]) w [Pcs .shr rs,.v (.int f),stE p]
section
variable {s:Sl} {w w':Fl} {rs:List Row} {f:Int} {p:Int × Int} {m:Str}
@[simp] theorem ZmD:Option.filter D.kept (some (Pcs .shr rs)) = some (Pcs .shr rs):=rfl
@[simp] theorem Zni:fldD 23 "held" (KpD w rs f) = some (Pcs .shr rs):=rfl
@[simp] theorem Znh:fldD 23 "most" (KpD w rs f) = some (.v (.int f)):=rfl
@[simp] theorem Znl:fldD 24 "held" (CrD w rs f p) = some (Pcs .shr rs):=rfl
@[simp] theorem Znk:fldD 24 "most" (CrD w rs f p) = some (.v (.int f)):=rfl
@[simp] theorem Znj:fldD 24 "spot" (CrD w rs f p) = some (stE p):=rfl
end
end Lw
set_option maxHeartbeats 1000000
namespace Lw
namespace K12
open PySem PySem.Spec PyProof.Rows L2 Fs
section
variable {s:Sl} {w w':Fl} {rs:List Row} {a b f g:Int}
def chE (rs:List Row):D:=.n .tup .shr [Lst rowD .shr rs,Pcs .shr rs]
instance:Ke chE:=⟨fun _=>rfl⟩
end
end K12
end Lw
set_option maxHeartbeats 1000000
namespace Lw
namespace K28
open PySem PySem.Spec PyProof.Rows L2 Fs
inductive El | t (ks:List KD) | n (d:KD)
def elE:El → D | .t ks=>Tpl kdE ks | .n d=>d.1
instance:Ke elE:=⟨fun e=>by cases e with | t ks=>rfl | n d=>exact d.2⟩
section
variable {s:Sl} {w w':Fl} {rs:List Row} {a b f g:Int} {es:List El} {q:Int × Int × Int × Int}
instance:EqE (Tpl D.int) (fun _=>True):=⟨fun ns=>.tuple (ns.map .int),fun ns=>by
    have:∀ ns:List Int,pds (ns.map D.int) = some (ns.map PyData.int):=fun ns=>by
      induction ns with
      | nil=>rfl
      | cons n ns ih=>simp [pds,pd,ih]
    simp [Tpl,pd,this],fun ns _=>by
    have:∀ ns:List Int,PyData.canLayAll0 (ns.map PyData.int) = true:=fun ns=>by
      induction ns with
      | nil=>rfl
      | cons n ns ih=>simp [PyData.canLayAll0,PyData.canLay0,ih]
    simp [PyData.canLay0,this],fun ns=>by
    have:∀ ns:List Int,PyData.depthAll (ns.map PyData.int) = 0:=fun ns=>by
      induction ns with
      | nil=>rfl
      | cons n ns ih=>simp [PyData.depthAll,PyData.depth,ih]
    simp [PyData.depth,this],fun x y=>by
    have:∀ x y:List Int,PyData.eqvAll (x.map PyData.int) (y.map PyData.int) = true ↔ x = y:=fun x=>by
      induction x with
      | nil=>intro y; cases y <;> simp [PyData.eqvAll]
      | cons a x ih=>intro y; cases y <;> simp [PyData.eqvAll,PyData.eqv,ih]
    simp [PyData.eqv,this]⟩
variable {qs:List (Int × Int × Int × Int)}
end
end K28
end Lw
set_option maxHeartbeats 1000000
namespace Lw
namespace K11
open PySem PySem.Spec PyProof.Rows L2 Fs
theorem ZgO {ρ:Type} {enc:ρ → D} {n:Nat}:∀ {ks:List ρ},(∀ a ∈ ks,sameF n (enc a) (enc a) = true) → allE (sameF n) (ks.map enc) (ks.map enc) = true
  | [],_=>rfl
  | k :: ks,h=>by
    simp only [List.map_cons,allE,Bool.and_eq_true]
    exact ⟨h k (by simp),ZgO fun a ha=>h a (by simp [ha])⟩
section
variable {s:Sl} {w:Fl} {rs:List Row} {e:Rw} {a:At}
theorem ne_same {xs:List D} (h:∀ x ∈ xs,sameF 20 x x = true):neM (.n .tup .shr xs) (.n .tup .shr xs) = some (.v (.bl false)):=by
  have:tupE (sameF 20) (.n .tup .shr xs) (.n .tup .shr xs) = true:=by
    have:=ZgO (enc:=id) (n:=20) (ks:=xs) (by simpa using h)
    simpa [tupE] using this
  unfold neM
  rw [if_pos this]
end
end K11
end Lw
set_option maxHeartbeats 1000000
namespace Lw
namespace K26
open PySem PySem.Spec PyProof.Rows L2 Fs
section
variable {s:Sl} {w w':Fl} {rs:List Row} {f:Int} {qs:List (Int × Int × Int × Int)} {a:At} {e:Rw}
def nw (n:Int):Row:=⟨"new99",n % 40,n % 40 + 9,3,2⟩
end
end K26
end Lw
set_option maxHeartbeats 1000000
namespace Lw
open PySem PySem.Spec PyProof.Rows L2 Fs
end Lw
set_option maxHeartbeats 1000000
namespace Lw
namespace K04
open PySem PySem.Spec PyProof.Rows L2 Fs
theorem ZhM:∀ c ∈ LF,c < 128:=by decide +kernel
theorem Zf1:∀ c ∈ LT,c < 128:=by decide +kernel
theorem name_small {cs:List Nat} (h:nameB cs = true):∀ c ∈ cs,c < 128:=by
  intro c hc
  cases cs with
  | nil=>simp at hc
  | cons x xs =>
    simp only [nameB,Bool.and_eq_true,decide_eq_true_eq] at h
    rcases List.mem_cons.mp hc with rfl | q
    · first | exact Zf1 _ h.1.2 | exact Zf1 _ h.2.1 | exact Zf1 _ h.1.1.2
    · have:=h.2
      simp only [List.all_eq_true,decide_eq_true_eq] at this
      first | exact ZhM c (this.2 c hc) | exact ZhM c (this c hc)
end K04
end Lw
set_option maxHeartbeats 1000000
namespace Lw
end Lw
set_option maxHeartbeats 1000000
namespace Lw
end Lw
set_option maxHeartbeats 1000000
namespace Lw
end Lw
set_option maxHeartbeats 1000000
namespace Lw
end Lw
set_option maxHeartbeats 1000000
namespace Lw
end Lw
namespace Lw
open PySem PySem.Spec PyProof.Rows L2 Fs
end Lw
set_option maxHeartbeats 1000000
namespace Lw
end Lw
set_option maxHeartbeats 1000000
namespace Lw
end Lw
set_option maxHeartbeats 1000000
namespace Lw
end Lw
namespace Lw
open PySem PySem.Spec PyProof.Rows L2 Fs
end Lw
set_option maxHeartbeats 1000000
namespace Lw
end Lw
set_option maxHeartbeats 1000000
namespace Lw
namespace K08
open PySem PySem.Spec PyProof.Rows L2 Fs
end K08
end Lw
set_option maxHeartbeats 1000000
namespace Lw
namespace K08
open PySem PySem.Spec PyProof.Rows L2 Fs
section
variable {s:Sl} {w w':Fl} {z:Str}
def optE:Option Rw → D | none=>.v .non | some e=>rwE e
instance:Ke optE:=⟨fun o=>by cases o with | none=>rfl | some e=>exact Ke.kept (enc:=rwE) e⟩
end
end K08
end Lw
set_option maxHeartbeats 1000000
namespace Lw
namespace K08
open PySem PySem.Spec PyProof.Rows L2 Fs
section
variable {s:Sl} {w w':Fl} {z:Str} {es:List Rw}
abbrev Ln:=Str × List Int
def toE (p:Ln):Rw:=.t (.s p.1 :: p.2.map At.i)
def lnE:Option Ln → D | none=>.v .non | some p=>rwE (toE p)
instance:Ke lnE:=⟨fun o=>by cases o with | none=>rfl | some e=>exact Ke.kept (enc:=rwE) (toE e)⟩
end
end K08
end Lw
set_option maxHeartbeats 1000000
namespace Lw
namespace K08
open PySem PySem.Spec PyProof.Rows L2 Fs
end K08
end Lw
set_option maxHeartbeats 1000000
namespace Lw
namespace K08
open PySem PySem.Spec PyProof.Rows L2 Fs
end K08
end Lw
set_option maxHeartbeats 1000000
namespace Lw
namespace K77
open PySem PySem.Spec PyProof.Rows L2 Fs
structure Sr where
  nm:Str
  a:Int
  w:Int
  l:Int
  e:Int
  t:Int
abbrev srD (r:Sr):D:=.n .tup .shr [.v (.str r.nm),.v (.int r.a),.v (.int r.w),.v (.int r.l),.v (.int r.e),.v (.int r.t)]
instance:Ke srD:=⟨fun _=>rfl⟩
def stI (k:Nat):Str:=Str.ofString (toString (k:Int))
def pN (r:Sr) (k:Nat):Str:=r.nm ++ stI k
def pcR (r:Sr) (k:Nat):Row:=⟨pN r k,r.a + (k:Int) * r.e,r.a + (k:Int) * r.e + r.w - 1,r.l,r.l⟩
def pcs (r:Sr):List Row:=(List.range r.t.toNat).map (pcR r)
def pns (r:Sr):List Str:=(List.range r.t.toNat).map (pN r)
theorem st_c {k:Nat} (h:k < 1000):strD (.v (.int (k:Int))) = some (.v (.str (stI k))):=by
  simp only [strD]
  rw [if_pos (by omega)]
  rfl
theorem st_len {k:Nat} (h:k < 60):(stI k).length ≤ 2:=by
  have q:∀ n:Nat,n < 60 → decide ((stI n).length ≤ 2) = true:=by decide +kernel
  simpa using q k h
theorem add_nm {z y:Str} (h:z.length + y.length ≤ 100000):addA (.v (.str z)) (.v (.str y)) = some (.v (.str (z ++ y))):=by
  simp only [addA,if_pos h]
instance ke_row:Ke rowD:=⟨fun _=>rfl⟩
theorem ZcW {r:Sr} {s:Sl} (h:r.t ≤ 59) (h0:0 ≤ r.t) (hz:r.nm.length ≤ 100):callK Zh [srD r] s = .ok (Lst rowD .own (pcs r)) s:=Zv rfl (by
  have hm:mkLst [] = some (Lst rowD .own []):=rfl
  have ag:∀ x0 x1 x2 x3 x4 x5 x6 x7 x8 x9,asgK (tgT [tgN 1,tgN 2,tgN 3,tgN 4,tgN 5,tgN 6]) (srD r) [x0,x1,x2,x3,x4,x5,x6,x7,x8,x9] = .ok .nx [x0,some (.v (.str r.nm)),some (.v (.int r.a)),some (.v (.int r.w)),some (.v (.int r.l)),some (.v (.int r.e)),some (.v (.int r.t)),x7,x8,x9]:=fun _ _ _ _ _ _ _ _ _ _=>rfl
  have hf:Option.filter D.kept (some (srD r)) = some (srD r):=rfl
  generalize srD r = R at ag hf
  simp [ZbQ,ag,hf,hm,diD,itR_I h0 (by omega:r.t ≤ 100000)]
  refine ZbY (I:=fun pre s=>∃ x8 x9,s = [some R,some (.v (.str r.nm)),some (.v (.int r.a)),some (.v (.int r.w)),some (.v (.int r.l)),some (.v (.int r.e)),some (.v (.int r.t)),some (Lst rowD .own (pre.map (pcR r))),x8,x9]) (fun pre k post s hp hI=>?_) ⟨_,_,rfl⟩ (fun s hI=>?_)
  · obtain ⟨x8,x9,rfl⟩:=hI
    have hk:k < 59:=by
      have:k ∈ List.range r.t.toNat:=by rw [hp]; simp
      have:=List.mem_range.mp this
      omega
    have hpl:(pre.map (pcR r)).length < 100000:=by
      have:=congrArg List.length hp
      simp at this ⊢
      omega
    refine ⟨_,rfl,?_⟩
    have hl:=st_len (k:=k) (by omega)
    have m5:mkTup [D.v (.str (r.nm ++ stI k)),.v (.int (r.a + (k:Int) * r.e)),.v (.int (r.a + (k:Int) * r.e + r.w - 1)),.v (.int r.l),.v (.int r.l)] = some (rowD (pcR r k)):=rfl
    have cm:cMul (k:Int) r.e = true:=cMul_l (by omega)
    simp [natE,cm]
    refine Zdv (enc:=rowD) (xs:=pre.map (pcR r)) (pcR r k) rfl ?_ hpl ?_
    · simp [st_c (k:=k) (by omega),add_nm (z:=r.nm) (y:=stI k) (by omega),m5]
    · simp
  · obtain ⟨x8,x9,rfl⟩:=hI
    simp [dMv,Lst,D.free,pcs])
theorem ZiK {r:Sr}:(pcs r).map Row.nm = pns r:=by
  unfold pcs pns
  rw [List.map_map]
  rfl
theorem st_inj {i j:Nat} (hi:i < 59) (hj:j < 59) (e:stI i = stI j):i = j:=by
  have q:∀ i:Nat,i < 59 → ∀ j:Nat,j < 59 → decide (stI i = stI j → i = j) = true:=by decide +kernel
  exact of_decide_eq_true (q i hi j hj) e
theorem ZgZ {z x y:Str} (e:z ++ x = z ++ y):x = y:=by
  have h:(z ++ x).cps.toList = (z ++ y).cps.toList:=by rw [e]
  have h2:∀ a b:Str,(a ++ b).cps.toList = a.cps.toList ++ b.cps.toList:=fun a b=>by
    show (a.cps ++ b.cps).toList = _
    simp
  rw [h2,h2] at h
  exact Str.ext' (List.append_cancel_left h)
theorem pns_nd {r:Sr} (h:r.t ≤ 59):(pns r).Nodup:=by
  unfold pns
  refine List.pairwise_map.mpr (List.Pairwise.imp_of_mem (fun {i j} hi hj ne e=>?_) (List.nodup_range (n:=r.t.toNat)))
  have h1:=List.mem_range.mp hi
  have h2:=List.mem_range.mp hj
  exact ne (st_inj (by omega) (by omega) (ZgZ e))
theorem Zek {r:Sr}:(pns r).length = r.t.toNat:=by simp [pns]
theorem Zha {r:Sr}:(pcs r).length = r.t.toNat:=by simp [pcs]
theorem Zi8 {ρ:Type} {enc:ρ → D} [Ke enc] {w:Fl} {xs:List ρ} {q:ρ} (h:xs.getLast? = some q):ixK (Lst enc w xs) (.v (.int (-1))) = some (enc q):=by
  have hne:xs ≠ []:=fun e=>by rw [e] at h; cases h
  have hl:0 < xs.length:=List.length_pos_iff.mpr hne
  have hi:xs[xs.length - 1]? = some q:=by rw [← List.getLast?_eq_getElem?]; exact h
  have:ixD (Lst enc w xs) (.v (.int (-1))) = some (enc q):=by
    simp only [Lst,ixD]
    unfold L2.atI
    have e:ixN (xs.map enc).length (-1) = some (xs.length - 1):=by
      unfold ixN
      rw [if_neg (by omega),if_pos (by simp; omega)]
      simp
      omega
    rw [e,Option.bind_some,List.getElem?_map,hi]
    rfl
  unfold ixK
  rw [this]
  simp [Option.filter,Ke.kept]
theorem itA_LJ {ρ:Type} {enc:ρ → D} [Ke enc] {w:Fl} {xs:List ρ}:itA true (Lst enc w xs) = some (xs.map enc):=by
  simp only [Lst,itA]
  rw [if_pos ⟨Zbm xs,.inl trivial⟩]
end K77
end Lw
set_option maxHeartbeats 1000000
namespace Lw
namespace K77
open PySem PySem.Spec PyProof.Rows L2 Fs
def srOf:Rw → Sr
  | .t [.s z,.i a,.i w,.i l,.i e,.i t]=>⟨z,a,w,l,e,t⟩
  | _=>⟨"",0,0,0,0,0⟩
def nm6 (a:At):Bool:=match a with | .s z=>nameB z.cps.toList && decide (z.length ≤ 6) | _=>false
def num6 (a1 a2 a3 a4 a5:At):Option String :=
  if inI a1 0 199 = false then some "first" else if inI a2 1 200 = false then some "window" else if inI a3 1 12 = false then some "length"
  else if inI a4 1 200 = false then some "every" else if inI a5 1 30 = false then some "times"
  else if 200 < numA a1 + (numA a5 - 1) * numA a4 + numA a2 then some "last" else none
def own6 (kn:List Str):Rw → Option String
  | .t [a0,a1,a2,a3,a4,a5]=>if nm6 a0 = false then some "name" else if strA a0 ∈ kn then some "double" else num6 a1 a2 a3 a4 a5
  | _=>some "form"
section
variable {s:Sl} {w w':Fl} {a a0 a1 a2 a3 a4 a5:At} {kn:List Str} {z:Str}
theorem nm6_of (h:nm6 a = true):∃ z,a = .s z ∧ nameB z.cps.toList = true ∧ z.length ≤ 6:=by
  cases a with
  | s z=>exact ⟨z,rfl,by simpa [nm6] using h⟩
  | i n=>cases h
  | b c=>cases h
  | o d=>cases h
structure SrOk (r:Sr):Prop where
  nm:nameB r.nm.cps.toList = true
  n6:r.nm.length ≤ 6
  a0:0 ≤ r.a
  a1:r.a ≤ 199
  w0:1 ≤ r.w
  w1:r.w ≤ 200
  l0:1 ≤ r.l
  l1:r.l ≤ 12
  e0:1 ≤ r.e
  e1:r.e ≤ 200
  t0:1 ≤ r.t
  t1:r.t ≤ 30
  la:r.a + (r.t - 1) * r.e + r.w ≤ 200
theorem ZiN (h:num6 a1 a2 a3 a4 a5 = none):∃ n1 n2 n3 n4 n5,a1 = .i n1 ∧ a2 = .i n2 ∧ a3 = .i n3 ∧ a4 = .i n4 ∧ a5 = .i n5 ∧ 0 ≤ n1 ∧ n1 ≤ 199 ∧ 1 ≤ n2 ∧ n2 ≤ 200 ∧ 1 ≤ n3 ∧ n3 ≤ 12 ∧ 1 ≤ n4 ∧ n4 ≤ 200 ∧ 1 ≤ n5 ∧ n5 ≤ 30 ∧ n1 + (n5 - 1) * n4 + n2 ≤ 200:=by
  unfold num6 at h
  repeat' split at h
  all_goals try (cases h; done)
  rename_i c1 c2 c3 c4 c5 c6
  simp only [Bool.not_eq_false] at c1 c2 c3 c4 c5
  have e1:=int_of c1; have e2:=int_of c2; have e3:=int_of c3; have e4:=int_of c4; have e5:=int_of c5
  have d1:=inI_i.mp (by rw [← e1]; exact c1)
  have d2:=inI_i.mp (by rw [← e2]; exact c2)
  have d3:=inI_i.mp (by rw [← e3]; exact c3)
  have d4:=inI_i.mp (by rw [← e4]; exact c4)
  have d5:=inI_i.mp (by rw [← e5]; exact c5)
  exact ⟨_,_,_,_,_,e1,e2,e3,e4,e5,d1.1,d1.2,d2.1,d2.2,d3.1,d3.2,d4.1,d4.2,d5.1,d5.2,by omega⟩
theorem Zgr {e:Rw} (h:own6 kn e = none):SrOk (srOf e) ∧ (srOf e).nm ∉ kn ∧ rwE e = srD (srOf e):=by
  unfold own6 at h
  split at h
  · split at h
    · cases h
    · rename_i c0
      split at h
      · cases h
      · rename_i c1
        obtain ⟨z,rfl,hz,hz6⟩:=nm6_of (by simpa using c0)
        obtain ⟨n1,n2,n3,n4,n5,rfl,rfl,rfl,rfl,rfl,q⟩:=ZiN h
        obtain ⟨q1,q2,q3,q4,q5,q6,q7,q8,q9,q10,q11⟩:=q
        exact ⟨⟨hz,hz6,q1,q2,q3,q4,q5,q6,q7,q8,q9,q10,q11⟩,c1,rfl⟩
  · cases h
def rfB:DS:=(dsIf (dtNot (dtV (dCall Zl (daLend (pVar 5) (daLend (pVar 3) (daLend (pVar 4) daNil)))))) (dsRet (dMv 2)) dsNext)
def csT:List (String × Int × Int × At) → List D:=fun cs=>cs.map fun c=>.n .tup .shr [cstD [.str (Str.ofString c.1),.int c.2.1,.int c.2.2.1],atE c.2.2.2]
def firstBad:List (String × Int × Int × At) → Option String
  | []=>none
  | c :: cs=>if inI c.2.2.2 c.2.1 c.2.2.1 = false then some c.1 else firstBad cs
theorem ZiF {x0 x1:Option D}:∀ (cs:List (String × Int × Int × At)) (y2 y3 y4 y5:Option D),(∀ c ∈ cs,AtK c.2.2.2) →
    match firstBad cs with
    | some y=>∃ s',loop (tgT [tgT [tgN 2,tgN 3,tgN 4],tgN 5]) rfB (csT cs) [x0,x1,y2,y3,y4,y5] = .ok (.rt (wordD y)) s'
    | none=>∃ z2 z3 z4 z5,loop (tgT [tgT [tgN 2,tgN 3,tgN 4],tgN 5]) rfB (csT cs) [x0,x1,y2,y3,y4,y5] = .ok .nx [x0,x1,z2,z3,z4,z5]
  | [],y2,y3,y4,y5,_=>⟨y2,y3,y4,y5,rfl⟩
  | c :: cs,y2,y3,y4,y5,h=>by
    have hc:=h c List.mem_cons_self
    have hk:(atE c.2.2.2).kept = true:=Ke.kept _
    have ht:tgT [tgT [tgN 2,tgN 3,tgN 4],tgN 5] (.n .tup .shr [cstD [.str (Str.ofString c.1),.int c.2.1,.int c.2.2.1],atE c.2.2.2]) [x0,x1,y2,y3,y4,y5] = some [x0,x1,some (wordD c.1),some (.v (.int c.2.1)),some (.v (.int c.2.2.1)),some (atE c.2.2.2)]:=by
      have kv:∀ v,(D.v v).kept = true:=fun _=>rfl
      have ks:∀ k xs,(D.n k .shr xs).kept = true:=fun _ _=>rfl
      simp [tgT,tgs,tgN,cstD,kv,ks,hk,wordD]
    unfold csT
    rw [List.map_cons,Zd4 ht]
    have hb:rfB [x0,x1,some (wordD c.1),some (.v (.int c.2.1)),some (.v (.int c.2.2.1)),some (atE c.2.2.2)] = if inI c.2.2.2 c.2.1 c.2.2.1 = false then .ok (.rt (wordD c.1)) [x0,x1,none,some (.v (.int c.2.1)),some (.v (.int c.2.2.1)),some (atE c.2.2.2)] else .ok .nx [x0,x1,some (wordD c.1),some (.v (.int c.2.1)),some (.v (.int c.2.2.1)),some (atE c.2.2.2)]:=by
      cases hi:inI c.2.2.2 c.2.1 c.2.2.1 <;> simp [rfB,Ze2,Ziu hc,hi,dMv,wordD,D.free]
    rw [hb]
    simp only [firstBad]
    cases hi:inI c.2.2.2 c.2.1 c.2.2.1 with
    | false=>exact ⟨_,rfl⟩
    | true=>exact ZiF cs _ _ _ _ fun c' hc'=>h c' (List.mem_cons_of_mem _ hc')
theorem ZeA:firstBad [("first",0,199,a1),("window",1,200,a2),("length",1,12,a3),("every",1,200,a4),("times",1,30,a5)] = (if inI a1 0 199 = false then some "first" else if inI a2 1 200 = false then some "window" else if inI a3 1 12 = false then some "length"
  else if inI a4 1 200 = false then some "every" else if inI a5 1 30 = false then some "times" else none):=rfl
theorem csT_eq:itZC [[.str "first",.int 0,.int 199],[.str "window",.int 1,.int 200],[.str "length",.int 1,.int 12],[.str "every",.int 1,.int 200],[.str "times",.int 1,.int 30]] (Tpl atE [a1,a2,a3,a4,a5]) = some (csT [("first",0,199,a1),("window",1,200,a2),("length",1,12,a3),("every",1,200,a4),("times",1,30,a5)]):=by
  simp only [itZC,Tpl]
  rw [if_pos ⟨Zbm _,rfl⟩]
  rfl
theorem name6 (h:AtK a):∃ c,callK Zz [atE a] s = .ok (.v (.bl c)) s ∧ (c = false → nm6 a = false) ∧ (c = true → ∃ z,a = .s z ∧ z.length ≤ 100 ∧ nm6 a = decide (z.length ≤ 6)):=by
  refine ⟨nmA a,Zlj h,fun q=>?_,fun q=>?_⟩
  · cases a with
    | s z=>simp only [nmA] at q; simp [nm6,q]
    | i n=>rfl
    | b c=>rfl
    | o d=>rfl
  · cases a with
    | s z=>simp only [nmA] at q; exact ⟨z,rfl,h.s z rfl,by simp [nm6,q]⟩
    | i n=>cases q
    | b c=>cases q
    | o d=>cases q
theorem Zlo {r:Sr} (h0:1 ≤ r.t):∃ d,ixK (Lst rowD .own (pcs r)) (.v (.int (-1))) = some d ∧ ixK d (.v (.int 2)) = some (.v (.int (r.a + (r.t - 1) * r.e + r.w - 1))):=by
  obtain ⟨n,hn⟩:=Int.eq_ofNat_of_zero_le (show 0 ≤ r.t - 1 by omega)
  have ht:r.t.toNat = n + 1:=by omega
  refine ⟨rowD (pcR r n),?_,?_⟩
  · have e:pcs r = (List.range n).map (pcR r) ++ [pcR r n]:=by
      unfold pcs
      rw [ht,List.range_succ,List.map_append]
      rfl
    rw [e]
    exact Zi8 (by simp)
  · rw [hn]
    rfl
theorem ZkJ (hk:∀ a ∈ [a0,a1,a2,a3,a4,a5],AtK a) {xs:List D} (hx:xs.length = kn.length):callK Zt [.n (.dct (kn.map Sum.inr)) .bor xs,Tpl atE [a0,a1,a2,a3,a4,a5]] s = .ok (whyD (own6 kn (.t [a0,a1,a2,a3,a4,a5]))) s:=Zv rfl (by
  have h0:=hk a0 (by simp)
  have i0:ixD (Tpl atE [a0,a1,a2,a3,a4,a5]) (.v (.int 0)) = some (atE a0):=ix_Tpl (i:=0) rfl
  have l6:lenD (Tpl atE [a0,a1,a2,a3,a4,a5]) = some (.v (.int 6)):=rfl
  have ht:isiD "tuple" (Tpl atE [a0,a1,a2,a3,a4,a5]) = some (.v (.bl true)):=rfl
  have hsl:slD [Tpl atE [a0,a1,a2,a3,a4,a5],.v (.int 1),.v .non] = some (Tpl atE [a1,a2,a3,a4,a5]):=by rw [sl_Tpl (enc:=atE) (lo:=some 1) (hi:=none) rfl rfl]; rfl
  have hit:=csT_eq (a1:=a1) (a2:=a2) (a3:=a3) (a4:=a4) (a5:=a5)
  have hd:lend (Tpl atE [a0,a1,a2,a3,a4,a5]) = Tpl atE [a0,a1,a2,a3,a4,a5]:=Zbh rfl
  have hin1:intP (.v (.int 1)) = some (.v (.int 1)):=rfl
  obtain ⟨c,n1,n2,n3⟩:=name6 (s:=[some (.n (.dct (kn.map Sum.inr)) .bor xs),some (Tpl atE [a0,a1,a2,a3,a4,a5]),none,none,none,none]) h0
  have hR:Tpl atE [a0,a1,a2,a3,a4,a5] = rwE (.t [a0,a1,a2,a3,a4,a5]):=rfl
  have hP:nm6 a0 = true → num6 a1 a2 a3 a4 a5 = (firstBad [("first",0,199,a1),("window",1,200,a2),("length",1,12,a3),("every",1,200,a4),("times",1,30,a5)]).or (if 200 < numA a1 + (numA a5 - 1) * numA a4 + numA a2 then some "last" else none):=fun _=>by
    rw [ZeA]
    unfold num6
    repeat' split
    all_goals rfl
  have hpc:∀ s,(∃ z n1 n2 n3 n4 n5,a0 = .s z ∧ z.length ≤ 100 ∧ a1 = .i n1 ∧ a2 = .i n2 ∧ a3 = .i n3 ∧ a4 = .i n4 ∧ a5 = .i n5 ∧ 1 ≤ n5 ∧ n5 ≤ 30) → ∃ L d,callK Zh [Tpl atE [a0,a1,a2,a3,a4,a5]] s = .ok L s ∧ ixK L (.v (.int (-1))) = some d ∧ ixK d (.v (.int 2)) = some (.v (.int (numA a1 + (numA a5 - 1) * numA a4 + numA a2 - 1))):=by
    rintro s ⟨z,k1,k2,k3,k4,k5,rfl,hz,rfl,rfl,rfl,rfl,rfl,g1,g2⟩
    obtain ⟨d,q1,q2⟩:=Zlo (r:=⟨z,k1,k2,k3,k4,k5⟩) g1
    exact ⟨_,d,ZcW (r:=⟨z,k1,k2,k3,k4,k5⟩) (by show k5 ≤ 59; omega) (by show 0 ≤ k5; omega) hz,q1,q2⟩
  have hlp:=ZiF (x0:=some (.n (.dct (kn.map Sum.inr)) .bor xs)) (x1:=some (Tpl atE [a0,a1,a2,a3,a4,a5])) [("first",0,199,a1),("window",1,200,a2),("length",1,12,a3),("every",1,200,a4),("times",1,30,a5)] none none none none (fun c hc=>by
    simp only [List.mem_cons,List.not_mem_nil,or_false] at hc
    rcases hc with rfl | rfl | rfl | rfl | rfl <;> exact hk _ (by simp))
  generalize Tpl atE [a0,a1,a2,a3,a4,a5] = R at i0 l6 ht hsl hd n1 hpc hlp ⊢
  cases c with
  | false=>simp [Zx,ht,l6,i0,Ze2,n1,own6,n2 rfl,whyD]
  | true =>
    obtain ⟨z,rfl,hz,e6⟩:=n3 rfl
    have i0':ixD R (.v (.int 0)) = some (.v (.str z)):=i0
    have hl:lenD (.v (.str z)) = some (.v (.int (z.length:Int))):=len_str (by omega)
    have n1':callK Zz [.v (.str z)] [some (.n (.dct (kn.map Sum.inr)) .bor xs),some R,none,none,none,none] = _:=n1
    by_cases h6:z.length ≤ 6
    · have g6:¬ (6:Int) < z.length:=by omega
      have e6':nm6 (.s z) = true:=by rw [e6]; simpa using h6
      have hin:inD (.v (.str z)) (.n (.dct (kn.map Sum.inr)) .bor xs) = some (.v (.bl (decide (z ∈ kn)))):=by rw [in_dct,Zi1 hx]
      by_cases h1:z ∈ kn
      · simp [Zx,ht,l6,i0',Zbh,n1',hl,g6,hin,h1,own6,e6',strA,whyD]
      · simp [Zx,ht,l6,i0',Zbh,n1',hl,g6,hin,h1,own6,e6',strA,diC,diD,hin1,hsl,hit]
        cases hfb:firstBad [("first",0,199,a1),("window",1,200,a2),("length",1,12,a3),("every",1,200,a4),("times",1,30,a5)] with
        | some y =>
          rw [hfb] at hlp
          obtain ⟨s',e⟩:=hlp
          have e':num6 a1 a2 a3 a4 a5 = some y:=by rw [hP e6',hfb]; rfl
          unfold rfB at e
          rw [e,e']
          simp [whyD,wordD]
        | none =>
          rw [hfb] at hlp
          obtain ⟨z2,z3,z4,z5,e⟩:=hlp
          have e':num6 a1 a2 a3 a4 a5 = if 200 < numA a1 + (numA a5 - 1) * numA a4 + numA a2 then some "last" else none:=by rw [hP e6',hfb]; rfl
          unfold rfB at e
          rw [e,e']
          rw [ZeA] at hfb
          repeat' split at hfb
          all_goals try (cases hfb; done)
          rename_i c1 c2 c3 c4 c5
          simp only [Bool.not_eq_false] at c1 c2 c3 c4 c5
          have e5:=int_of c5
          have d5:=inI_i.mp (by rw [← e5]; exact c5)
          obtain ⟨L,d,p1,p2,p3⟩:=hpc [some (.n (.dct (kn.map Sum.inr)) .bor xs),some R,z2,z3,z4,z5] ⟨z,_,_,_,_,_,rfl,hz,int_of c1,int_of c2,int_of c3,int_of c4,e5,d5.1,d5.2⟩
          have ng:negD (.v (.int 1)) = some (.v (.int (-1))):=rfl
          by_cases g:200 < numA a1 + (numA a5 - 1) * numA a4 + numA a2
          · have g':199 < numA a1 + (numA a5 - 1) * numA a4 + numA a2 - 1:=by omega
            simp [hd,p1,ng,p2,p3,g,g',whyD]
          · have g':¬ 199 < numA a1 + (numA a5 - 1) * numA a4 + numA a2 - 1:=by omega
            simp [hd,p1,ng,p2,p3,g,g',whyD]
    · have g6:(6:Int) < z.length:=by omega
      have e6':nm6 (.s z) = false:=by rw [e6]; simpa using h6
      simp [Zx,ht,l6,i0',Zbh,n1',hl,g6,own6,e6',whyD])
end
end K77
end Lw
set_option maxHeartbeats 1000000
namespace Lw
namespace K77
open PySem PySem.Spec PyProof.Rows L2 Fs
section
variable {s:Sl} {w w':Fl} {kn hd:List Str} {z:Str} {r:Sr}
theorem own_at {e:Rw} (h:RwK e) {xs:List D} (hx:xs.length = kn.length):callK Zt [.n (.dct (kn.map Sum.inr)) .bor xs,rwE e] s = .ok (whyD (own6 kn e)) s:=by
  cases e with
  | n d=>exact Zv rfl (by simp [Zx,rwE,h.no d rfl,own6,whyD])
  | t ks =>
    obtain ⟨hk,hl⟩:=h.at_ ks rfl
    by_cases h6:ks.length = 6
    · match ks,h6,hk with
      | [a0,a1,a2,a3,a4,a5],_,hk=>exact ZkJ hk hx
    · have e6:own6 kn (.t ks) = some "form":=by
        unfold own6
        split
        · rename_i q
          cases q
          exact absurd rfl h6
        · rfl
      have hne:neD (.v (.int (ks.length:Int))) (.v (.int 6)) = some (.v (.bl true)):=by
        have:¬ (ks.length:Int) = 6:=by omega
        simp [this]
      have l1:lenD (Tpl atE ks) = some (.v (.int (ks.length:Int))):=by simp
      have ht:isiD "tuple" (Tpl atE ks) = some (.v (.bl true)):=rfl
      rw [e6]
      simp only [rwE]
      generalize Tpl atE ks = R at l1 ht
      generalize (ks.length:Int) = n at l1 hne
      exact Zv rfl (by simp [Zx,ht,l1,hne,whyD])
def meet6 (hd:List Str) (r:Sr):Option String:=if (pns r).any (fun z=>decide (z ∈ hd)) then some "meets" else if 30 < (hd.length:Int) + r.t then some "together" else none
theorem pn_ok (h:SrOk r) {k:Nat} (hk:k < 59):okS (pN r k):=fun c hc=>by
  have hq:(pN r k).cps.toList = r.nm.cps.toList ++ (stI k).cps.toList:=by
    show (r.nm.cps ++ (stI k).cps).toList = _
    simp
  rw [hq] at hc
  have hs:∀ n:Nat,n < 59 → ((stI n).cps.toList.all fun c=>decide (c < 128)) = true:=by decide +kernel
  rcases List.mem_append.mp hc with q | q
  · have:=K04.name_small h.nm c q
    omega
  · have:=List.all_eq_true.mp (hs k hk) c q
    simp at this
    omega
theorem pns_ok (h:SrOk r):∀ z ∈ pns r,okS z:=fun z hz=>by
  obtain ⟨k,hk,rfl⟩:=List.mem_map.mp hz
  have:=List.mem_range.mp hk
  have:=h.t1
  exact pn_ok h (by omega)
theorem Zig {α:Type} (xs:List α) (p:α → Bool):(!(xs.filter p).isEmpty) = xs.any p:=by
  induction xs with
  | nil=>rfl
  | cons x xs ih =>
    by_cases h:p x = true
    · simp [h]
    · simp [h,ih]
theorem ZkW {q:Row}:ixD (rowD q) (.v (.int 0)) = some (.v (.str q.nm)):=rfl
theorem meet_c (h:SrOk r) {ys:List D} (hy:ys.length = hd.length):callK Zo [.n (.dct (hd.map Sum.inr)) .bor ys,srD r] s = .ok (whyD (meet6 hd r)) s:=Zv rfl (by
  have hp:∀ s,callK Zh [srD r] s = .ok (Lst rowD .own (pcs r)) s:=fun s=>ZcW (by have:=h.t1; omega) (by have:=h.t0; omega) (by have:=h.n6; omega)
  have hd':lend (srD r) = srD r:=Zbh rfl
  have hm:mkLst [] = some (.n .lst .own []):=rfl
  have hl:lenD (.n (.dct (hd.map Sum.inr)) .bor ys) = some (.v (.int (hd.length:Int))):=by simp [lenD,hy]
  generalize srD r = R at hp hd'
  simp [Zbq]
  refine sat_cm (enc:=rowD) (xs:=pcs r) Row.nm (out:=D.str) (by simp [diD,hd',hp,itA_LJ]) rfl (fun q _=>?_) (by rw [Zha]; have:=h.t1; omega) ?_
  · simp [ZkW]
  · rw [ZiK]
    simp
    refine Zg4 (out:=D.str) (fun z=>D.str z) (pns r) (fun z=>decide (z ∈ hd)) (fun z=>z) (by simp [diP,itA_LJ]) rfl (fun z _=>?_) (by rw [Zek]; have:=h.t1; omega) ?_
    · have hin:inD (.v (.str z)) (.n (.dct (hd.map Sum.inr)) .bor ys) = some (.v (.bl (decide (z ∈ hd)))):=by rw [in_dct,Zi1 hy]
      by_cases hz:z ∈ hd <;> simp [hin,hz]
    · have hN:=Zlf (enc:=D.str) (ok:=okS) (w:=.own) (w':=.own) (xs:=((pns r).filter fun z=>decide (z ∈ hd)).map fun z=>z) (fun x hx=>by
        obtain ⟨k,hk,rfl⟩:=List.mem_map.mp hx
        exact pns_ok h k (List.mem_filter.mp hk).1)
      rw [List.map_id',Zig] at hN
      rw [List.map_id']
      have hpl:(pns r).length = r.t.toNat:=Zek
      have hlp:lenD (Lst D.str .own (pns r)) = some (.v (.int (r.t.toNat:Int))):=by simp [hpl]
      have ht:((r.t.toNat:Nat):Int) = r.t:=by have:=h.t0; omega
      rw [ht] at hlp
      generalize Lst D.str .own ((pns r).filter fun z=>decide (z ∈ hd)) = G at hN
      generalize Lst D.str .own (pns r) = L at hlp
      unfold meet6
      cases hc:(pns r).any (fun z=>decide (z ∈ hd)) with
      | true=>simp [hm,hN,hc,whyD]
      | false =>
        by_cases g:30 < (hd.length:Int) + r.t
        · simp [hm,hN,hc,hl,hlp,g,whyD]
        · simp [hm,hN,hc,hl,hlp,g,whyD])
end
end K77
end Lw
set_option maxHeartbeats 1000000
namespace Lw
open PySem PySem.Spec PyProof.Rows L2 Fs
structure Bk where
  rows:List Row
  now:Int
  spare:Int
  fates:List (Str × Nat)
  deeds:List Rw
def fW:Nat → String | 31=>"done" | 32=>"off" | _=>"refused"
def fWd (c:Nat):D:=.v (.str (Str.ofString (fW c)))
def fO (c:Nat):D:=.n (.obj c []) .shr []
abbrev fKs (fs:List (Str × Nat)):List Key:=fs.map fun p=>.inr p.1
def ftD (g:Nat → D) (w:Fl) (fs:List (Str × Nat)):D:=.n (.dct (fKs fs)) w (fs.map fun p=>g p.2)
def bkO (w:Fl) (a b c d e:D):D:=.n (.obj 34 ["spare","turn","held","fates","deeds"]) w [a,b,c,d,e]
def lsO (w:Fl) (a b c d e:D):D:=.n (.dct [.inr "now",.inr "spare",.inr "rows",.inr "fates",.inr "deeds"]) w [a,b,c,d,e]
def bkD (w:Fl) (B:Bk):D:=bkO w (.v (.int B.spare)) (.v (.int B.now)) (Lst rowD w B.rows) (ftD fO w B.fates) (Lst rwE w B.deeds)
def lsD (w v:Fl) (B:Bk):D:=lsO w (.v (.int B.now)) (.v (.int B.spare)) (Lst rowD v B.rows) (ftD fWd w B.fates) (Lst rwE w B.deeds)
section
variable {s δ:Sl} {w w' v:Fl} {B:Bk} {rs:List Row} {r:Row} {m z:Str} {n:Nat} {i:Int} {fs:List (Str × Nat)} {g:Nat → D} {x y:D}
@[simp] theorem Zng:(bkD .own B).free = true:=rfl
@[simp] theorem Znf:(lsD .own v B).free = true:=rfl
theorem stC_at {pl:PL} {i:Nat} {π:List Nat} {d c:D} {k:Nat → List Nat → D → D → Out Fs.Flow} (h1:pl s = some (i,π)) (h2:(s[i]?).join = some d) (h3:getP π d = some c) (h4:(d.free && ownP π d) = true):Fs.stC pl s k = k i π d c:=by
  unfold Fs.stC
  simp only [h1,h2,h3,h4,if_true]
theorem Zgh {pl:PL} {kd:DE} {fz:Bool} {i:Nat} {π:List Nat} {d c c' kk:D} (h1:pl s = some (i,π)) (h2:(s[i]?).join = some d) (h3:getP π d = some c) (h4:(d.free && ownP π d) = true) (h5:kd s = .ok kk s) (h6:mSet c [kk,if fz then frz y else y] = some (c',x)):storeK pl kd fz y s = .ok .nx (s.set i (some (setP π d c'))):=by
  unfold storeK
  rw [stC_at h1 h2 h3 h4,h5,noX_ok,Z0]
  unfold stEnd
  rw [h6]
variable {q:DA} {o:Option D}
end
end Lw
set_option maxHeartbeats 1000000
namespace Lw
namespace K77
open PySem PySem.Spec PyProof.Rows L2 Fs
def orNK (b:DE):D → Sl → Out D:=fun x δ1=>match x with
  | .v .non=>b δ1
  | .v (.str s)=>if s.length ≤ 1000 ∧ s.length ≠ 0 then .ok (.v (.str s)) δ1 else .bad
  | _=>.bad
theorem dOrN_c {a b:DE} {x:Option D} {δ:Sl}:dOrN a b (x :: δ) = (a (x :: δ)).bind (orNK b):=rfl
theorem orNK_n {b:DE} {s:Sl}:orNK b (.v .non) s = b s:=rfl
def whys:List String:=["form","name","double","first","window","length","every","times","last","meets","together"]
theorem orNK_w {b:DE} {s:Sl} {y:String} (h:y ∈ whys):orNK b (wordD y) s = .ok (wordD y) s:=by
  have q:∀ y ∈ whys,decide ((Str.ofString y).length ≤ 1000 ∧ (Str.ofString y).length ≠ 0) = true:=by decide +kernel
  have h2:=of_decide_eq_true (q y h)
  unfold orNK wordD
  exact if_pos h2
theorem Zj4 {kn:List Str} {e:Rw} {y:String} (h:own6 kn e = some y):y ∈ whys:=by
  unfold own6 at h
  split at h
  · split at h
    · cases h; decide
    · split at h
      · cases h; decide
      · unfold num6 at h
        repeat' split at h
        all_goals first | (cases h; decide) | cases h
  · cases h; decide
theorem ZiY {hd:List Str} {r:Sr} {y:String} (h:meet6 hd r = some y):y ∈ whys:=by
  unfold meet6 at h
  repeat' split at h
  all_goals first | (cases h; decide) | cases h
def pnA (rs:List Sr):List Str:=rs.flatMap pns
def fl6 (rs:List Sr) (e:Rw):Option String:=match own6 (rs.map Sr.nm) e with
  | some y=>some y
  | none=>meet6 (pnA rs) (srOf e)
def hv (r:Sr):List (Str × Str × Nat):=(List.range r.t.toNat).map fun k=>(pN r k,r.nm,k)
def hvE (p:Str × Str × Nat):D:=.n .tup .shr [.v (.str p.2.1),.v (.int (p.2.2:Int))]
instance:Ke hvE:=⟨fun _=>rfl⟩
abbrev knD (w:Fl) (rs:List Sr):D:=.n (.dct ((rs.map Sr.nm).map Sum.inr)) w (rs.map srD)
abbrev hdD (w:Fl) (L:List (Str × Str × Nat)):D:=.n (.dct ((L.map Prod.fst).map Sum.inr)) w (L.map hvE)
abbrev seO (w:Fl) (a b:D):D:=.n (.obj 36 ["known","held"]) w [a,b]
def hvA (rs:List Sr):List (Str × Str × Nat):=rs.flatMap hv
abbrev serD (w:Fl) (rs:List Sr):D:=seO w (knD w rs) (hdD w (hvA rs))
structure SerOk (rs:List Sr):Prop where
  ok:∀ r ∈ rs,SrOk r
  nd:(rs.map Sr.nm).Nodup
  pd:(pnA rs).Nodup
  len:(pnA rs).length ≤ 30
theorem hv_fst {r:Sr}:(hv r).map Prod.fst = pns r:=by simp [hv,pns]
theorem Zch:∀ {rs:List Sr},(hvA rs).map Prod.fst = pnA rs
  | []=>rfl
  | r :: rs=>by
    have ih:=Zch (rs:=rs)
    unfold hvA pnA at ih ⊢
    simp only [List.flatMap_cons,List.map_append,hv_fst,ih]
theorem lends_enc {ρ:Type} {enc:ρ → D} [Ke enc]:∀ xs:List ρ,lends (xs.map enc) = xs.map enc
  | []=>rfl
  | x :: xs=>by
    rw [List.map_cons,show lends (enc x :: xs.map enc) = lend (enc x) :: lends (xs.map enc) from rfl,Zbh (Ke.kept x),lends_enc xs]
theorem Zi2 {rs:List Sr}:lend (knD .own rs) = knD .bor rs:=by
  show D.n _ .bor (lends (rs.map srD)) = _
  rw [lends_enc]
theorem Zi3 {L:List (Str × Str × Nat)}:lend (hdD .own L) = hdD .bor L:=by
  show D.n _ .bor (lends (L.map hvE)) = _
  rw [lends_enc]
theorem keys_s {zs:List Str} (h:zs.Nodup):(zs.map (Sum.inr:Str → Key)).Nodup:=List.pairwise_map.mpr (h.imp fun ne e=>ne (Sum.inr.inj e))
theorem Zf0 {zs:List Str} {z:Str} (h:z ∉ zs):(Sum.inr z:Key) ∉ zs.map (Sum.inr:Str → Key):=fun q=>by
  obtain ⟨y,hy,e⟩:=List.mem_map.mp q
  exact h (by rw [← Sum.inr.inj e]; exact hy)
theorem st_kn {rs:List Sr} {r:Sr} {b R:D} {δ:Sl} {kd:DE} (hk:kd (some (seO .own (knD .own rs) b) :: δ) = .ok (.v (.str r.nm)) (some (seO .own (knD .own rs) b) :: δ)) (hf:frz R = srD r) (hn:(rs.map Sr.nm).Nodup) (hl:rs.length < 100000) (hb:ownP [] b = true ∧ b.free = true) (hz:r.nm ∉ rs.map Sr.nm) :
    storeK (plF 36 "known" (plV 0)) kd true R (some (seO .own (knD .own rs) b) :: δ) = .ok .nx (some (seO .own (knD .own (rs ++ [r])) b) :: δ):=by
  have hset:mSet (knD .own rs) [.v (.str r.nm),srD r] = some (knD .own (rs ++ [r]),.non):=by
    simp only [knD,mSet,keyD,Option.bind_some]
    rw [if_pos ⟨keys_s hn,by simpa using hl⟩,ZdZ (Zf0 hz),ZdY (Zf0 hz) (by simp)]
    simp
  rw [Zgh (c:=knD .own rs) (c':=knD .own (rs ++ [r])) (x:=.non) (π:=[0]) (d:=seO .own (knD .own rs) b) (i:=0) rfl rfl rfl rfl hk (by rw [if_pos rfl,hf]; exact hset)]
  rfl
theorem st_hd {L:List (Str × Str × Nat)} {p:Str × Str × Nat} {a R:D} {δ:Sl} {kd:DE} (hk:kd (some (seO .own a (hdD .own L)) :: δ) = .ok (.v (.str p.1)) (some (seO .own a (hdD .own L)) :: δ)) (hf:frz R = hvE p) (hn:(L.map Prod.fst).Nodup) (hl:L.length < 100000) (hz:p.1 ∉ L.map Prod.fst) :
    storeK (plF 36 "held" (plV 0)) kd true R (some (seO .own a (hdD .own L)) :: δ) = .ok .nx (some (seO .own a (hdD .own (L ++ [p]))) :: δ):=by
  have hset:mSet (hdD .own L) [.v (.str p.1),hvE p] = some (hdD .own (L ++ [p]),.non):=by
    simp only [hdD,mSet,keyD,Option.bind_some]
    rw [if_pos ⟨keys_s hn,by simpa using hl⟩,ZdZ (Zf0 hz),ZdY (Zf0 hz) (by simp)]
    simp
  rw [Zgh (c:=hdD .own L) (c':=hdD .own (L ++ [p])) (x:=.non) (π:=[1]) (d:=seO .own a (hdD .own L)) (i:=0) rfl rfl rfl rfl hk (by rw [if_pos rfl,hf]; exact hset)]
  rfl
theorem Zk9 {r:Sr}:(pcs r).zipIdx = (List.range r.t.toNat).map fun k=>(pcR r k,k):=by
  unfold pcs
  refine List.ext_getElem (by simp) fun i h1 h2=>?_
  simp
def piB:DS:=(ZcB (plF 36 "held" (plV 0)) (dP (pOp ixD (pVar 6) (pC (.int 0)))) true (dF mkTup (daCons (dP (pOp ixD (pVar 3) (pC (.int 0)))) (daCons (dP (pVar 5)) daNil))))
theorem Zk8 {r:Sr} {L:List (Str × Str × Nat)} {a R:D} {x1 x2 x4 x5 x6:Option D} (hR:ixD R (.v (.int 0)) = some (.v (.str r.nm))) (hn:(L.map Prod.fst).Nodup) (hl:L.length ≤ 1000) (ht:r.t ≤ 30) (hd:∀ z ∈ pns r,z ∉ L.map Prod.fst) :
    sat (loop (tgT [tgN 5,tgN 6]) piB ((pcs r).zipIdx.map (enE rowD)) [some (seO .own a (hdD .own L)),x1,x2,some R,x4,x5,x6]) fun f s=>f = .nx ∧ ∃ z5 z6,s = [some (seO .own a (hdD .own (L ++ hv r))),x1,x2,some R,x4,z5,z6]:=by
  rw [Zk9,List.map_map]
  refine ZbY (I:=fun pre s=>∃ z5 z6,s = [some (seO .own a (hdD .own (L ++ pre.map fun k=>(pN r k,r.nm,k)))),x1,x2,some R,x4,z5,z6]) (fun pre k post s hp hI=>?_) ⟨x5,x6,by simp⟩ (fun s hI=>?_)
  · obtain ⟨z5,z6,rfl⟩:=hI
    have hk:pre.length ≤ 30 ∧ k < 59:=by
      have h1:=congrArg List.length hp
      simp at h1
      have h2:k ∈ List.range r.t.toNat:=by rw [hp]; simp
      have:=List.mem_range.mp h2
      omega
    have htg:=tgT_2 (s:=[some (seO .own a (hdD .own (L ++ pre.map fun k=>(pN r k,r.nm,k)))),x1,x2,some R,x4,z5,z6]) (i:=5) (j:=6) (a:=.v (.int (k:Int))) (b:=rowD (pcR r k)) rfl rfl
    refine ⟨_,htg,?_⟩
    simp only [List.set_cons_succ,List.set_cons_zero]
    have hm:mkTup [D.v (.str r.nm),.v (.int (k:Int))] = some (hvE (pN r k,r.nm,k)):=rfl
    have hpn:(pns r).Nodup:=pns_nd (by omega)
    have hsplit:pns r = pre.map (pN r) ++ pN r k :: post.map (pN r):=by
      unfold pns
      rw [hp]
      simp
    have hk1:pN r k ∉ pre.map (pN r):=fun q=>by
      rw [hsplit,List.nodup_append] at hpn
      exact hpn.2.2 _ q _ List.mem_cons_self rfl
    have hk2:pN r k ∈ pns r:=by rw [hsplit]; simp
    have hmm:∀ ps:List Nat,(ps.map fun k=>(pN r k,r.nm,k)).map Prod.fst = ps.map (pN r):=fun ps=>by simp
    have hnd:((L ++ pre.map fun k=>(pN r k,r.nm,k)).map Prod.fst).Nodup:=by
      rw [List.map_append,hmm,List.nodup_append]
      refine ⟨hn,?_,fun x hx y hy e=>?_⟩
      · rw [hsplit,List.nodup_append] at hpn
        exact hpn.1
      · subst e
        exact hd x (by rw [hsplit]; exact List.mem_append_left _ hy) hx
    have hz:pN r k ∉ (L ++ pre.map fun k=>(pN r k,r.nm,k)).map Prod.fst:=by
      rw [List.map_append,hmm,List.mem_append]
      rintro (q | q)
      · exact hd _ hk2 q
      · exact hk1 q
    have hst:=st_hd (p:=(pN r k,r.nm,k)) (R:=hvE (pN r k,r.nm,k)) (a:=a) (δ:=[x1,x2,some R,x4,some (.v (.int (k:Int))),some (rowD (pcR r k))]) (kd:=dP (pOp ixD (pVar 6) (pC (.int 0)))) (L:=L ++ pre.map fun k=>(pN r k,r.nm,k)) rfl rfl hnd (by simp; omega) hz
    have hb:piB [some (seO .own a (hdD .own (L ++ pre.map fun k=>(pN r k,r.nm,k)))),x1,x2,some R,x4,some (.v (.int (k:Int))),some (rowD (pcR r k))] = .ok .nx [some (seO .own a (hdD .own ((L ++ pre.map fun k=>(pN r k,r.nm,k)) ++ [(pN r k,r.nm,k)]))),x1,x2,some R,x4,some (.v (.int (k:Int))),some (rowD (pcR r k))]:=by
      generalize seO .own a (hdD .own (L ++ pre.map fun k=>(pN r k,r.nm,k))) = S at hst
      simp [piB,hR,hm,hst]
    rw [hb]
    exact ⟨_,_,rfl,some (.v (.int (k:Int))),some (rowD (pcR r k)),by simp⟩
  · obtain ⟨z5,z6,rfl⟩:=hI
    exact ⟨rfl,z5,z6,rfl⟩
theorem Zg8 {rs:List Sr} {r:Sr}:pnA (rs ++ [r]) = pnA rs ++ pns r:=by simp [pnA]
theorem Zlz {rs:List Sr} {r:Sr}:hvA (rs ++ [r]) = hvA rs ++ hv r:=by simp [hvA]
def gos (rs:List Sr) (n:Nat):List Rw → Option (Nat × String)
  | []=>none
  | e :: es=>match fl6 rs e with
    | some y=>some (n,y)
    | none=>gos (rs ++ [srOf e]) (n + 1) es
structure Good6 (rs:List Sr) (e:Rw):Prop where
  ok:SrOk (srOf e)
  nw:(srOf e).nm ∉ rs.map Sr.nm
  is:rwE e = srD (srOf e)
  dj:∀ z ∈ pns (srOf e),z ∉ pnA rs
  ln:(pnA rs).length + (srOf e).t.toNat ≤ 30
theorem ZhU {rs:List Sr} {e:Rw} (h:fl6 rs e = none):Good6 rs e:=by
  unfold fl6 at h
  split at h
  · cases h
  · rename_i q
    obtain ⟨h1,h2,h3⟩:=Zgr q
    unfold meet6 at h
    split at h
    · cases h
    · rename_i c1
      split at h
      · cases h
      · rename_i c2
        refine ⟨h1,h2,h3,fun z hz q=>c1 (List.any_eq_true.mpr ⟨z,hz,by simpa using q⟩),?_⟩
        have:=h1.t0
        omega
theorem Good6.ser {rs:List Sr} {e:Rw} (g:Good6 rs e) (h:SerOk rs):SerOk (rs ++ [srOf e]):=by
  refine ⟨fun r hr=>?_,?_,?_,?_⟩
  · rcases List.mem_append.mp hr with q | q
    · exact h.ok r q
    · rw [List.mem_singleton.mp q]; exact g.ok
  · rw [List.map_append,List.nodup_append]
    exact ⟨h.nd,by simp,fun a ha b hb q=>by
      simp only [List.map_cons,List.map_nil,List.mem_singleton] at hb
      rw [q,hb] at ha
      exact g.nw ha⟩
  · rw [Zg8,List.nodup_append]
    exact ⟨h.pd,pns_nd (by have:=g.ok.t1; omega),fun a ha b hb q=>g.dj b hb (q ▸ ha)⟩
  · rw [Zg8,List.length_append,Zek]
    exact g.ln
def siB:DS:=(dsSeq (dsAsg (dOrN (dCall Zt (daLend (pUn (fldD 36 "known") (pVar 0)) (daLend (pVar 3) daNil))) (dCall Zo (daLend (pUn (fldD 36 "held") (pVar 0)) (daLend (pVar 3) daNil)))) (tgN 4)) (dsSeq (dsIf (dtV (dN (f1 notND) [.k (pVar 4)])) (ZbP 17 2 (daCons (dP (pVar 2)) (daCons (dP (pVar 4)) daNil))) dsNext) (dsSeq (ZcB (plF 36 "known" (plV 0)) (dP (pOp ixD (pVar 3) (pC (.int 0)))) true (dP (pVar 3))) (dsFor (diD (itEn true) (dCall Zh (daLend (pVar 3) daNil))) (tgT [tgN 5,tgN 6]) piB))))
theorem rs_len {rs:List Sr} (h:SerOk rs):rs.length ≤ 30:=by
  have q:∀ rs:List Sr,(∀ r ∈ rs,SrOk r) → rs.length ≤ (pnA rs).length:=by
    intro rs
    induction rs with
    | nil=>intro _; simp
    | cons r rs ih =>
      intro hr
      have:=ih fun r' h'=>hr r' (List.mem_cons_of_mem _ h')
      have h1:=hr r List.mem_cons_self
      have h2:(pnA (r :: rs)).length = r.t.toNat + (pnA rs).length:=by simp [pnA,Zek]
      have:=h1.t0
      rw [h2,List.length_cons]
      omega
  have:=q rs h.ok
  have:=h.len
  omega
theorem fld_kn {a b:D}:fldD 36 "known" (seO .own a b) = some a:=rfl
theorem fld_hd {a b:D}:fldD 36 "held" (seO .own a b) = some b:=rfl
theorem ZkK {rs:List Sr} {e:Rw} {R:D} {n:Nat} {x4 x5 x6:Option D} (hs:SerOk rs) (he:RwK e) :
    sat (siB [some (serD .own rs),some R,some (.v (.int (n:Int))),some (rwE e),x4,x5,x6]) (fun f s=>fl6 rs e = none ∧ f = .nx ∧ ∃ z4 z5 z6,s = [some (serD .own (rs ++ [srOf e])),some R,some (.v (.int (n:Int))),some (rwE e),z4,z5,z6]) ∨
    ∃ y s',fl6 rs e = some y ∧ siB [some (serD .own rs),some R,some (.v (.int (n:Int))),some (rwE e),x4,x5,x6] = .exc 17 [.v (.int (n:Int)),wordD y] s':=by
  have e1:∀ s,callK Zt [knD .bor rs,rwE e] s = .ok (whyD (own6 (rs.map Sr.nm) e)) s:=fun s=>own_at he (by simp)
  rw [show serD .own rs = seO .own (knD .own rs) (hdD .own (hvA rs)) from rfl]
  have l1:lend (knD .own rs) = knD .bor rs:=Zi2
  have l2:lend (hdD .own (hvA rs)) = hdD .bor (hvA rs):=Zi3
  have lr:lend (rwE e) = rwE e:=Zbh (Ke.kept e)
  have kr:(rwE e).kept = true:=Ke.kept e
  have f1:=fld_kn (a:=knD .own rs) (b:=hdD .own (hvA rs))
  have f2:=fld_hd (a:=knD .own rs) (b:=hdD .own (hvA rs))
  cases ho:own6 (rs.map Sr.nm) e with
  | some y =>
    refine .inr ⟨y,?_⟩
    rw [ho] at e1
    have hy:fl6 rs e = some y:=by unfold fl6; rw [ho]
    have hw:=Zj4 ho
    generalize seO .own (knD .own rs) (hdD .own (hvA rs)) = S at f1 f2
    generalize knD .own rs = A at f1 l1
    generalize knD .bor rs = A' at e1 l1
    generalize rwE e = E at e1 lr
    have hwd:whyD (some y) = wordD y:=rfl
    have hnn:notND (wordD y) = some (.v (.bl true)):=rfl
    refine ⟨[some S,some R,some (.v (.int (n:Int))),some E,some (wordD y),x5,x6],hy,?_⟩
    simp [siB,dOrN_c,f1,l1,lr,e1,hwd,orNK_w hw,hnn,show Option.filter D.kept (some (wordD y)) = some (wordD y) from rfl]
  | none =>
    obtain ⟨h1,h2,h3⟩:=Zgr ho
    rw [ho] at e1
    rw [h3] at e1 lr kr
    have e2:∀ s,callK Zo [hdD .bor (hvA rs),srD (srOf e)] s = .ok (whyD (meet6 (pnA rs) (srOf e))) s:=fun s=>by
      show callK Zo [.n (.dct (((hvA rs).map Prod.fst).map Sum.inr)) .bor ((hvA rs).map hvE),srD (srOf e)] s = _
      rw [Zch]
      exact meet_c h1 (by rw [← Zch]; simp)
    rw [h3]
    have hw0:whyD none = .v .non:=rfl
    cases hm:meet6 (pnA rs) (srOf e) with
    | some y =>
      refine .inr ⟨y,?_⟩
      rw [hm] at e2
      have hy:fl6 rs e = some y:=by unfold fl6; rw [ho]; exact hm
      have hw:=ZiY hm
      have hwd:whyD (some y) = wordD y:=rfl
      have hnn:notND (wordD y) = some (.v (.bl true)):=rfl
      generalize seO .own (knD .own rs) (hdD .own (hvA rs)) = S at f1 f2
      generalize knD .own rs = A at f1 l1
      generalize knD .bor rs = A' at e1 l1
      generalize hdD .own (hvA rs) = B at f2 l2
      generalize hdD .bor (hvA rs) = B' at e2 l2
      generalize srD (srOf e) = E at e1 e2 lr
      refine ⟨[some S,some R,some (.v (.int (n:Int))),some E,some (wordD y),x5,x6],hy,?_⟩
      simp [siB,dOrN_c,f1,l1,lr,e1,hw0,orNK_n,f2,l2,e2,hwd,orNK_w hw,hnn,show Option.filter D.kept (some (wordD y)) = some (wordD y) from rfl]
    | none =>
      refine .inl ?_
      have hf:fl6 rs e = none:=by unfold fl6; rw [ho]; exact hm
      have g:=ZhU hf
      rw [hm] at e2
      have hp:=fun s=>ZcW (r:=srOf e) (s:=s) (by have:=h1.t1; omega) (by have:=h1.t0; omega) (by have:=h1.n6; omega)
      have i0:ixD (srD (srOf e)) (.v (.int 0)) = some (.v (.str (srOf e).nm)):=rfl
      have hfr:frz (srD (srOf e)) = srD (srOf e):=Zbs kr
      have hfk:Option.filter D.kept (some (srD (srOf e))) = some (srD (srOf e)):=by simp [Option.filter,kr]
      have hen:itEn true (Lst rowD .own (pcs (srOf e))) = some ((pcs (srOf e)).zipIdx.map (enE rowD)):=it_En (.inl rfl)
      have hnd2:((hvA rs).map Prod.fst).Nodup:=by rw [Zch]; exact hs.pd
      have hl2:(hvA rs).length ≤ 1000:=by
        have:((hvA rs).map Prod.fst).length = (pnA rs).length:=by rw [Zch]
        rw [List.length_map] at this
        have:=hs.len
        omega
      have hst:=st_kn (rs:=rs) (r:=srOf e) (b:=hdD .own (hvA rs)) (R:=srD (srOf e)) (δ:=[some R,some (.v (.int (n:Int))),some (srD (srOf e)),some (.v .non),x5,x6]) (kd:=dP (pOp ixD (pVar 3) (pC (.int 0)))) rfl hfr hs.nd (by have:=rs_len hs; omega) ⟨rfl,rfl⟩ g.nw
      have hlp:=Zk8 (r:=srOf e) (L:=hvA rs) (a:=knD .own (rs ++ [srOf e])) (R:=srD (srOf e)) (x1:=some R) (x2:=some (.v (.int (n:Int)))) (x4:=some (.v .non)) (x5:=x5) (x6:=x6) i0 hnd2 hl2 (by have:=h1.t1; omega) (fun z hz=>by rw [Zch]; exact g.dj z hz)
      rw [← Zlz] at hlp
      have hns:serD .own (rs ++ [srOf e]) = seO .own (knD .own (rs ++ [srOf e])) (hdD .own (hvA (rs ++ [srOf e]))):=rfl
      rw [hns]
      generalize seO .own (knD .own (rs ++ [srOf e])) (hdD .own (hvA (rs ++ [srOf e]))) = S2 at hlp
      generalize seO .own (knD .own (rs ++ [srOf e])) (hdD .own (hvA rs)) = S1 at hst hlp
      generalize seO .own (knD .own rs) (hdD .own (hvA rs)) = S at f1 f2 hst
      generalize knD .own rs = A at f1 l1
      generalize knD .bor rs = A' at e1 l1
      generalize hdD .own (hvA rs) = B at f2 l2
      generalize hdD .bor (hvA rs) = B' at e2 l2
      generalize srD (srOf e) = E at e1 e2 lr kr hp i0 hfr hfk hst hlp
      have hn0:notND (.v .non) = some (.v (.bl false)):=rfl
      simp [siB,dOrN_c,f1,l1,lr,e1,hw0,orNK_n,f2,l2,e2,hn0,hfk,hst,diD,hp,hen]
      refine Zg hlp ?_
      rintro f s ⟨rfl,z5,z6,rfl⟩
      exact ⟨hf,rfl,_,z5,z6,rfl⟩
theorem ZiB {R:D}:∀ (es:List Rw) (rs:List Sr) (n:Nat) (y2 y3 y4 y5 y6:Option D),SerOk rs → (∀ e ∈ es,RwK e) →
    (∀ i y,gos rs n es = some (i,y) → ∃ s',loop (tgT [tgN 2,tgN 3]) siB (pairsE n (es.map rwE)) [some (serD .own rs),some R,y2,y3,y4,y5,y6] = .exc 17 [.v (.int (i:Int)),wordD y] s') ∧
    (gos rs n es = none → SerOk (rs ++ es.map srOf) ∧ ∃ z2 z3 z4 z5 z6,loop (tgT [tgN 2,tgN 3]) siB (pairsE n (es.map rwE)) [some (serD .own rs),some R,y2,y3,y4,y5,y6] = .ok .nx [some (serD .own (rs ++ es.map srOf)),some R,z2,z3,z4,z5,z6])
  | [],rs,n,y2,y3,y4,y5,y6,hr,_=>⟨fun i y h=>by simp [gos] at h,fun _=>⟨by simpa using hr,y2,y3,y4,y5,y6,by simp [pairsE,loop]⟩⟩
  | e :: es,rs,n,y2,y3,y4,y5,y6,hr,he=>by
    have hx:=he e List.mem_cons_self
    have ht:=tgT_2 (s:=[some (serD .own rs),some R,y2,y3,y4,y5,y6]) (i:=2) (j:=3) (a:=.v (.int (n:Int))) (b:=rwE e) rfl (Ke.kept e)
    rw [List.map_cons,ZeV,Zd4 ht]
    simp only [List.set_cons_succ,List.set_cons_zero,gos]
    rcases ZkK (R:=R) (n:=n) (x4:=y4) (x5:=y5) (x6:=y6) hr hx with ⟨f,s1,e1,hf,rfl,z4,z5,z6,rfl⟩ | ⟨y,s',hf,e1⟩
    · rw [e1,hf]
      simp only [Z0,Zf2]
      have ih:=ZiB (R:=R) es (rs ++ [srOf e]) (n + 1) (some (.v (.int (n:Int)))) (some (rwE e)) z4 z5 z6 ((ZhU hf).ser hr) fun e' he'=>he e' (List.mem_cons_of_mem _ he')
      simp only [List.append_assoc,List.singleton_append] at ih ⊢
      simpa using ih
    · rw [e1,hf]
      refine ⟨fun i y' h=>?_,fun h=>by simp at h⟩
      simp only [Option.some.injEq,Prod.mk.injEq] at h
      obtain ⟨rfl,rfl⟩:=h
      exact ⟨_,rfl⟩
def rowsS (es:List Rw):Option (D × String):=if 30 < es.length then some (.v (.int 30),"many") else (gos [] 0 es).map fun p=>(.v (.int (p.1:Int)),p.2)
def thS:Th → Option (D × String)
  | .l es=>rowsS es
  | .t es=>rowsS es
  | .n _=>some (.v .non,"form")
def thR:Th → List Sr
  | .l es=>es.map srOf
  | .t es=>es.map srOf
  | .n _=>[]
theorem new_c {c:Nat} {N:Nat} {ds:DS} {R:D} {s:Sl} {o:D} {x:Sl} (h:ds (some (.n (.obj c []) .own []) :: some R :: List.replicate (N - 2) none) = .ok .nx (some o :: x)) (hf:o.free = true):callK (mkF c (runF N [true,false] ds)) [R] s = .ok o s:=by
  have e:runF N [true,false] ds [.n (.obj c []) .own [],R] = .ok .non [some o,none]:=by
    rw [runF_c rfl]
    show finF [true,false] (ds (some (.n (.obj c []) .own []) :: some R :: List.replicate (N - 2) none)) = _
    rw [h,ZlH]
    cases x <;> simp [ioF]
  refine ZeL (s':=[none]) ?_
  unfold mkF
  rw [e]
  simp [mkOut,hf]
theorem new_x {c k:Nat} {N:Nat} {ds:DS} {R:D} {s s':Sl} {xs:List D} (h:ds (some (.n (.obj c []) .own []) :: some R :: List.replicate (N - 2) none) = .exc k xs s'):callK (mkF c (runF N [true,false] ds)) [R] s = .exc k xs s:=by
  have e:runF N [true,false] ds [.n (.obj c []) .own [],R] = .exc k xs (ioF [true,false] s'):=by
    rw [runF_c rfl]
    show finF [true,false] (ds (some (.n (.obj c []) .own []) :: some R :: List.replicate (N - 2) none)) = _
    rw [h,Zks]
  unfold callK mkF
  rw [e]
  cases s' <;> rfl
end K77
end Lw
set_option maxHeartbeats 1000000
namespace Lw
namespace K77
open PySem PySem.Spec PyProof.Rows L2 Fs
section
variable {s:Sl} {w:Fl} {R:D} {es:List Rw}
theorem ZiD (e1:isiTD ["list","tuple"] R = some (.v (.bl true))) (e2:lenD R = some (.v (.int (es.length:Int)))) (e4:itEn false R = some (pairsE 0 (es.map rwE))) (h:∀ e ∈ es,RwK e) :
    (∀ d y,rowsS es = some (d,y) → callK (mkF 36 Zb) [R] s = .exc 17 [d,wordD y] s) ∧ (rowsS es = none → SerOk (es.map srOf) ∧ callK (mkF 36 Zb) [R] s = .ok (serD .own (es.map srOf)) s):=by
  have fk:∀ a:Option D,fldSK (plV 0) 36 "known" (.n (.dct []) .own []) [some (.n (.obj 36 []) .own []),some R,none,none,none,none,none] = .ok .nx [some (.n (.obj 36 ["known"]) .own [.n (.dct []) .own []]),some R,none,none,none,none,none]:=fun _=>rfl
  have fh:fldSK (plV 0) 36 "held" (.n (.dct []) .own []) [some (.n (.obj 36 ["known"]) .own [.n (.dct []) .own []]),some R,none,none,none,none,none] = .ok .nx [some (serD .own []),some R,none,none,none,none,none]:=rfl
  have fk:=fk none
  unfold rowsS
  by_cases hl:30 < es.length
  · have hl':(30:Int) < es.length:=by omega
    rw [if_pos hl]
    refine ⟨fun d y q=>?_,fun q=>by cases q⟩
    cases q
    exact new_x (N:=7) (s':=_) (by simp [Zu,e1,e2,hl',wordD]; rfl)
  · have hl':¬ (30:Int) < es.length:=by omega
    rw [if_neg hl]
    have ih:=ZiB (R:=R) es [] 0 none none none none none ⟨by simp,by simp,by simp [pnA],by simp [pnA]⟩ h
    simp only [List.nil_append] at ih
    have hd:Zu [some (.n (.obj 36 []) .own []),some R,none,none,none,none,none] = loop (tgT [tgN 2,tgN 3]) siB (pairsE 0 (es.map rwE)) [some (serD .own []),some R,none,none,none,none,none]:=by
      simp [Zu,e1,e2,hl',dDict0,fk]
      rw [show (fldSK (plV 0) 36 "held" (.n (.dct []) .own []) [some (.n (.obj 36 ["known"]) .own [.n (.dct []) .own []]),some R,none,none,none,none,none]) = _ from fh]
      simp [e4,diP]
      rfl
    constructor
    · intro d y q
      obtain ⟨⟨i,y'⟩,q1,q2⟩:=Option.map_eq_some_iff.mp q
      cases q2
      obtain ⟨s',e⟩:=ih.1 i y' q1
      exact new_x (N:=7) (s':=s') (hd.trans e)
    · intro q
      obtain ⟨hr,z2,z3,z4,z5,z6,e⟩:=ih.2 (by simpa using q)
      exact ⟨hr,new_c (N:=7) (hd.trans e) rfl⟩
theorem ser_th {t:Th} (h:ThK t) (hw:w ≠ .own):(∀ d y,thS t = some (d,y) → callK (mkF 36 Zb) [thE w t] s = .exc 17 [d,wordD y] s) ∧ (thS t = none → SerOk (thR t) ∧ callK (mkF 36 Zb) [thE w t] s = .ok (serD .own (thR t)) s):=by
  cases t with
  | l es=>exact ZiD (R:=Lst rwE w es) (es:=es) rfl (by simp) (by simp only [Lst,itEn]; rw [if_pos ⟨Zbm es,.inr hw⟩]) (h.hl es rfl)
  | t es=>exact ZiD (R:=Tpl rwE es) (es:=es) rfl (by simp) itEn_T (h.ht es rfl)
  | n d =>
    refine ⟨fun d' y q=>?_,fun q=>by cases q⟩
    cases q
    exact new_x (N:=7) (s':=_) (by simp [Zu,thE,h.hn d rfl,wordD]; rfl)
end
end K77
end Lw
namespace Lw
open PySem PySem.Spec PyProof.Rows L2 Fs
def L_law_series_row_6:DS:=(dsRet (dFr (dF mkTup (daCons (dP (pVar 1)) (daCons (dP (pVar 5)) (daCons (dP (pVar 4)) (daCons (dNI (f2 addA) [.v (dP (pC (.int 1))),.v (Ze Za [.o 0,.v (dNI (f2 ixK) [.v (dF mkLst (daCons (dP (pC (.int 3))) (daCons (dP (pC (.int 12))) daNil))),.v (Ze Za [.o 0,.v (dP (pC (.int 2)))])])])]) (daCons (dP (pVar 2)) (daCons (dP (pVar 3)) daNil)))))))))
@[simp] theorem Zdw {s:Sl}:type_of% (congrFun L_law_series_row_6.eq_1 s):=congrFun L_law_series_row_6.eq_1 s
def Zcr:DS:=(dsSeq (dsAsg (Ze Za [.o 0,.v (dN (f2 subD) [.v (dN (f2 subD) [.k (pC (.int 201)),.k (pVar 4)]),.v (dN (f2 mulA) [.v (dN (f2 subD) [.k (pVar 3),.k (pC (.int 1))]),.k (pVar 2)])])]) (tgN 5)) L_law_series_row_6)
@[simp] theorem ZgP {s:Sl}:type_of% (show Zcr s = _ from Fs.sq_c):=Fs.sq_c
def Zcs:DS:=(dsSeq (dsAsg (dN (f2 minD) [.k (pVar 2),.v (dN (f2 divD) [.k (pC (.int 199)),.k (pVar 3)])]) (tgN 2)) Zcr)
@[simp] theorem Zdx {s:Sl}:type_of% (show Zcs s = _ from Fs.sq_c):=Fs.sq_c
def Zct:DS:=(dsSeq (dsAsg (dN (f2 minD) [.k (pVar 4),.v (dN (f2 subD) [.k (pC (.int 200)),.v (dN (f2 mulA) [.v (dN (f2 subD) [.k (pVar 3),.k (pC (.int 1))]),.v (dN (f2 minD) [.k (pVar 2),.v (dN (f2 divD) [.k (pC (.int 199)),.k (pVar 3)])])])])]) (tgN 4)) Zcs)
@[simp] theorem ZY {s:Sl}:type_of% (show Zct s = _ from Fs.sq_c):=Fs.sq_c
def Zcu:DS:=(dsSeq (dsAsg (dNI (f2 addA) [.v (dP (pC (.int 1))),.v (dNI (f2 ixK) [.v (dF mkLst (daCons (Ze Za [.o 0,.v (dP (pC (.int 6)))]) (daCons (Ze Za [.o 0,.v (dP (pC (.int 30)))]) (daCons (Ze Za [.o 0,.v (dP (pC (.int 200)))]) daNil)))),.v (Ze Za [.o 0,.v (dP (pC (.int 3)))])])]) (tgN 4)) Zct)
@[simp] theorem ZZ {s:Sl}:type_of% (show Zcu s = _ from Fs.sq_c):=Fs.sq_c
def Zcv:DS:=(dsSeq (dsAsg (dNI (f2 addA) [.v (dP (pC (.int 1))),.v (dNI (f2 ixK) [.v (dF mkLst (daCons (Ze Za [.o 0,.v (dP (pC (.int 3)))]) (daCons (Ze Za [.o 0,.v (dP (pC (.int 6)))]) (daCons (Ze Za [.o 0,.v (dP (pC (.int 12)))]) (daCons (Ze Za [.o 0,.v (dP (pC (.int 30)))]) daNil))))),.v (Ze Za [.o 0,.v (dP (pC (.int 4)))])])]) (tgN 3)) Zcu)
@[simp] theorem Zbg {s:Sl}:type_of% (show Zcv s = _ from Fs.sq_c):=Fs.sq_c
def Zcw:DS:=(dsSeq (dsAsg (dNI (f2 addA) [.v (dP (pC (.int 1))),.v (dNI (f2 ixK) [.v (dF mkLst (daCons (Ze Za [.o 0,.v (dP (pC (.int 5)))]) (daCons (Ze Za [.o 0,.v (dP (pC (.int 40)))]) (daCons (Ze Za [.o 0,.v (dP (pC (.int 200)))]) daNil)))),.v (Ze Za [.o 0,.v (dP (pC (.int 3)))])])]) (tgN 2)) Zcv)
@[simp] theorem ZgQ {s:Sl}:type_of% (show Zcw s = _ from Fs.sq_c):=Fs.sq_c
theorem Zde:Zbt = Zcw:=of_eq_true (eq_self _)
end Lw
set_option maxHeartbeats 1000000
namespace Lw
namespace K77
open PySem PySem.Spec PyProof.Rows L2 Fs
section
variable {s:Sl} {w:Fl} {kn hd:List Str} {z:Str} {r:Sr} {rs:List Sr} {a a0 a1 a2 a3 a4 a5:At} {x0 x1 x2 x3 x4 x5 x6 x7 x8 x9 x10 x11 x12 x13:Option D} {R:D}
theorem sr_ix {r:Sr}:ixD (srD r) (.v (.int 0)) = some (.v (.str r.nm)) ∧ ixD (srD r) (.v (.int 1)) = some (.v (.int r.a)) ∧ ixD (srD r) (.v (.int 2)) = some (.v (.int r.w)) ∧ ixD (srD r) (.v (.int 4)) = some (.v (.int r.e)) ∧ ixD (srD r) (.v (.int 5)) = some (.v (.int r.t)):=⟨rfl,rfl,rfl,rfl,rfl⟩
end
end K77
end Lw
set_option maxHeartbeats 1000000
namespace Lw
namespace K77
open PySem PySem.Spec PyProof.Rows L2 Fs
end K77
end Lw
set_option maxHeartbeats 1000000
namespace Lw
namespace K77
open PySem PySem.Spec PyProof.Rows L2 Fs
end K77
end Lw
set_option maxHeartbeats 1000000
namespace Lw
namespace K77
open PySem PySem.Spec PyProof.Rows L2 Fs
def sufs:List Str:=["","","1","2","12","0"]
def WordP (y:D) (ios:Sl):Prop:=∃ z d',y = .v (.str z) ∧ nameB z.cps.toList = true ∧ z.length ≤ 6 ∧ ios = [some d'] ∧ IsBox d'
theorem suf_ok:∀ z ∈ sufs,decide (z.length ≤ 2 ∧ ∀ c ∈ z.cps.toList,c ∈ LF) = true:=by decide +kernel
theorem lt_lf:∀ c ∈ LT,c ∈ LF:=by decide +kernel
end K77
end Lw
set_option maxHeartbeats 1000000
namespace Lw
namespace K77
open PySem PySem.Spec PyProof.Rows L2 Fs
structure SrNum (r:Sr):Prop where
  a0:0 ≤ r.a
  a1:r.a ≤ 199
  w0:1 ≤ r.w
  w1:r.w ≤ 200
  l0:1 ≤ r.l
  l1:r.l ≤ 12
  e0:1 ≤ r.e
  e1:r.e ≤ 200
  t0:1 ≤ r.t
  t1:r.t ≤ 30
  la:r.a + (r.t - 1) * r.e + r.w ≤ 200
def SrowP (z:Str) (y:D) (ios:Sl):Prop:=∃ r d',y = srD r ∧ r.nm = z ∧ SrNum r ∧ ios = [some d',none] ∧ IsBox d'
theorem div_t {t:Int} (h0:1 ≤ t) (h1:t ≤ 30):6 ≤ 199 / t ∧ 199 / t ≤ 199 ∧ (t - 1) * (199 / t) ≤ 193:=by
  obtain ⟨n,rfl⟩:=Int.eq_ofNat_of_zero_le (show 0 ≤ t by omega)
  have q:∀ n:Nat,n < 31 → 1 ≤ n → decide (6 ≤ 199 / (n:Int) ∧ 199 / (n:Int) ≤ 199 ∧ ((n:Int) - 1) * (199 / (n:Int)) ≤ 193) = true:=by decide +kernel
  exact of_decide_eq_true (q n (by omega) (by omega))
theorem ZkF {d:D} {z:Str} (hd:IsBox d):sat (ZW [d,.v (.str z)]) (SrowP z):=by
  refine sat_F' rfl ?_
  show sat (Zbt [some d,some (.v (.str z)),none,none,none,none]) _
  rw [Zde]
  simp [hd.free,-Zbg]
  refine Zg (ZN hd (by decide) (by decide)) ?_
  rintro _ _ ⟨u1,d1,rfl,rfl,p1,p2,b1⟩
  simp [b1.free,-Zbg]
  refine Zg (ZN b1 (by decide) (by decide)) ?_
  rintro _ _ ⟨u2,d2,rfl,rfl,p3,p4,b2⟩
  simp [b2.free,-Zbg]
  refine Zg (ZN b2 (by decide) (by decide)) ?_
  rintro _ _ ⟨u3,d3,rfl,rfl,p5,p6,b3⟩
  simp [b3.free,-Zbg]
  refine Zg (ZN b3 (by decide) (by decide)) ?_
  rintro _ _ ⟨u4,d4,rfl,rfl,p7,p8,b4⟩
  obtain ⟨e,he,_,ie,_⟩:=Zep (enc:=D.int) (w:=.own) (xs:=[u1,u2,u3]) (i:=u4) p7 (by simpa using p8)
  have he1:0 ≤ e ∧ e ≤ 199:=by simp at he; omega
  simp [b4.free,ie,-ZZ]
  refine Zg (ZN b4 (by decide) (by decide)) ?_
  rintro _ _ ⟨v1,d5,rfl,rfl,q1,q2,b5⟩
  simp [b5.free,-ZZ]
  refine Zg (ZN b5 (by decide) (by decide)) ?_
  rintro _ _ ⟨v2,d6,rfl,rfl,q3,q4,b6⟩
  simp [b6.free,-ZZ]
  refine Zg (ZN b6 (by decide) (by decide)) ?_
  rintro _ _ ⟨v3,d7,rfl,rfl,q5,q6,b7⟩
  simp [b7.free,-ZZ]
  refine Zg (ZN b7 (by decide) (by decide)) ?_
  rintro _ _ ⟨v4,d8,rfl,rfl,q7,q8,b8⟩
  simp [b8.free,-ZZ]
  refine Zg (ZN b8 (by decide) (by decide)) ?_
  rintro _ _ ⟨v5,d9,rfl,rfl,q9,q10,b9⟩
  obtain ⟨t,ht,_,it,_⟩:=Zep (enc:=D.int) (w:=.own) (xs:=[v1,v2,v3,v4]) (i:=v5) q9 (by simpa using q10)
  have ht1:0 ≤ t ∧ t ≤ 29:=by simp at ht; omega
  simp [b9.free,it,-ZY]
  refine Zg (ZN b9 (by decide) (by decide)) ?_
  rintro _ _ ⟨w1,d10,rfl,rfl,r1,r2,b10⟩
  simp [b10.free,-ZY]
  refine Zg (ZN b10 (by decide) (by decide)) ?_
  rintro _ _ ⟨w2,d11,rfl,rfl,r3,r4,b11⟩
  simp [b11.free,-ZY]
  refine Zg (ZN b11 (by decide) (by decide)) ?_
  rintro _ _ ⟨w3,d12,rfl,rfl,r5,r6,b12⟩
  simp [b12.free,-ZY]
  refine Zg (ZN b12 (by decide) (by decide)) ?_
  rintro _ _ ⟨w4,d13,rfl,rfl,r7,r8,b13⟩
  obtain ⟨w,hw,_,iw,_⟩:=Zep (enc:=D.int) (w:=.own) (xs:=[w1,w2,w3]) (i:=w4) r7 (by simpa using r8)
  have hw1:0 ≤ w ∧ w ≤ 199:=by simp at hw; omega
  simp [b13.free,iw,-ZY]
  have dv:cDiv 199 (1 + t) = true:=cDiv_p (by omega) (by omega)
  obtain ⟨g1,g2,g3⟩:=div_t (t:=1 + t) (by omega) (by omega)
  obtain ⟨E,hE⟩:∃ E,E = min (1 + e) (199 / (1 + t)):=⟨_,rfl⟩
  have hE1:1 ≤ E ∧ E ≤ 200:=by omega
  have hE2:(1 + t - 1) * E ≤ 193:=Int.le_trans (Int.mul_le_mul_of_nonneg_left (by omega) (by omega)) g3
  have hE0:0 ≤ (1 + t - 1) * E:=Int.mul_nonneg (by omega) (by omega)
  have cm:cMul (1 + t - 1) E = true:=cMul_l (by omega)
  have hEs:(if 199 / (1 + t) < 1 + e then 199 / (1 + t) else 1 + e) = E:=by rw [hE]; omega
  simp [dv,← hE,cm,-Zdx]
  obtain ⟨W,hW⟩:∃ W,W = min (1 + w) (200 - (1 + t - 1) * E):=⟨_,rfl⟩
  have hW1:1 ≤ W ∧ W ≤ 200:=by omega
  have hW2:W + (1 + t - 1) * E ≤ 200:=by omega
  simp [← hW,dv,← hE,cm,b13.free,-Zdw]
  refine Zg (ZN b13 (by omega) (by omega)) ?_
  rintro _ _ ⟨f,d14,rfl,rfl,f0,f1,b14⟩
  simp [b14.free]
  refine Zg (ZN b14 (by decide) (by decide)) ?_
  rintro _ _ ⟨c1,d15,rfl,rfl,c2,c3,b15⟩
  obtain ⟨l,hl,_,il,_⟩:=Zep (enc:=D.int) (w:=.own) (xs:=[3,12]) (i:=c1) c2 (by simpa using c3)
  have hl1:l = 3 ∨ l = 12:=by simpa using hl
  simp [b15.free,il]
  refine Zg (ZN b15 (by omega) (by omega)) ?_
  rintro _ _ ⟨L,d16,rfl,rfl,l0,l1,b16⟩
  have m6:mkTup [D.v (.str z),.v (.int f),.v (.int W),.v (.int (1 + L)),.v (.int E),.v (.int (1 + t))] = some (srD ⟨z,f,W,1 + L,E,1 + t⟩):=rfl
  simp [b16.free,m6,FlowP,ioF]
  exact ⟨⟨z,f,W,1 + L,E,1 + t⟩,d16,rfl,rfl,⟨by show 0 ≤ f; omega,by show f ≤ 199; omega,hW1.1,hW1.2,by show 1 ≤ 1 + L; omega,by show 1 + L ≤ 12; omega,hE1.1,hE1.2,by show 1 ≤ 1 + t; omega,by show 1 + t ≤ 30; omega,by show f + (1 + t - 1) * E + W ≤ 200; omega⟩,rfl,b16⟩
end K77
end Lw
set_option maxHeartbeats 1000000
namespace Lw
namespace K77
open PySem PySem.Spec PyProof.Rows L2 Fs
section
variable {s:Sl}
theorem Zlk {xs:List Str} {z:Str}:z ∈ Rm.met xs ↔ z ∈ xs:=by
  have q:∀ r:List Str,z ∈ Rm.met r.reverse ↔ z ∈ r:=by
    intro r
    induction r with
    | nil=>exact ⟨fun h=>(by cases h),fun h=>(by cases h)⟩
    | cons k r ih =>
      rw [List.reverse_cons,Rm.met_snoc,Rm.mem_met1,ih,List.mem_cons]
      exact ⟨fun h=>h.elim .inr .inl,fun h=>h.elim .inr .inl⟩
  have:=q xs.reverse
  rwa [List.reverse_reverse,List.mem_reverse] at this
theorem met_nd:∀ {xs:List Str},(Rm.met xs).length = xs.length → xs.Nodup:=by
  have q:∀ r:List Str,(Rm.met r.reverse).length = r.length → r.Nodup:=by
    intro r
    induction r with
    | nil=>intro _; simp
    | cons k r ih =>
      intro h
      rw [List.reverse_cons,Rm.met_snoc,Rm.met1_len] at h
      have hle:=Rm.met_le r.reverse
      rw [List.length_reverse] at hle
      simp only [List.length_cons] at h
      split at h
      · omega
      · rename_i hk
        rw [Zlk,List.mem_reverse] at hk
        exact List.nodup_cons.mpr ⟨hk,ih (by omega)⟩
  intro xs h
  have:=q xs.reverse (by rw [List.reverse_reverse,List.length_reverse]; exact h)
  exact (List.pairwise_reverse.mp this).imp fun h e=>h e.symm
theorem txts_J:∀ xs:List Str,txts (xs.map D.str) = some xs
  | []=>rfl
  | x :: xs=>by
    have ih:=txts_J xs
    simp [txts,ih]
theorem Zkm {xs:List Str} {w:Fl} (h:xs.length ≤ 4000):Ze3 (Lst D.str w xs) = some (.v (.int ((Rm.met xs).length:Nat))):=by
  have e:(seqL (Lst D.str w xs)).bind txts = some xs:=by
    show txts (xs.map D.str) = some xs
    exact txts_J xs
  unfold Ze3
  rw [e]
  show (if xs.length ≤ 4000 then _ else _) = _
  rw [if_pos h]
def pcA (rs:List Sr):List Row:=rs.flatMap pcs
theorem pcA_nm:∀ {rs:List Sr},(pcA rs).map Row.nm = pnA rs
  | []=>rfl
  | r :: rs=>by
    have ih:=pcA_nm (rs:=rs)
    unfold pcA pnA at ih ⊢
    simp only [List.flatMap_cons,List.map_append,ZiK,ih]
theorem ZdH {rs:List Sr}:(pcA rs).length = (pnA rs).length:=by rw [← pcA_nm,List.length_map]
theorem Ziy {rs:List Sr} (h:∀ r ∈ rs,0 ≤ r.t ∧ r.t ≤ 59 ∧ r.nm.length ≤ 100) (hl:(pcA rs).length < 90000):callK Zd [Lst srD .shr rs] s = .ok (Lst rowD .own (pcA rs)) s:=Zv rfl (by
  have hm:mkLst [] = some (Lst rowD .own []):=rfl
  have hit:itA false (Lst srD .shr rs) = some (rs.map srD):=by
    simp only [Lst,itA]
    rw [if_pos ⟨Zbm rs,.inr (by decide)⟩]
  simp [Zbc,hm,diP,hit]
  refine ZbY (enc:=srD) (I:=fun pre s=>∃ y2 y3 y4 y5 y6 y7 y8,s = [some (Lst srD .shr rs),some (Lst rowD .own (pcA pre)),y2,y3,y4,y5,y6,y7,y8]) (fun pre q post s hp hI=>?_) ⟨_,_,_,_,_,_,_,rfl⟩ (fun s hI=>?_)
  · obtain ⟨y2,y3,y4,y5,y6,y7,y8,rfl⟩:=hI
    obtain ⟨h0,h1,h2⟩:=h q (by rw [hp]; simp)
    have hlen:(pcA pre).length + (pcs q).length < 90000:=by
      have:pcA rs = pcA pre ++ (pcs q ++ pcA post):=by rw [hp]; simp [pcA]
      rw [this] at hl
      simp only [List.length_append] at hl
      omega
    rw [Zha] at hlen
    refine ⟨[some (Lst srD .shr rs),some (Lst rowD .own (pcA pre)),some (.v (.str q.nm)),some (.v (.int q.a)),some (.v (.int q.w)),some (.v (.int q.l)),some (.v (.int q.e)),some (.v (.int q.t)),y8],rfl,?_⟩
    simp [diD,itR_I h0 (by omega:q.t ≤ 100000)]
    refine ZbY (enc:=natE) (I:=fun pr s=>∃ y8,s = [some (Lst srD .shr rs),some (Lst rowD .own (pcA pre ++ pr.map (pcR q))),some (.v (.str q.nm)),some (.v (.int q.a)),some (.v (.int q.w)),some (.v (.int q.l)),some (.v (.int q.e)),some (.v (.int q.t)),y8]) (fun pr k po s hp' hI=>?_) ⟨y8,by simp⟩ (fun s hI=>?_)
    · obtain ⟨y8,rfl⟩:=hI
      have hk:k < 59:=by
        have:k ∈ List.range q.t.toNat:=by rw [hp']; simp
        have:=List.mem_range.mp this
        omega
      have hpl:(pcA pre ++ pr.map (pcR q)).length < 100000:=by
        have:=congrArg List.length hp'
        simp at this ⊢
        omega
      refine ⟨_,rfl,?_⟩
      have hl:=st_len (k:=k) (by omega)
      have m5:mkTup [D.v (.str (q.nm ++ stI k)),.v (.int (q.a + (k:Int) * q.e)),.v (.int (q.a + (k:Int) * q.e + q.w - 1)),.v (.int q.l),.v (.int q.l)] = some (rowD (pcR q k)):=rfl
      have cm:cMul (k:Int) q.e = true:=cMul_l (by omega)
      simp [natE,cm]
      refine Zdv (enc:=rowD) (xs:=pcA pre ++ pr.map (pcR q)) (pcR q k) rfl ?_ hpl ?_
      · simp [st_c (k:=k) (by omega),add_nm (z:=q.nm) (y:=stI k) (by omega),cm,m5]
      · simp
    · obtain ⟨y8,rfl⟩:=hI
      exact ⟨some (.v (.str q.nm)),some (.v (.int q.a)),some (.v (.int q.w)),some (.v (.int q.l)),some (.v (.int q.e)),some (.v (.int q.t)),y8,by simp [pcA,pcs]⟩
  · obtain ⟨y2,y3,y4,y5,y6,y7,y8,rfl⟩:=hI
    simp [dMv,Lst,D.free])
end
def SerP (m:Nat) (y:D) (ios:Sl):Prop:=∃ rs d',y = Lst srD .own rs ∧ SerOk rs ∧ rs.length ≤ m ∧ ios = [some d',none] ∧ IsBox d'
theorem srd_ix {q:Row}:ixD (rowD q) (.v (.int 0)) = some (.v (.str q.nm)):=rfl
end K77
end Lw
set_option maxHeartbeats 1000000
namespace Lw
namespace K77
open PySem PySem.Spec PyProof.Rows L2 Fs
structure GB (c:Nat) (a:At):Prop where
  k:GA a
  s:∃ z,strX (atE a) = some (.v (.str z)) ∧ z.length ≤ c ∧ ∀ x ∈ z.cps.toList,x < 128
theorem GB.mono {c e:Nat} {a:At} (h:GB c a) (hc:c ≤ e):GB e a:=⟨h.k,let ⟨z,h1,h2,h3⟩:=h.s; ⟨z,h1,by omega,h3⟩⟩
def strB (c:Nat) (a:At):Bool:=match strX (atE a) with
  | some (.v (.str z))=>decide (z.length ≤ c) && z.cps.toList.all fun x=>decide (x < 128)
  | _=>false
theorem gb_of {c:Nat} {a:At} (h:GA a) (hb:strB c a = true):GB c a:=by
  refine ⟨h,?_⟩
  unfold strB at hb
  split at hb
  · rename_i z e
    rw [Bool.and_eq_true] at hb
    exact ⟨z,e,of_decide_eq_true hb.1,fun x hx=>of_decide_eq_true (List.all_eq_true.mp hb.2 x hx)⟩
  · cases hb
theorem gb_s {c:Nat} {z:Str} (h:z.length ≤ c) (hc:c ≤ 100) (h2:∀ x ∈ z.cps.toList,x < 128):GB c (.s z):=⟨ga_s (by omega) h2,z,rfl,h,h2⟩
theorem gb_i {c:Nat} {i:Int} (h0:-1 ≤ i) (h1:i ≤ 400) (hc:42 ≤ c):GB c (.i i):=by
  refine (gb_of (c:=42) (ga_i (by omega)) ?_).mono hc
  obtain ⟨n,hn⟩:=Int.eq_ofNat_of_zero_le (show 0 ≤ i + 1 by omega)
  have q:∀ n:Nat,n < 402 → strB 42 (.i ((n:Int) - 1)) = true:=by decide +kernel
  have:=q n (by omega)
  rwa [show (n:Int) - 1 = i by omega] at this
def GRB (n c:Nat) (e:Rw):Prop:=GR n e ∧ ∀ ks,e = .t ks → 6 ≤ ks.length → ∀ a ∈ ks,GB c a
theorem grb_t {n c:Nat} {ks:List At} (h:∀ a ∈ ks,GB c a) (hl:ks.length ≤ n):GRB n c (.t ks):=⟨⟨fun _ q=>by cases q; exact ⟨fun a ha=>(h a ha).k,hl⟩,fun _ q=>by cases q⟩,fun _ q _=>by cases q; exact h⟩
def ThingB (y:D) (ios:Sl):Prop:=∃ a d',y = atE a ∧ a ∈ thA ∧ IsBox d' ∧ ios = [some d']
theorem Zgg {d:D} (hd:IsBox d):sat (Zbd [d]) ThingB:=by
  refine sat_F' rfl ?_
  have h1:Zcg [some d,none] = (dsRet (dNI (f2 ixK) [.l 1,.v (Ze Za [.o 0,.v (dP (pC (.int 40)))])])) [some d,some (Lst atE .own thA)]:=rfl
  show sat (Zcg [some d,none]) _
  rw [h1]
  simp [hd.free]
  refine Zg (ZN hd (by decide) (by decide)) ?_
  rintro _ _ ⟨u,d1,rfl,rfl,u0,u1,b1⟩
  obtain ⟨y,hy,_,e1,_⟩:=Zep (enc:=atE) (w:=.own) (xs:=thA) (i:=u) u0 (by simpa [thA] using u1)
  simp [b1.free,e1,FlowP,ioF]
  exact ⟨y,d1,rfl,hy,b1,rfl⟩
end K77
end Lw
set_option maxHeartbeats 1000000
namespace Lw
namespace K77
open PySem PySem.Spec PyProof.Rows L2 Fs
end K77
end Lw
namespace Lw
open PySem PySem.Spec PyProof.Rows L2 Fs
def L_law_word_5_3:DS:=(dsRet (dNI (f2 addA) [.v (dNI (f2 ixK) [.l 1,.v (Ze Za [.o 0,.v (dP (pC (.int 26)))])]),.v (dNI (f1 (joinD "")) [.v (dComp false [3] (diD itR (Ze Za [.o 0,.v (dP (pC (.int 6)))])) (tgN 3) dtYes (dNI (f2 ixK) [.l 2,.v (Ze Za [.o 0,.v (dP (pC (.int 36)))])]))])]))
@[simp] theorem Zin {s:Sl}:type_of% (congrFun L_law_word_5_3.eq_1 s):=congrFun L_law_word_5_3.eq_1 s
def L_law_word_5_5:DS:=(dsRet (dNI (f2 addA) [.l 4,.v (dNI (f2 ixK) [.v (dF mkLst (daCons (dP (pC (.str ""))) (daCons (dP (pC (.str ""))) (daCons (dP (pC (.str "1"))) (daCons (dP (pC (.str "2"))) (daCons (dP (pC (.str "12"))) (daCons (dP (pC (.str "0"))) daNil))))))),.v (Ze Za [.o 0,.v (dP (pC (.int 6)))])])]))
@[simp] theorem Zim {s:Sl}:type_of% (congrFun L_law_word_5_5.eq_1 s):=congrFun L_law_word_5_5.eq_1 s
def ZdD:DS:=(dsSeq (dsAsg (dNI (f1 (joinD "")) [.v (dComp false [3] (diD itR (dNI (f2 addA) [.v (dP (pC (.int 1))),.v (Ze Za [.o 0,.v (dP (pC (.int 3)))])])) (tgN 3) dtYes (dNI (f2 ixK) [.l 1,.v (Ze Za [.o 0,.v (dP (pC (.int 3)))])]))]) (tgN 4)) L_law_word_5_5)
@[simp] theorem ZeE {s:Sl}:type_of% (show ZdD s = _ from Fs.sq_c):=Fs.sq_c
def ZdE:DS:=(dsSeq (dsIf (dtV (dNI (f2 eqD) [.v (Ze Za [.o 0,.v (dP (pC (.int 4)))]),.v (dP (pC (.int 0)))])) L_law_word_5_3 dsNext) ZdD)
@[simp] theorem Zio {s:Sl}:type_of% (show ZdE s = _ from Fs.sq_c):=Fs.sq_c
def ZdF:DS:=(dsSeq (dsAsg (dN (f2 addA) [.k (pVar 1),.k (pC (.str "0123456789"))]) (tgN 2)) ZdE)
@[simp] theorem Ziq {s:Sl}:type_of% (show ZdF s = _ from Fs.sq_c):=Fs.sq_c
def ZdG:DS:=(dsSeq (dsAsg (dP (pC (.str "abcdefghijklmnopqrstuvwxyz"))) (tgN 1)) ZdF)
@[simp] theorem Zir {s:Sl}:type_of% (show ZdG s = _ from Fs.sq_c):=Fs.sq_c
theorem Zec:Zb5 = ZdG:=of_eq_true (eq_self _)
def L_law_series_2_4:DS:=(dsIf (dtAnd (dtV (dN (f2 notinD) [.k (pOp ixD (pVar 4) (pC (.int 0))),.v (dComp true [7] (diP (itA true) (pVar 2)) (tgN 7) dtYes (dP (pOp ixD (pVar 7) (pC (.int 0)))))])) (dtAnd (dtV (dN (f2 eqD) [.v (dN (f1 Ze3) [.k (pVar 5)]),.v (dN (f1 lenD) [.k (pVar 5)])])) (dtV (dN (f2 ltD) [.v (dN (f1 lenD) [.k (pVar 5)]),.k (pC (.int 31))])))) (dsDrop (dApp 2 (dP (pVar 4)))) dsNext)
@[simp] theorem Zed {s:Sl}:type_of% (congrFun L_law_series_2_4.eq_1 s):=congrFun L_law_series_2_4.eq_1 s
def Zc3:DS:=(dsSeq (dsAsg (dComp true [6] (diD (itA true) (dCall Zd (daCons (dFr (dN (f2 addA) [.k (pVar 2),.v (dF mkLst (daCons (dP (pVar 4)) daNil))])) daNil))) (tgN 6) dtYes (dP (pOp ixD (pVar 6) (pC (.int 0))))) (tgN 5)) L_law_series_2_4)
@[simp] theorem Zcx {s:Sl}:type_of% (show Zc3 s = _ from Fs.sq_c):=Fs.sq_c
def Zc4:DS:=(dsSeq (dsAsg (Ze ZW [.o 0,.v (Ze Zbp [.o 0])]) (tgN 4)) Zc3)
@[simp] theorem Zcy {s:Sl}:type_of% (show Zc4 s = _ from Fs.sq_c):=Fs.sq_c
def L_law_series_2_5:DS:=(dsRet (dMv 2))
@[simp] theorem ZhZ {s:Sl}:type_of% (congrFun L_law_series_2_5.eq_1 s):=congrFun L_law_series_2_5.eq_1 s
def Zc5:DS:=(dsSeq (dsFor (diD itR (Ze Za [.o 0,.v (dN (f2 addA) [.k (pVar 1),.k (pC (.int 1))])])) (tgN 3) Zc4) L_law_series_2_5)
@[simp] theorem Zh0 {s:Sl}:type_of% (show Zc5 s = _ from Fs.sq_c):=Fs.sq_c
def Zc6:DS:=(dsSeq (dsAsg (dF mkLst daNil) (tgN 2)) Zc5)
@[simp] theorem Zh1 {s:Sl}:type_of% (show Zc6 s = _ from Fs.sq_c):=Fs.sq_c
theorem Zdy:ZbH = Zc6:=of_eq_true (eq_self _)
end Lw
set_option maxHeartbeats 1000000
namespace Lw
namespace K78
open PySem PySem.Spec PyProof.Rows L2 Fs K77
abbrev lfs:D:=.v (.str (("abcdefghijklmnopqrstuvwxyz":Str) ++ ("0123456789":Str)))
theorem Zlt {z:Str} {i c:Nat} (h:z.cps.toList[i]? = some c) (hl:z.length ≤ 100000):ixK (.v (.str z)) (.v (.int (i:Int))) = some (sg c):=by
  have hi:i < z.cps.toList.length:=(List.getElem?_eq_some_iff.mp h).1
  have e:ixD (.v (.str z)) (.v (.int (i:Int))) = some (sg c):=by
    simp only [ixD,hl,if_true]
    unfold L2.atI
    have e1:ixN z.cps.toList.length (i:Int) = some i:=by
      unfold ixN
      rw [if_pos (by omega),if_pos (by omega)]
      simp
    rw [e1]
    simp only [Option.bind_some,h]
    rfl
  unfold ixK
  rw [e]
  rfl
theorem ixK_lf {i:Nat} (h:i < 36):∃ c,c ∈ LF ∧ ixK lfs (.v (.int (i:Int))) = some (sg c):=by
  have hl:(("abcdefghijklmnopqrstuvwxyz":Str) ++ ("0123456789":Str)).length ≤ 100000:=by decide +kernel
  have hll:LF.length = 36:=by decide +kernel
  have hi:i < LF.length:=by omega
  exact ⟨LF[i],List.getElem_mem _,Zlt (List.getElem?_eq_getElem hi) hl⟩
theorem Zli {c:Nat} {cs:List Nat} (hc:c ∈ LT) (h:∀ x ∈ cs,x ∈ LF) (hl:cs.length ≤ 5):nameB (ofC (c :: cs)).cps.toList = true ∧ (ofC (c :: cs)).length ≤ 6:=by
  rw [Ze0]
  refine ⟨?_,by rw [Zdj,Ze0]; simp; omega⟩
  simp only [nameB,Bool.and_eq_true,decide_eq_true_eq,List.all_eq_true]
  have hlen:(c :: cs).length ≤ 8:=by simp; omega
  have hall:∀ x ∈ c :: cs,x ∈ LF:=fun x hx=>by
    rcases List.mem_cons.mp hx with rfl | q
    · exact lt_lf _ hc
    · exact h x q
  first | exact ⟨⟨hlen,hc⟩,hall⟩ | exact ⟨hlen,hc,hall⟩ | (refine ⟨?_,?_⟩ <;> simp_all)
theorem ZjG {d:D} (hd:IsBox d):sat (Zbp [d]) WordP:=by
  refine sat_F' rfl ?_
  have hf:=hd.free
  show sat (Zb5 [some d,none,none,none,none]) _
  rw [Zec]
  simp [add_lf,hf,-ZeE]
  refine Zg (ZN hd (by decide) (by decide)) ?_
  rintro _ _ ⟨u,dz,rfl,rfl,hu0,hu1,hbz⟩
  have hfz:=hbz.free
  by_cases hu:u = 0
  · simp [hu,hfz,Zgj,diD]
    refine Zg (ZN hbz (by decide) (by decide)) ?_
    rintro _ _ ⟨i0,d1,rfl,rfl,p0,p1,hb1⟩
    obtain ⟨j0,rfl⟩:∃ j0:Nat,i0 = (j0:Int):=⟨i0.toNat,by omega⟩
    have e0:=ZfF (i:=j0) (by omega)
    simp [hb1.free,e0]
    refine Zg (ZN hb1 (by decide) (by decide)) ?_
    rintro _ _ ⟨r,d2,rfl,rfl,hr0,hr1,hb2⟩
    obtain ⟨r',rfl⟩:∃ r':Nat,r = (r':Int):=⟨r.toNat,by omega⟩
    simp [hb2.free,ZeI (n:=r') (by omega)]
    refine Zg (ZeF (I:=fun its acc s=>∃ cs dd,acc = cs.map sg ∧ (∀ c ∈ cs,c ∈ LF) ∧ cs.length + its.length = r' ∧ IsBox dd ∧ s = [some dd,some ltrs,some lfs,none,none]) ?_ ⟨[],d2,rfl,by simp,by simp,hb2,by simp [wipeD]⟩) ?_
    · rintro it r acc s ⟨cs,dd,rfl,hc,hl,hbd,rfl⟩
      have hfd:=hbd.free
      refine ⟨_,rfl,?_⟩
      simp [hfd,wipeD]
      refine Zg (ZN hbd (by decide) (by decide)) ?_
      rintro _ _ ⟨i,d3,rfl,rfl,hi0,hi1,hb3⟩
      obtain ⟨i',rfl⟩:∃ i':Nat,i = (i':Int):=⟨i.toNat,by omega⟩
      obtain ⟨c,hcm,e4⟩:=ixK_lf (i:=i') (by omega)
      simp [hb3.free,e4]
      refine ⟨by simp at hl; omega,cs ++ [c],by simp,fun c' hc2=>?_,by simp at hl ⊢; omega,hb3⟩
      rcases List.mem_append.mp hc2 with q | q
      · exact hc c' q
      · rw [List.mem_singleton.mp q]; exact hcm
    · rintro acc s ⟨cs,dd,rfl,hc,hl,hbd,rfl⟩
      have hfd:=hbd.free
      simp only [List.length_nil,Nat.add_zero] at hl
      have e1:=ZhP cs (by omega)
      have ea:addA (sg (97 + j0)) (.v (.str (ofC cs))) = some (.v (.str (ofC ([97 + j0] ++ cs)))):=add_str (a:=[97 + j0]) (by simp; omega)
      generalize cs.map sg = G at e1
      simp [e1,hfd,ea,FlowP,ioF]
      obtain ⟨q1,q2⟩:=Zli (c:=97 + j0) (cs:=cs) (mem_LT.mpr (by omega)) hc (by omega)
      exact ⟨_,dd,rfl,q1,q2,rfl,hbd⟩
  simp [hu,hfz,Zgj,diD]
  refine Zg (ZN hbz (by decide) (by decide)) ?_
  rintro _ _ ⟨r,d1,rfl,rfl,hr0,hr1,hb1⟩
  have hf1:=hb1.free
  obtain ⟨r',rfl⟩:∃ r':Nat,r = (r':Int):=⟨r.toNat,by omega⟩
  have e1r:(1:Int) + (r':Int) = ((r' + 1:Nat):Int):=by omega
  simp [hf1,e1r,ZeI (n:=r' + 1) (by omega),-Int.natCast_add,-Int.natCast_succ]
  refine Zg (ZeF (I:=fun its acc s=>∃ cs dd,acc = cs.map sg ∧ (∀ c ∈ cs,c ∈ LT) ∧ cs.length + its.length = r' + 1 ∧ IsBox dd ∧ s = [some dd,some ltrs,some lfs,none,none]) ?_ ⟨[],d1,rfl,by simp,by simp,hb1,by simp [wipeD]⟩) ?_
  · rintro it r acc s ⟨cs,dd,rfl,hc,hl,hbd,rfl⟩
    have hfd:=hbd.free
    refine ⟨_,rfl,?_⟩
    simp [hfd,wipeD]
    refine Zg (ZN hbd (by decide) (by decide)) ?_
    rintro _ _ ⟨i,d2,rfl,rfl,hi0,hi1,hb2⟩
    obtain ⟨i',rfl⟩:∃ i':Nat,i = (i':Int):=⟨i.toNat,by omega⟩
    have e4:=ZfF (i:=i') (by omega)
    simp [hb2.free,e4]
    refine ⟨by simp at hl; omega,cs ++ [97 + i'],by simp,fun c hc2=>?_,by simp at hl ⊢; omega,hb2⟩
    rcases List.mem_append.mp hc2 with q | q
    · exact hc c q
    · rw [List.mem_singleton.mp q]; exact mem_LT.mpr (by omega)
  · rintro acc s ⟨cs,dd,rfl,hc,hl,hbd,rfl⟩
    have hfd:=hbd.free
    simp only [List.length_nil,Nat.add_zero] at hl
    have e1:=ZhP cs (by omega)
    generalize cs.map sg = G at e1
    have m6:mkLst [D.v (.str ""),.v (.str ""),.v (.str "1"),.v (.str "2"),.v (.str "12"),.v (.str "0")] = some (Lst D.str .own sufs):=rfl
    simp [e1,hfd,m6]
    refine Zg (ZN hbd (by omega) (by omega)) ?_
    rintro _ _ ⟨a,d2,rfl,rfl,ha0,ha1,hb2⟩
    obtain ⟨z,hz,_,e5,_⟩:=Zep (enc:=D.str) (w:=.own) (xs:=sufs) (i:=a) ha0 (by simpa [sufs] using ha1)
    obtain ⟨hz1,hz2⟩:=of_decide_eq_true (suf_ok z hz)
    have hol:(ofC cs).length = cs.length:=by rw [Zdj,Ze0]
    have ea:=add_nm (z:=ofC cs) (y:=z) (by omega)
    simp [hb2.free,e5,ea,FlowP,ioF]
    have hq:(ofC cs ++ z).cps.toList = cs ++ z.cps.toList:=by
      show ((ofC cs).cps ++ z.cps).toList = _
      simp [ofC]
    have hzl:z.cps.toList.length = z.length:=(Zdj z).symm
    refine ⟨_,d2,rfl,?_,?_,rfl,hb2⟩
    · rw [hq]
      cases cs with
      | nil=>simp at hl
      | cons c cs =>
        simp only [List.length_cons] at hl
        have hcl:=hc c List.mem_cons_self
        simp only [List.cons_append,nameB,Bool.and_eq_true,decide_eq_true_eq,List.all_eq_true]
        have hlen:(c :: (cs ++ z.cps.toList)).length ≤ 8:=by simp [hzl]; omega
        have hall:∀ x ∈ c :: (cs ++ z.cps.toList),x ∈ LF:=fun x hx=>by
          rcases List.mem_cons.mp hx with rfl | q
          · exact lt_lf _ hcl
          · rcases List.mem_append.mp q with q | q
            · exact lt_lf _ (hc x (List.mem_cons_of_mem _ q))
            · exact hz2 x q
        first | exact ⟨⟨hlen,hcl⟩,hall⟩ | exact ⟨hlen,hcl,hall⟩ | (refine ⟨?_,?_⟩ <;> simp_all)
    · rw [Zdj,hq,List.length_append,hzl]
      omega
theorem Zfu {d:D} {m:Nat} (hd:IsBox d) (hm:m ≤ 10):sat (ZL [d,.v (.int (m:Int))]) (SerP m):=by
  refine sat_F' rfl ?_
  show sat (ZbH [some d,some (.v (.int (m:Int))),none,none,none,none,none,none]) _
  rw [Zdy]
  have hm0:mkLst [] = some (Lst srD .own []):=rfl
  simp [hd.free,hm0,diD,-Zcy]
  refine Zg (ZN hd (by omega) (by omega)) ?_
  rintro _ _ ⟨u,d1,rfl,rfl,u0,u1,b1⟩
  simp [b1.free,itR_I u0 (by omega:u ≤ 100000),-Zcy]
  refine ZbY (enc:=natE) (I:=fun pre s=>∃ rs dd x3 x4 x5,s = [some dd,some (.v (.int (m:Int))),some (Lst srD .own rs),x3,x4,x5,none,none] ∧ SerOk rs ∧ rs.length ≤ pre.length ∧ IsBox dd) (fun pre k post s hp hI=>?_) ⟨[],d1,_,_,_,rfl,⟨by simp,by simp,by simp [pnA],by simp [pnA]⟩,by simp,b1⟩ (fun s hI=>?_)
  · obtain ⟨rs,dd,x3,x4,x5,rfl,hs,hl,hb⟩:=hI
    refine ⟨_,rfl,?_⟩
    simp [hb.free,natE,-Zcx]
    refine Zg (ZjG hb) ?_
    rintro _ _ ⟨z,d2,rfl,hz,hz6,rfl,b2⟩
    simp [b2.free,-Zcx]
    refine Zg (ZkF b2) ?_
    rintro _ _ ⟨r,d3,rfl,hrn,hr,rfl,b3⟩
    have hok:SrOk r:=⟨by rw [hrn]; exact hz,by rw [hrn]; exact hz6,hr.a0,hr.a1,hr.w0,hr.w1,hr.l0,hr.l1,hr.e0,hr.e1,hr.t0,hr.t1,hr.la⟩
    have hrs:=rs_len hs
    have hall:∀ q ∈ rs ++ [r],SrOk q:=fun q hq=>by
      rcases List.mem_append.mp hq with c | c
      · exact hs.ok q c
      · rw [List.mem_singleton.mp c]; exact hok
    have hlen:=hs.len
    have hpl:(pnA (rs ++ [r])).length ≤ 60:=by
      rw [Zg8,List.length_append,Zek]
      have:=hok.t1
      omega
    have hsp:∀ s,callK Zd [Lst srD .shr (rs ++ [r])] s = .ok (Lst rowD .own (pcA (rs ++ [r]))) s:=fun s=>Ziy (fun q hq=>⟨by have:=(hall q hq).t0; omega,by have:=(hall q hq).t1; omega,by have:=(hall q hq).n6; omega⟩) (by rw [ZdH]; omega)
    have m1:mkLst [srD r] = some (Lst srD .own [r]):=rfl
    have ad:addA (Lst srD .own rs) (Lst srD .own [r]) = some (Lst srD .own (rs ++ [r])):=Zhv (by simp; omega)
    have kr:Option.filter D.kept (some (srD r)) = some (srD r):=rfl
    have fz:frz (Lst srD .own (rs ++ [r])) = Lst srD .shr (rs ++ [r]):=by rw [ZlE]; rfl
    obtain ⟨i0,_,_,_,_⟩:=sr_ix (r:=r)
    have hfin:∀ x5':Option D,∃ rs_1 dd_1 x3' x4' x5'',[some d3,some (.v (.int (m:Int))),some (Lst srD .own rs),some (D.v (.int (k:Int))),some (srD r),x5',none,none] = [some dd_1,some (.v (.int (m:Int))),some (Lst srD .own rs_1),x3',x4',x5'',none,none] ∧ SerOk rs_1 ∧ rs_1.length ≤ pre.length + 1 ∧ IsBox dd_1:=fun x5'=>⟨rs,d3,_,_,_,rfl,hs,by omega,b3⟩
    have happ:(∀ a b c:D,True):=fun _ _ _=>trivial
    have key:r.nm ∉ rs.map Sr.nm → (Rm.met (pnA (rs ++ [r]))).length = (pnA (rs ++ [r])).length → (pnA (rs ++ [r])).length < 31 → SerOk (rs ++ [r]):=fun h1 h2 h3=>⟨hall,by
      rw [List.map_append,List.nodup_append]
      exact ⟨hs.nd,by simp,fun a ha b hb q=>by
        simp only [List.map_cons,List.map_nil,List.mem_singleton] at hb
        rw [q,hb] at ha
        exact h1 ha⟩,met_nd h2,by omega⟩
    have hrA:∀ y5:Option D,sat (dApp 2 (dP (pVar 4)) [some d3,some (.v (.int (m:Int))),some (Lst srD .own rs),some (D.v (.int (k:Int))),some (srD r),y5,none,none]) fun _ s=>s = [some d3,some (.v (.int (m:Int))),some (Lst srD .own (rs ++ [r])),some (D.v (.int (k:Int))),some (srD r),y5,none,none]:=fun y5=>by
      refine Zdv (enc:=srD) (xs:=rs) r rfl (by simp [kr]) (by omega) ?_
      rfl
    have hlS:=Zkm (xs:=pnA (rs ++ [r])) (w:=.own) (by omega)
    have hlN:lenD (Lst D.str .own (pnA (rs ++ [r]))) = some (.v (.int ((pnA (rs ++ [r])).length:Int))):=by simp
    have hpm:=pcA_nm (rs:=rs ++ [r])
    simp only [putB_o,b3.free,if_true]
    generalize hSR:srD r = SR at m1 kr i0 hfin hrA
    simp [b3.free,m1,ad,fz,hsp,kr,diD,-Zed]
    refine sat_cm (out:=D.str) rowD (pcA (rs ++ [r])) Row.nm (by simp [diD,fz,hsp,itA_LJ,ad,m1,kr]) rfl (fun q _=>by simp [srd_ix]) (by rw [ZdH]; omega) ?_
    rw [hpm]
    generalize Lst D.str .own (pnA (rs ++ [r])) = NN at hlS hlN
    simp [i0]
    refine sat_cm (out:=D.str) srD rs Sr.nm (by simp [diP,itA_LJ]) rfl (fun q _=>by simp [(sr_ix (r:=q)).1]) (by omega) ?_
    have hni:notinD (.v (.str r.nm)) (Lst D.str .own (rs.map Sr.nm)) = some (.v (.bl (!decide (r.nm ∈ rs.map Sr.nm)))):=by
      have e:=in_kn (z:=r.nm) (w:=.own) (kn:=rs.map Sr.nm)
      unfold inD at e
      unfold notinD
      cases hq:inB (.v (.str r.nm)) (Lst D.str .own (rs.map Sr.nm)) with
      | none=>rw [hq] at e; cases e
      | some b =>
        rw [hq] at e
        simp at e
        simp [e]
    by_cases c1:r.nm ∈ rs.map Sr.nm
    · simp [hni,c1,-List.mem_map]
      exact ⟨rs,d3,⟨rfl,rfl⟩,hs,by omega,b3⟩
    · by_cases c2:(Rm.met (pnA (rs ++ [r]))).length = (pnA (rs ++ [r])).length
      · by_cases c3:(pnA (rs ++ [r])).length < 31
        · have c3':((pnA (rs ++ [r])).length:Int) < 31:=by omega
          simp [hni,c1,hlS,hlN,c2,c3',-List.mem_map]
          refine Zg (hrA _) ?_
          rintro _ _ rfl
          exact ⟨rs ++ [r],d3,⟨_,_,_,rfl⟩,key c1 c2 c3,by simp; omega,b3⟩
        · have c3':¬ ((pnA (rs ++ [r])).length:Int) < 31:=by omega
          simp [hni,c1,hlS,hlN,c2,c3',-List.mem_map]
          exact ⟨rs,d3,⟨rfl,rfl⟩,hs,by omega,b3⟩
      · have c2':¬ ((Rm.met (pnA (rs ++ [r]))).length:Int) = ((pnA (rs ++ [r])).length:Int):=by omega
        simp [hni,c1,hlS,hlN,c2',-List.mem_map]
        exact ⟨rs,d3,⟨rfl,rfl⟩,hs,by omega,b3⟩
  · obtain ⟨rs,dd,x3,x4,x5,rfl,hs,hl,hb⟩:=hI
    simp [dMv,Lst,D.free,FlowP,ioF]
    exact ⟨rs,dd,rfl,hs,by simp at hl; omega,rfl,hb⟩
end K78
end Lw
set_option maxHeartbeats 1000000
namespace Lw
namespace K78
open PySem PySem.Spec PyProof.Rows L2 Fs K77 K08
end K78
end Lw
set_option maxHeartbeats 1000000
namespace Lw
namespace K78
open PySem PySem.Spec PyProof.Rows L2 Fs K77 K08
theorem told_S {s:Sl} {w:Fl} {rs:List Sr}:callK Zi [serD w rs] s = .ok (Tpl srD rs) s:=Zv rfl (by
  have f1:fldD 36 "known" (serD w rs) = some (knD w rs):=rfl
  have hv:valsTD (knD w rs) = some (Tpl srD rs):=by
    simp only [knD,valsTD]
    first | rfl | (rw [if_pos (Zbm rs)]; rfl) | (simp [Tpl]; exact fun x _=>Ke.kept (enc:=srD) x)
  generalize serD w rs = S at f1
  generalize knD w rs = K at f1 hv
  simp [ZbE,f1,hv])
end K78
end Lw
set_option maxHeartbeats 1000000
namespace Lw
namespace K76
open PySem PySem.Spec PyProof.Rows L2 Fs K77 K78
theorem st_dig:∀ n:Nat,n < 60 → ∀ c ∈ (stI n).cps.toList,c ∈ LF:=by
  have q:∀ n:Nat,n < 60 → ((stI n).cps.toList.all fun c=>decide (c ∈ LF)) = true:=by decide +kernel
  intro n hn c hc
  simpa using List.all_eq_true.mp (q n hn) c hc
theorem Zk7 {r:Sr} {k:Nat} (h:SrOk r) (hk:k < 60):nameB (pN r k).cps.toList = true:=by
  have hl:=st_len hk
  have e:(pN r k).cps.toList = r.nm.cps.toList ++ (stI k).cps.toList:=by
    show (r.nm.cps ++ (stI k).cps).toList = _
    simp
  have hn:=h.nm
  have h6:r.nm.cps.toList.length ≤ 6:=by have:=h.n6; simpa [Str.length] using this
  have h2:(stI k).cps.toList.length ≤ 2:=by simpa [Str.length] using hl
  rw [e]
  cases ec:r.nm.cps.toList with
  | nil=>rw [ec] at hn; cases hn
  | cons c cs =>
    rw [ec] at hn h6
    simp only [nameB,List.cons_append,Bool.and_eq_true,decide_eq_true_eq,List.all_cons,List.all_append,List.all_eq_true,List.length_cons,List.length_append] at hn h6 ⊢
    exact ⟨by omega,hn.2.1,hn.2.2.1,hn.2.2.2,fun x hx=>st_dig k hk x hx⟩
theorem pc_ok {r:Sr} {k:Nat} (h:SrOk r) (hk:k < r.t.toNat):(pcR r k).ok:=by
  have t1:=h.t1
  have e0:=h.e0
  have a0:=h.a0
  have w0:=h.w0
  have la:=h.la
  have hk2:(k:Int) ≤ r.t - 1:=by omega
  have m0:0 ≤ (k:Int) * r.e:=Int.mul_nonneg (by omega) (by omega)
  have m1:(k:Int) * r.e ≤ (r.t - 1) * r.e:=Int.mul_le_mul_of_nonneg_right hk2 (by omega)
  exact ⟨Zk7 h (by omega),by show 0 ≤ r.a + _; omega,by show r.a + _ ≤ 200; omega,by show 0 ≤ r.a + _ + r.w - 1; omega,by show r.a + _ - 1 ≤ r.a + _ + r.w - 1; omega,by show r.a + _ + r.w - 1 ≤ 199; omega,h.l0,h.l1,by have:=h.l0; show 0 ≤ r.l; omega,Int.le_refl _⟩
theorem pcA_ok {rs:List Sr} (h:SerOk rs):RowsOk (pcA rs):=by
  refine ⟨by rw [ZdH]; exact h.len,by rw [pcA_nm]; exact h.pd,fun q hq=>?_⟩
  obtain ⟨r,hr,hq⟩:=List.mem_flatMap.mp hq
  obtain ⟨k,hk,rfl⟩:=List.mem_map.mp hq
  exact pc_ok (h.ok r hr) (List.mem_range.mp hk)
theorem pcA_lt {rs:List Sr} (h:SerOk rs):∀ q ∈ pcA rs,0 ≤ q.a ∧ q.a < 200:=fun q hq=>by
  have ok:=(pcA_ok h).ok q hq
  obtain ⟨r,hr,hq⟩:=List.mem_flatMap.mp hq
  obtain ⟨k,hk,rfl⟩:=List.mem_map.mp hq
  have hh:=h.ok r hr
  have hk2:=List.mem_range.mp hk
  have w0:=hh.w0
  have b2:=ok.b2
  have e:(pcR r k).b = (pcR r k).a + r.w - 1:=rfl
  exact ⟨ok.a0,by omega⟩
def srt (ps:List Row):List Row:=(isrtK ((ps.map Row.a).zip ps)).map Prod.snd
def ord (ps:List Row):List Row:=(List.range 200).flatMap fun (t:Nat)=>ps.filter fun p=>decide (p.a = (t:Int))
theorem Zjg {α β:Type} (f:α → β):∀ l:List (Int × α),isrtK (l.map fun p=>(p.1,f p.2)) = (isrtK l).map fun p=>(p.1,f p.2):=by
  have ins:∀ (p:Int × α) (l:List (Int × α)),insK (p.1,f p.2) (l.map fun p=>(p.1,f p.2)) = (insK p l).map fun p=>(p.1,f p.2):=by
    intro p l
    induction l with
    | nil=>rfl
    | cons q r ih =>
      simp only [List.map_cons,insK]
      split
      · rfl
      · rw [ih]; rfl
  intro l
  induction l with
  | nil=>rfl
  | cons p r ih=>simp only [List.map_cons,isrtK]; rw [ih,ins]
theorem ZgJ:∀ ps:List Row,keysD ZA (ps.map rowD) = some (ps.map Row.a)
  | []=>rfl
  | p :: ps=>by
    have e:ZA [rowD p] = .ok (.v (.int p.a)) [none]:=rfl
    simp only [List.map_cons,keysD,e,ZgJ ps,Option.map_some]
theorem sort_c {w:Fl} {ps:List Row} (h:ps.length ≤ 100000):sortKD ZA (Lst rowD w ps) = some (Lst rowD .own (srt ps)):=by
  have e1:Fs.seqL (Lst rowD w ps) = some (ps.map rowD):=rfl
  have e2:(ps.map rowD).all D.kept = true ∧ (ps.map rowD).length ≤ 100000:=⟨Zbm ps,by rw [List.length_map]; exact h⟩
  unfold sortKD
  rw [e1,Option.bind_some,if_pos e2,ZgJ,Option.map_some]
  unfold srtK srt Lst
  have z:(ps.map Row.a).zip (ps.map rowD) = ((ps.map Row.a).zip ps).map fun p=>(p.1,rowD p.2):=by
    rw [List.zip_map_right]
    rfl
  rw [z,Zjg,List.map_map,List.map_map]
  rfl
theorem ZfM (ps:List Row):(srt ps).Perm ps:=by
  have h:=(ZcH ((ps.map Row.a).zip ps)).map Prod.snd
  rw [List.map_snd_zip (by simp)] at h
  exact h
theorem srt_ok {ps:List Row} (h:RowsOk ps):RowsOk (srt ps):=⟨by rw [(ZfM ps).length_eq]; exact h.len,((ZfM ps).map Row.nm).nodup_iff.mpr h.nd,fun r hr=>h.ok r ((ZfM ps).mem_iff.mp hr)⟩
theorem Zhq {n:Nat} {ps:List Row} {c:Int}:((List.range n).flatMap fun (t:Nat)=>ps.filter fun p=>decide (p.a = (t:Int))).filter (fun p=>p.a == c) = if 0 ≤ c ∧ c < n then ps.filter (fun p=>p.a == c) else []:=by
  induction n with
  | zero=>simp; omega
  | succ n ih =>
    rw [List.range_succ,List.flatMap_append,List.filter_append,ih]
    simp only [List.flatMap_cons,List.flatMap_nil,List.append_nil,List.filter_filter]
    by_cases hc:c = (n:Int)
    · subst hc
      rw [if_neg (by omega),if_pos (by omega),List.nil_append]
      refine List.filter_congr fun p _=>?_
      by_cases hp:p.a = (n:Int) <;> simp [hp]
    · have e:(ps.filter fun p=>(p.a == c) && decide (p.a = (n:Int))) = []:=List.filter_eq_nil_iff.mpr fun p _=>by
        simp only [Bool.and_eq_true,beq_iff_eq,decide_eq_true_eq]
        omega
      rw [e,List.append_nil]
      by_cases h0:0 ≤ c ∧ c < n
      · rw [if_pos h0,if_pos (by omega)]
      · rw [if_neg h0,if_neg (by omega)]
theorem Zfk {ps:List Row}:∀ n:Nat,((List.range n).flatMap fun (t:Nat)=>ps.filter fun p=>decide (p.a = (t:Int))).Pairwise (fun a b=>a.a ≤ b.a) ∧ ∀ p ∈ ((List.range n).flatMap fun (t:Nat)=>ps.filter fun p=>decide (p.a = (t:Int))),p.a < n
  | 0=>by simp
  | n + 1=>by
    obtain ⟨h1,h2⟩:=Zfk (ps:=ps) n
    rw [List.range_succ,List.flatMap_append]
    simp only [List.flatMap_cons,List.flatMap_nil,List.append_nil]
    have hq:∀ p ∈ ps.filter (fun p=>decide (p.a = (n:Int))),p.a = (n:Int):=fun p hp=>by simpa using (List.mem_filter.mp hp).2
    refine ⟨List.pairwise_append.mpr ⟨h1,?_,fun a ha b hb=>?_⟩,fun p hp=>?_⟩
    · refine List.pairwise_of_forall_mem_list fun a ha b hb=>?_
      rw [hq a ha,hq b hb]
      exact Int.le_refl _
    · have:=h2 a ha
      rw [hq b hb]
      omega
    · rcases List.mem_append.mp hp with c | c
      · have:=h2 p c
        omega
      · rw [hq p c]
        omega
theorem Zla {ps:List Row} (h:∀ q ∈ ps,0 ≤ q.a ∧ q.a < 200):srt ps = ord ps:=by
  -- through pairs of the first turn and the row
  have key:∀ l:List Row,(l.map fun p=>(p.a,p)).map Prod.snd = l:=fun l=>by rw [List.map_map]; exact List.map_id _
  have zp:(ps.map Row.a).zip ps = ps.map fun p=>(p.a,p):=by
    rw [List.zip_map_left]
    have:∀ l:List Row,(l.zip l).map (Prod.map Row.a id) = l.map fun p=>(p.a,p):=by
      intro l
      induction l with
      | nil=>rfl
      | cons x l ih=>simp only [List.zip_cons_cons,List.map_cons,ih]; rfl
    exact this ps
  have fil:∀ (l:List Row) (c:Int),(l.map fun p=>(p.a,p)).filter (fun x=>x.1 == c) = (l.filter fun p=>p.a == c).map fun p=>(p.a,p):=fun l c=>by
    rw [List.filter_map]
    rfl
  have fo:∀ c,(ord ps).filter (fun p=>p.a == c) = ps.filter (fun p=>p.a == c):=fun c=>by
    unfold ord
    rw [Zhq]
    split
    · rfl
    · rename_i hc
      refine (List.filter_eq_nil_iff.mpr fun p hp=>?_).symm
      have:=h p hp
      simp only [beq_iff_eq]
      omega
  have e:isrtK (ps.map fun p=>(p.a,p)) = (ord ps).map fun p=>(p.a,p):=by
    refine Zei (Zdk _) ?_ ?_ fun c=>?_
    · exact List.pairwise_map.mpr (Zfk 200).1
    · refine (ZcH _).trans (List.Perm.map _ ?_)
      refine List.perm_iff_count.mpr fun a=>?_
      have q:∀ l:List Row,l.count a = (l.filter fun p=>p.a == a.a).count a:=fun l=>by
        rw [List.count_filter (by simp)]
      rw [q ps,q (ord ps),fo]
    · rw [Zdl,fil,fil,fo]
  unfold srt
  rw [zp,e,key]
end K76
end Lw
set_option maxHeartbeats 1000000
namespace Lw
namespace K76
open PySem PySem.Spec PyProof.Rows L2 Fs K77 K78
section
variable {s:Sl} {w:Fl} {rs:List Sr}
theorem ZhN:lend (serD .own rs) = serD .bor rs:=by
  show D.n _ .bor [lend (knD .own rs),lend (hdD .own (hvA rs))] = _
  rw [Zi2,Zi3]
theorem Zb8 (hw:w ≠ .own):lend (serD w rs) = serD w rs:=by
  cases w with
  | own=>exact absurd rfl hw
  | shr=>rfl
  | bor=>rfl
def pfB:DS:=dsDrop (dMut (plV 1) "list" ZcA (daCons (dCall Zh (daLend (pVar 2) daNil)) daNil))
theorem forF_c (hw:w ≠ .own) (h:SerOk rs):∃ z,(z = none ∨ ∃ r,z = some (srD r)) ∧ dsForF 0 36 "known" .vs (tgN 2) pfB [some (serD w rs),some (Lst rowD .own []),none] = .ok .nx [some (serD w rs),some (Lst rowD .own (pcA rs)),z]:=by
  have f1:fldD 36 "known" (serD w rs) = some (knD w rs):=rfl
  have it:itD .vs ((rs.map Sr.nm).map Sum.inr) (rs.map srD) = some (rs.map srD):=by
    simp only [itD]
    rw [if_pos (Zbm rs)]
  have lp:sat (loop (tgN 2) pfB (rs.map srD) [some (serD w rs),some (Lst rowD .own []),none]) fun f s'=>f = .nx ∧ ∃ z,(z = none ∨ ∃ r,z = some (srD r)) ∧ s' = [some (serD w rs),some (Lst rowD .own (pcA rs)),z]:=by
    generalize serD w rs = S
    refine ZbY (enc:=srD) (I:=fun pre s=>∃ z,(z = none ∨ ∃ r,z = some (srD r)) ∧ s = [some S,some (Lst rowD .own (pcA pre)),z]) (fun pre q post s hp hI=>?_) ⟨none,.inl rfl,rfl⟩ (fun s hI=>?_)
    · obtain ⟨z,hz,rfl⟩:=hI
      have hq:=h.ok q (by rw [hp]; simp)
      have pq:=fun s=>ZcW (r:=q) (s:=s) (by have:=hq.t1; omega) (by have:=hq.t0; omega) (by have:=hq.n6; omega)
      have hl:(pcA pre).length + (pcs q).length ≤ 100000:=by
        have h1:=h.len
        rw [← ZdH,hp] at h1
        simp only [pcA,List.flatMap_append,List.flatMap_cons,List.length_append] at h1 ⊢
        omega
      refine ⟨[some S,some (Lst rowD .own (pcA pre)),some (srD q)],rfl,?_⟩
      have lq:lend (srD q) = srD q:=rfl
      have ee:pcA (pre ++ [q]) = pcA pre ++ pcs q:=by simp [pcA]
      obtain ⟨R,eR⟩:∃ R,R = srD q:=⟨_,rfl⟩
      rw [← eR] at pq lq ⊢
      simp [pfB]
      refine Zg3 (w:=.own) (xs:=pcA pre) (ys:=pcs q) rfl ?_ hl ?_
      · simp [lq,pq]
      · simp
        exact ⟨⟨q,eR⟩,by rw [ee]⟩
    · obtain ⟨z,hz,rfl⟩:=hI
      exact ⟨rfl,z,hz,rfl⟩
  obtain ⟨f,s',e,rfl,z,hz,rfl⟩:=lp
  refine ⟨z,hz,?_⟩
  show (if w = .own then .bad else (match itD .vs ((rs.map Sr.nm).map Sum.inr) (rs.map srD) with
    | some its=>noXc (loop (tgN 2) pfB its [some (serD w rs),some (Lst rowD .own []),none])
    | none=>.bad)) = _
  rw [if_neg hw,it]
  show noXc (loop (tgN 2) pfB (rs.map srD) [some (serD w rs),some (Lst rowD .own []),none]) = _
  rw [e]
  rfl
def plB:DS:=Zeq 0 (fun k=>[2].contains k) (dsForF 0 36 "known" .vs (tgN 2) pfB)
theorem Zgp:Zbr = dsSeq (dsAsg (dF mkLst daNil) (tgN 1)) (dsSeq plB (dsRet (dCall (mkF 20 Zm) (daCons (dN (f1 (sortKD ZA)) [.k (pVar 1)]) daNil)))):=rfl
theorem ZfT (h:SerOk rs):callK Zf [serD w rs] s = .ok (Pcs .own (srt (pcA rs))) s:=Zv rfl (by
  have hm:mkLst [] = some (Lst rowD .own []):=rfl
  have hok:=pcA_ok h
  have hs:sortKD ZA (Lst rowD .own (pcA rs)) = some (Lst rowD .own (srt (pcA rs))):=sort_c (by have:=hok.len; omega)
  have mk:=fun s=>ZiW (s:=s) (w:=.own) (srt_ok hok)
  have mk':∀ s,callK (mkF 20 Zm) [Lst rowD .own (srt (pcA rs))] s = .ok (Pcs .own (srt (pcA rs))) s:=mk
  have bd:∃ z,Zeq 0 (fun k=>[2].contains k) (dsForF 0 36 "known" .vs (tgN 2) pfB) [some (serD w rs),some (Lst rowD .own []),none] = .ok .nx [some (serD w rs),some (Lst rowD .own (pcA rs)),z]:=by
    cases w with
    | bor =>
      obtain ⟨z,hz,e⟩:=forF_c (w:=.bor) (by decide) h
      exact ⟨z,e⟩
    | own =>
      obtain ⟨z,hz,e⟩:=forF_c (w:=.bor) (by decide) h
      refine ⟨z,?_⟩
      show backL 0 (fun k=>[2].contains k) [some (serD .own rs),some (Lst rowD .own []),none] (serD .own rs) (dsForF 0 36 "known" .vs (tgN 2) pfB [some (lend (serD .own rs)),some (Lst rowD .own []),none]) = _
      rw [ZhN,e]
      rcases hz with rfl | ⟨r,rfl⟩ <;> rfl
    | shr =>
      obtain ⟨z,hz,e⟩:=forF_c (w:=.shr) (by decide) h
      refine ⟨z,?_⟩
      show backL 0 (fun k=>[2].contains k) [some (serD .shr rs),some (Lst rowD .own []),none] (serD .shr rs) (dsForF 0 36 "known" .vs (tgN 2) pfB [some (lend (serD .shr rs)),some (Lst rowD .own []),none]) = _
      rw [Zb8 (by decide),e]
      rcases hz with rfl | ⟨r,rfl⟩ <;> rfl
  obtain ⟨z,bd⟩:=bd
  have bd':plB [some (serD w rs),some (Lst rowD .own []),none] = .ok .nx [some (serD w rs),some (Lst rowD .own (pcA rs)),z]:=bd
  rw [Zgp]
  generalize serD w rs = S at bd'
  generalize srt (pcA rs) = T at hs mk'
  simp [hm,bd',hs,mk'])
theorem ZeQ {w:Fl} {rs:List Sr} (hw:w ≠ .own) (h:∀ r ∈ rs,0 ≤ r.t ∧ r.t ≤ 59 ∧ r.nm.length ≤ 100) (hl:(pcA rs).length < 90000):callK Zd [Lst srD w rs] s = .ok (Lst rowD .own (pcA rs)) s:=Zv rfl (by
  have hm:mkLst [] = some (Lst rowD .own []):=rfl
  have hit:itA false (Lst srD w rs) = some (rs.map srD):=by
    simp only [Lst,itA]
    rw [if_pos ⟨Zbm rs,.inr hw⟩]
  simp [Zbc,hm,diP,hit]
  refine ZbY (enc:=srD) (I:=fun pre s=>∃ y2 y3 y4 y5 y6 y7 y8,s = [some (Lst srD w rs),some (Lst rowD .own (pcA pre)),y2,y3,y4,y5,y6,y7,y8]) (fun pre q post s hp hI=>?_) ⟨_,_,_,_,_,_,_,rfl⟩ (fun s hI=>?_)
  · obtain ⟨y2,y3,y4,y5,y6,y7,y8,rfl⟩:=hI
    obtain ⟨h0,h1,h2⟩:=h q (by rw [hp]; simp)
    have hlen:(pcA pre).length + (pcs q).length < 90000:=by
      have:pcA rs = pcA pre ++ (pcs q ++ pcA post):=by rw [hp]; simp [pcA]
      rw [this] at hl
      simp only [List.length_append] at hl
      omega
    rw [Zha] at hlen
    refine ⟨[some (Lst srD w rs),some (Lst rowD .own (pcA pre)),some (.v (.str q.nm)),some (.v (.int q.a)),some (.v (.int q.w)),some (.v (.int q.l)),some (.v (.int q.e)),some (.v (.int q.t)),y8],rfl,?_⟩
    simp [diD,itR_I h0 (by omega:q.t ≤ 100000)]
    refine ZbY (enc:=natE) (I:=fun pr s=>∃ y8,s = [some (Lst srD w rs),some (Lst rowD .own (pcA pre ++ pr.map (pcR q))),some (.v (.str q.nm)),some (.v (.int q.a)),some (.v (.int q.w)),some (.v (.int q.l)),some (.v (.int q.e)),some (.v (.int q.t)),y8]) (fun pr k po s hp' hI=>?_) ⟨y8,by simp⟩ (fun s hI=>?_)
    · obtain ⟨y8,rfl⟩:=hI
      have hk:k < 59:=by
        have:k ∈ List.range q.t.toNat:=by rw [hp']; simp
        have:=List.mem_range.mp this
        omega
      have hpl:(pcA pre ++ pr.map (pcR q)).length < 100000:=by
        have:=congrArg List.length hp'
        simp at this ⊢
        omega
      refine ⟨_,rfl,?_⟩
      have hl:=st_len (k:=k) (by omega)
      have m5:mkTup [D.v (.str (q.nm ++ stI k)),.v (.int (q.a + (k:Int) * q.e)),.v (.int (q.a + (k:Int) * q.e + q.w - 1)),.v (.int q.l),.v (.int q.l)] = some (rowD (pcR q k)):=rfl
      have cm:cMul (k:Int) q.e = true:=cMul_l (by omega)
      simp [natE,cm]
      refine Zdv (enc:=rowD) (xs:=pcA pre ++ pr.map (pcR q)) (pcR q k) rfl ?_ hpl ?_
      · simp [st_c (k:=k) (by omega),add_nm (z:=q.nm) (y:=stI k) (by omega),cm,m5]
      · simp
    · obtain ⟨y8,rfl⟩:=hI
      exact ⟨some (.v (.str q.nm)),some (.v (.int q.a)),some (.v (.int q.w)),some (.v (.int q.l)),some (.v (.int q.e)),some (.v (.int q.t)),y8,by simp [pcA,pcs]⟩
  · obtain ⟨y2,y3,y4,y5,y6,y7,y8,rfl⟩:=hI
    simp [dMv,Lst,D.free])
theorem ZfG (hw:w ≠ .own) (h:SerOk rs):callK ZB [Lst srD w rs] s = .ok (Lst rowD .own (srt (pcA rs))) s:=by
  rw [Zla (pcA_lt h)]
  refine Zv rfl ?_
  have hm:mkLst [] = some (Lst rowD .own []):=rfl
  have hlen:(pcA rs).length ≤ 30:=by rw [ZdH]; exact h.len
  have e1:∀ s,callK Zd [Lst srD w rs] s = .ok (Lst rowD .own (pcA rs)) s:=fun s=>ZeQ hw (fun q hq=>⟨by have:=(h.ok q hq).t0; omega,by have:=(h.ok q hq).t1; omega,by have:=(h.ok q hq).n6; omega⟩) (by omega)
  have lw:lend (Lst srD w rs) = Lst srD w rs:=by
    cases w with
    | own=>exact absurd rfl hw
    | shr=>rfl
    | bor=>simp [Lst]
  have hit:=itR_I (i:=200) (by omega) (by omega)
  generalize Lst srD w rs = R at e1 lw
  simp [Zcb,lw,e1,hm,diD,hit]
  refine ZbY (enc:=natE) (I:=fun pre s=>∃ y3,s = [some R,some (Lst rowD .own (pcA rs)),some (Lst rowD .own (pre.flatMap fun (t:Nat)=>(pcA rs).filter fun p=>decide (p.a = (t:Int)))),y3,none]) (fun pre k post s hp hI=>?_) ⟨_,rfl⟩ (fun s hI=>?_)
  · obtain ⟨y3,rfl⟩:=hI
    refine ⟨[some R,some (Lst rowD .own (pcA rs)),some (Lst rowD .own (pre.flatMap fun (t:Nat)=>(pcA rs).filter fun p=>decide (p.a = (t:Int)))),some (.v (.int (k:Int))),none],rfl,?_⟩
    have bound:∀ ps:List Nat,(ps.flatMap fun (t:Nat)=>(pcA rs).filter fun p=>decide (p.a = (t:Int))).length ≤ ps.length * 30:=fun ps=>by
      induction ps with
      | nil=>simp
      | cons x ps ih =>
        have:=List.length_filter_le (fun p:Row=>decide (p.a = (x:Int))) (pcA rs)
        simp only [List.flatMap_cons,List.length_append,List.length_cons]
        omega
    have hpl:pre.length ≤ 200:=by
      have:=congrArg List.length hp
      simp at this
      omega
    have hb:=bound pre
    have hfl:=List.length_filter_le (fun p:Row=>decide (p.a = (k:Int))) (pcA rs)
    simp
    refine Zg3 (w:=.own) (xs:=pre.flatMap fun (t:Nat)=>(pcA rs).filter fun p=>decide (p.a = (t:Int))) (ys:=(pcA rs).filter fun p=>decide (p.a = (k:Int))) rfl ?_ (by omega) ?_
    · refine Zg4 (enc:=rowD) (out:=rowD) (pcA rs) (fun p=>decide (p.a = (k:Int))) (fun p=>p) ?_ rfl (fun p hp=>?_) (by omega) ?_
      · have hl:itA true (Lst rowD .own (pcA rs)) = some ((pcA rs).map rowD):=itA_LJ
        simp [diP,hl]
      · have i1:ixD (rowD p) (.v (.int 1)) = some (.v (.int p.a)):=rfl
        have hk:Option.filter D.kept (some (rowD p)) = some (rowD p):=rfl
        generalize rowD p = P at i1 hk
        simp [i1,hk]
      · simp
    · simp
  · obtain ⟨y3,rfl⟩:=hI
    have:ord (pcA rs) = (List.range 200).flatMap fun (t:Nat)=>(pcA rs).filter fun p=>decide (p.a = (t:Int)):=rfl
    rw [this]
    simp [dMv,Lst,D.free]
theorem Zlh:callK Zp [serD w rs] s = .ok (Lst D.str .own (rs.map Sr.nm)) s:=Zv rfl (by
  have f1:fldD 36 "known" (serD w rs) = some (knD w rs):=rfl
  have hl:listD (knD w rs) = some (Lst D.str .own (rs.map Sr.nm)):=by
    show some (D.n .lst .own (((rs.map Sr.nm).map Sum.inr).map keyDv)) = _
    rw [List.map_map]
    rfl
  generalize serD w rs = S at f1
  generalize knD w rs = K at f1 hl
  simp [ZbA,f1,hl])
end
end K76
end Lw
namespace Lw
open PySem PySem.Spec PyProof.Rows L2 Fs
def L_law_asked_9_3:DS:=(dsAsg (dF mkTup (daCons (dP (pC (.str "told"))) (daCons (dCall Zn (daLend (pRc 36 "whose" (pVar 0)) (daLend (pVar 2) daNil))) daNil))) (tgN 3))
@[simp] theorem Zii {s:Sl}:type_of% (congrFun L_law_asked_9_3.eq_1 s):=congrFun L_law_asked_9_3.eq_1 s
def L_law_asked_9_2:DS:=(dsIf (dtV (dN (f2 eqD) [.k (pVar 1),.k (pC (.int 0))])) (dsAsg (dF mkTup (daCons (dP (pC (.str "told"))) (daCons (dCall Zq (daLend (pRc 36 "row" (pVar 0)) (daLend (pVar 2) daNil))) daNil))) (tgN 3)) L_law_asked_9_3)
@[simp] theorem Zij {s:Sl}:type_of% (congrFun L_law_asked_9_2.eq_1 s):=congrFun L_law_asked_9_2.eq_1 s
def L_law_asked_9_4:DS:=(dsRet (dMv 3))
@[simp] theorem Zih {s:Sl}:type_of% (congrFun L_law_asked_9_4.eq_1 s):=congrFun L_law_asked_9_4.eq_1 s
def Zdt:DS:=(dsSeq (dsTry (fun c=>[3].contains c) L_law_asked_9_2 [⟨(fun c=>[3].contains c),some 4,fun xs=>(dsAsg (dF mkTup (dL (lCons (pC (.str "none")) (lCons (fun _=>xs[0]?) (fun _=>some []))))) (tgN 3))⟩,⟨(fun c=>[3].contains c),none,fun xs=>(dsAsg (dF mkTup (dL (lCons (pC (.str "other")) (lCons (pC .non) (fun _=>some []))))) (tgN 3))⟩]) L_law_asked_9_4)
@[simp] theorem Zik {s:Sl}:type_of% (show Zdt s = _ from Fs.sq_c):=Fs.sq_c
def Zdu:DS:=(dsSeq (dsAsg (dP (pC .non)) (tgN 3)) Zdt)
@[simp] theorem Zil {s:Sl}:type_of% (show Zdu s = _ from Fs.sq_c):=Fs.sq_c
theorem Zbn:Zci = Zdu:=of_eq_true (eq_self _)
def L_law_one_right_4:DS:=(dsDrop (dMut (plV 7) "list" ZcA (daCons (dComp true [8] (diD itR (dP (pOp ixD (pVar 4) (pC (.int 5))))) (tgN 8) dtYes (dF mkTup (daCons (dP (pOp ixD (pVar 4) (pC (.int 0)))) (daCons (dP (pVar 8)) daNil)))) daNil)))
@[simp] theorem ZdU {s:Sl}:type_of% (congrFun L_law_one_right_4.eq_1 s):=congrFun L_law_one_right_4.eq_1 s
def L_law_one_right_8:DS:=(dsAsg (dF mkTup (daCons (dP (pC (.str "told"))) (daCons (dN (f2 ixK) [.k (pVar 1),.v (dN indexX [.k (pUn (tyF "list") (pVar 3)),.k (pVar 2)])]) daNil))) (tgN 10))
@[simp] theorem Zhx {s:Sl}:type_of% (congrFun L_law_one_right_8.eq_1 s):=congrFun L_law_one_right_8.eq_1 s
def L_law_one_right_10:DS:=(dsAsg (dF mkTup (daCons (dP (pC (.str "told"))) (daCons (dN (f2 ixK) [.k (pVar 7),.v (dN indexX [.k (pUn (tyF "list") (pVar 5)),.k (pVar 2)])]) daNil))) (tgN 10))
@[simp] theorem ZgT {s:Sl}:type_of% (congrFun L_law_one_right_10.eq_1 s):=congrFun L_law_one_right_10.eq_1 s
def L_law_one_right_12:DS:=(dsIf (dtOr (dtV (dN (f2 neM) [.k (pVar 11),.k (pVar 10)])) (dtV (dN (f2 neM) [.v (dN (f1 (isiD "bool")) [.k (pOp ixD (pVar 11) (pC (.int 1)))]),.v (dN (f1 (isiD "bool")) [.k (pOp ixD (pVar 10) (pC (.int 1)))])]))) (dsRet (dP (pC (.bl false)))) dsNext)
@[simp] theorem ZK {s:Sl}:type_of% (congrFun L_law_one_right_12.eq_1 s):=congrFun L_law_one_right_12.eq_1 s
def Zcz:DS:=(dsSeq (dsAsg (dCall ZH (daLend (pVar 0) (daLend (pVar 9) (daLend (pVar 2) daNil)))) (tgN 11)) L_law_one_right_12)
@[simp] theorem ZgS {s:Sl}:type_of% (show Zcz s = _ from Fs.sq_c):=Fs.sq_c
def ZcM:DS:=(dsSeq (dsIf (dtAnd (dtV (dN (f2 eqM) [.k (pVar 9),.k (pC (.int 1))])) (dtAnd (dtV (dN (f1 (isiD "str")) [.k (pVar 2)])) (dtV (dN (f2 inD) [.k (pVar 2),.k (pVar 5)])))) L_law_one_right_10 dsNext) Zcz)
@[simp] theorem Zhw {s:Sl}:type_of% (show ZcM s = _ from Fs.sq_c):=Fs.sq_c
def ZcN:DS:=(dsSeq (dsIf (dtAnd (dtV (dN (f2 eqM) [.k (pVar 9),.k (pC (.int 0))])) (dtAnd (dtV (dN (f1 (isiD "str")) [.k (pVar 2)])) (dtV (dN (f2 inD) [.k (pVar 2),.k (pVar 3)])))) L_law_one_right_8 dsNext) ZcM)
@[simp] theorem Zhy {s:Sl}:type_of% (show ZcN s = _ from Fs.sq_c):=Fs.sq_c
def ZbD:DS:=(dsSeq (dsAsg (dF mkTup (daCons (dP (pC (.str "none"))) (daCons (dP (pVar 2)) daNil))) (tgN 10)) ZcN)
@[simp] theorem ZdS {s:Sl}:type_of% (show ZbD s = _ from Fs.sq_c):=Fs.sq_c
def L_law_one_right_13:DS:=(dsRet (dP (pC (.bl true))))
@[simp] theorem ZgR {s:Sl}:type_of% (congrFun L_law_one_right_13.eq_1 s):=congrFun L_law_one_right_13.eq_1 s
def ZcO:DS:=(dsSeq (dsFor (diD itR (dP (pC (.int 2)))) (tgN 9) ZbD) L_law_one_right_13)
@[simp] theorem ZdT {s:Sl}:type_of% (show ZcO s = _ from Fs.sq_c):=Fs.sq_c
def ZcP:DS:=(dsSeq (dsFor (diP (itA false) (pVar 1)) (tgN 4) L_law_one_right_4) ZcO)
@[simp] theorem Zhz {s:Sl}:type_of% (show ZcP s = _ from Fs.sq_c):=Fs.sq_c
def ZcQ:DS:=(dsSeq (dsAsg (dF mkLst daNil) (tgN 7)) ZcP)
@[simp] theorem ZdV {s:Sl}:type_of% (show ZcQ s = _ from Fs.sq_c):=Fs.sq_c
def ZcR:DS:=(dsSeq (dsAsg (dComp true [6] (diD (itA true) (dCall Zd (daLend (pVar 1) daNil))) (tgN 6) dtYes (dP (pOp ixD (pVar 6) (pC (.int 0))))) (tgN 5)) ZcQ)
@[simp] theorem ZdW {s:Sl}:type_of% (show ZcR s = _ from Fs.sq_c):=Fs.sq_c
def ZcS:DS:=(dsSeq (dsAsg (dComp true [4] (diP (itA true) (pVar 1)) (tgN 4) dtYes (dP (pOp ixD (pVar 4) (pC (.int 0))))) (tgN 3)) ZcR)
@[simp] theorem ZhA {s:Sl}:type_of% (show ZcS s = _ from Fs.sq_c):=Fs.sq_c
theorem Zds:Zb0 = ZcS:=of_eq_true (eq_self _)
def L_law_right_24_6:DS:=(dsIf (dtNot (dtV (dCall Z5 (daLend (pVar 1) (daLend (pVar 2) (daLend (pVar 7) daNil)))))) (dsRet (dP (pC (.bl false)))) dsNext)
@[simp] theorem ZbX {s:Sl}:type_of% (congrFun L_law_right_24_6.eq_1 s):=congrFun L_law_right_24_6.eq_1 s
def L_law_right_24_7:DS:=(dsRet (dAnd (dN (f1 (isoD [(20,true)])) [.v (dCall Zf (daLend (pRc 36 "pieces" (pVar 1)) daNil))]) (dN (f2 eqD) [.v (dCall Zj (daCons (dRc 20 "told" (dCall Zf (daLend (pRc 36 "pieces" (pVar 1)) daNil))) daNil)),.v (dN (f1 tupD) [.v (dCall ZB (daLend (pVar 2) daNil))])])))
@[simp] theorem ZbW {s:Sl}:type_of% (congrFun L_law_right_24_7.eq_1 s):=congrFun L_law_right_24_7.eq_1 s
def Zc7:DS:=(dsSeq (dsFor (diD (itA true) (dNI (f2 addA) [.l 5,.v (dF mkLst (daCons (Ze Zbd [.o 0]) (daCons (Ze Zbd [.o 0]) (daCons (dP (pC (.str "zzzzz9"))) (daCons (dF mkLst (daCons (dP (pC (.str "a"))) daNil)) (daCons (dP (pC (.str "a0"))) daNil))))))])) (tgN 7) L_law_right_24_6) L_law_right_24_7)
@[simp] theorem Zee {s:Sl}:type_of% (show Zc7 s = _ from Fs.sq_c):=Fs.sq_c
def Zc8:DS:=(dsSeq (dsAsg (dN (f2 addA) [.v (dComp true [4] (diP (itA true) (pVar 2)) (tgN 4) dtYes (dP (pOp ixD (pVar 4) (pC (.int 0))))),.v (dComp true [6] (diD (itA true) (dCall Zd (daLend (pVar 2) daNil))) (tgN 6) dtYes (dP (pOp ixD (pVar 6) (pC (.int 0)))))]) (tgN 5)) Zc7)
@[simp] theorem Zh2 {s:Sl}:type_of% (show Zc8 s = _ from Fs.sq_c):=Fs.sq_c
def Zc9:DS:=(dsSeq (dsDrop (dApp 3 (dP (pC (.str "late"))))) Zc8)
@[simp] theorem Zef {s:Sl}:type_of% (show Zc9 s = _ from Fs.sq_c):=Fs.sq_c
def Zda:DS:=(dsSeq (dsIf (dtV (dN (f2 neD) [.k (pVar 3),.v (dComp true [4] (diP (itA true) (pVar 2)) (tgN 4) dtYes (dP (pOp ixD (pVar 4) (pC (.int 0)))))])) (dsRet (dP (pC (.bl false)))) dsNext) Zc9)
@[simp] theorem Zh3 {s:Sl}:type_of% (show Zda s = _ from Fs.sq_c):=Fs.sq_c
def Zdb:DS:=(dsSeq (dsAsg (dCall Zp (daLend (pRc 36 "names" (pVar 1)) daNil)) (tgN 3)) Zda)
@[simp] theorem Zeg {s:Sl}:type_of% (show Zdb s = _ from Fs.sq_c):=Fs.sq_c
def Zdc:DS:=(dsSeq (dsIf (dtOr (dtV (dN (f2 neD) [.v (dCall Zi (daLend (pRc 36 "told" (pVar 1)) daNil)),.v (dN (f1 tupD) [.k (pVar 2)])])) (dtOr (dtNot (dtV (dN (f1 (isiD "tuple")) [.v (dCall Zi (daLend (pRc 36 "told" (pVar 1)) daNil))]))) (dtNot (dtV (dN (f1 (isiD "list")) [.v (dCall Zp (daLend (pRc 36 "names" (pVar 1)) daNil))]))))) (dsRet (dP (pC (.bl false)))) dsNext) Zdb)
@[simp] theorem Zh4 {s:Sl}:type_of% (show Zdc s = _ from Fs.sq_c):=Fs.sq_c
theorem Zdz:ZbI = Zdc:=of_eq_true (eq_self _)
def law_k76_9:DS:=(dsIf (dtOr (dtNot (dtV (Ze ZM [.o 2,.l 6,.l 3]))) (dtOr (dtNot (dtV (Ze ZM [.o 2,.l 7,.l 4]))) (dtV (dN (f2 neD) [.v (dCall Zi (daLend (pRc 36 "told" (pVar 6)) daNil)),.v (dN (f1 tupD) [.k (pVar 3)])])))) (dsRet (dP (pC (.bl false)))) dsNext)
@[simp] theorem ZdJ {s:Sl}:type_of% (congrFun law_k76_9.eq_1 s):=congrFun law_k76_9.eq_1 s
def Ze4:DS:=(dsSeq (dsIf (dtAnd (dtV (dNI (f2 eqD) [.v (Ze Za [.o 2,.v (dP (pC (.int 2)))]),.v (dP (pC (.int 0)))])) (dtV (dN (f2 neD) [.v (dCall Zj (daCons (dRc 20 "told" (dCall Zf (daLend (pRc 36 "pieces" (pVar 6)) daNil))) daNil)),.v (dN (f1 tupD) [.v (dCall ZB (daLend (pVar 3) daNil))])]))) (dsRet (dP (pC (.bl false)))) dsNext) law_k76_9)
@[simp] theorem Zhg {s:Sl}:type_of% (show Ze4 s = _ from Fs.sq_c):=Fs.sq_c
def ZgA:DS:=(dsSeq (dsDrop (dApp 5 (dF mkTup (daCons (dP (pC (.str "zz"))) (daCons (dP (pC (.int 0))) (daCons (dP (pC (.int 1))) (daCons (dP (pC (.int 1))) (daCons (dP (pC (.int 1))) (daCons (dP (pC (.int 1))) daNil))))))))) Ze4)
@[simp] theorem Zhh {s:Sl}:type_of% (show ZgA s = _ from Fs.sq_c):=Fs.sq_c
def ZgB:DS:=(dsSeq (dsAsg (dCall (mkF 36 Zb) (daLend (pVar 4) daNil)) (tgN 7)) ZgA)
@[simp] theorem Ze5 {s:Sl}:type_of% (show ZgB s = _ from Fs.sq_c):=Fs.sq_c
def ZgC:DS:=(dsSeq (dsAsg (dNI (f2 ixK) [.v (dF mkLst (daCons (dCall (mkF 36 Zb) (daLend (pVar 5) daNil)) (daCons (dCall (mkF 36 Zb) (daCons (dFr (dFr (dN (f1 tupD) [.k (pVar 5)]))) daNil)) daNil))),.v (Ze Za [.o 2,.v (dP (pC (.int 2)))])]) (tgN 6)) ZgB)
@[simp] theorem Zhi {s:Sl}:type_of% (show ZgC s = _ from Fs.sq_c):=Fs.sq_c
def ZgD:DS:=(dsSeq (dsAsg (dN (f1 listD) [.k (pVar 3)]) (tgN 5)) ZgC)
@[simp] theorem Zhj {s:Sl}:type_of% (show ZgD s = _ from Fs.sq_c):=Fs.sq_c
def ZgE:DS:=(dsSeq (dsAsg (Ze ZL [.o 2,.v (dP (pC (.int 2)))]) (tgN 4)) ZgD)
@[simp] theorem Zhk {s:Sl}:type_of% (show ZgE s = _ from Fs.sq_c):=Fs.sq_c
def ZgF:DS:=(dsSeq (dsAsg (Ze ZL [.o 2,.v (dP (pC (.int 6)))]) (tgN 3)) ZgE)
@[simp] theorem Ze6 {s:Sl}:type_of% (show ZgF s = _ from Fs.sq_c):=Fs.sq_c
def ZgH:DS:=(dsSeq (dsAsg (dCall Zb4 (daCons (dCall ZbM (daLend (pVar 0) (daLend (pVar 1) daNil))) daNil)) (tgN 2)) ZgF)
@[simp] theorem Zhl {s:Sl}:type_of% (show ZgH s = _ from Fs.sq_c):=Fs.sq_c
def law_k76_10:DS:=(dsRet (dAnd (dN (f2 eqD) [.v (dCall Zj (daCons (dRc 20 "told" (dCall Zf (daCons (dRc 36 "pieces" (dCall (mkF 36 Zb) (daCons (dFr (dF mkLst daNil)) daNil))) daNil))) daNil)),.v (dF mkTup daNil)]) (dN (f2 eqD) [.v (dCall Zi (daCons (dRc 36 "told" (dCall (mkF 36 Zb) (daCons (dFr (dF mkTup daNil)) daNil))) daNil)),.v (dF mkTup daNil)])))
@[simp] theorem ZgG {s:Sl}:type_of% (congrFun law_k76_10.eq_1 s):=congrFun law_k76_10.eq_1 s
def ZgI:DS:=(dsSeq (dsFor (diD itR (dN (f2 maxD) [.k (pC (.int 3)),.v (dN (f2 minD) [.v (dN (f1 lenD) [.k (pVar 0)]),.k (pC (.int 12))])])) (tgN 1) ZgH) law_k76_10)
@[simp] theorem Zln {s:Sl}:type_of% (show ZgI s = _ from Fs.sq_c):=Fs.sq_c
theorem Zf5:Zfl = ZgI:=of_eq_true (eq_self _)
end Lw
set_option maxHeartbeats 1000000
namespace Lw
namespace K76
open PySem PySem.Spec PyProof.Rows L2 Fs K77 K78
section
variable {s:Sl} {w w':Fl} {rs:List Sr}
theorem eqV_s {x:Str}:eqV (.str x) (.str x) = true:=by simp [eqV]
theorem eqV_n {x z:Str} (h:¬ x = z):eqV (.str x) (.str z) = false:=by simp [eqV,h]
theorem idx_lk {z:Str}:∀ {zs:List Str} {vs:List D},zs.length = vs.length → z ∈ zs → ∃ i v,idxV (.str z) (zs.map V.str) = some i ∧ vs[i]? = some v ∧ lkD (zs.map Sum.inr) vs (.inr z) = some v
  | [],vs,hl,h=>by cases h
  | x :: zs,[],hl,h=>by cases hl
  | x :: zs,v :: vs,hl,h=>by
    by_cases e:x = z
    · subst e
      exact ⟨0,v,by simp [idxV,eqV_s],rfl,by simp [lkD]⟩
    · have h2:z ∈ zs:=by
        rcases List.mem_cons.mp h with q | q
        · exact absurd q.symm e
        · exact q
      obtain ⟨i,v',q1,q2,q3⟩:=idx_lk (zs:=zs) (vs:=vs) (by simpa using hl) h2
      refine ⟨i + 1,v',?_,by simpa using q2,?_⟩
      · simp [idxV,q1,eqV_n e]
      · have ne:¬ (Sum.inr x:Key) = Sum.inr z:=fun q=>e (Sum.inr.inj q)
        simp only [List.map_cons,lkD,if_neg ne,q3]
theorem lk_no {z:Str}:∀ {zs:List Str} {vs:List D},z ∉ zs → lkD (zs.map Sum.inr) vs (.inr z) = none
  | [],vs,h=>by simp [lkD]
  | x :: zs,[],h=>by simp [lkD]
  | x :: zs,v :: vs,h=>by
    have ne:¬ (Sum.inr x:Key) = Sum.inr z:=fun q=>h (by rw [Sum.inr.inj q]; exact List.mem_cons_self)
    simp only [List.map_cons,lkD,if_neg ne]
    exact lk_no fun q=>h (List.mem_cons_of_mem _ q)
theorem ZeG {z:Str} {zs:List Str} {vs:List D} (hl:zs.length = vs.length):notinD (.v (.str z)) (.n (.dct (zs.map Sum.inr)) w vs) = some (.v (.bl (!decide (z ∈ zs)))):=by
  have e:=in_dct (z:=z) (ks:=zs.map Sum.inr) (w:=w) (xs:=vs)
  have e2:(lkD (zs.map Sum.inr) vs (.inr z)).isSome = decide (z ∈ zs):=by
    by_cases h:z ∈ zs
    · obtain ⟨i,v,_,_,q⟩:=idx_lk hl h
      simp [q,h]
    · simp [lk_no h,h]
  rw [e2] at e
  unfold inD at e
  unfold notinD
  cases hb:inB (.v (.str z)) (.n (.dct (zs.map Sum.inr)) w vs) with
  | none=>rw [hb] at e; cases e
  | some c =>
    rw [hb] at e
    simp only [Option.map_some,Option.some.injEq,D.v.injEq,V.bl.injEq] at e ⊢
    rw [e]
theorem Zjk {z:Str} {zs:List Str} {vs:List D} (hl:zs.length = vs.length) (h:z ∈ zs):∃ (i:Nat) (v:D),indexX [Lst D.str w zs,.v (.str z)] = some (.v (.int (i:Int))) ∧ vs[i]? = some v ∧ lkD (zs.map Sum.inr) vs (.inr z) = some v:=by
  obtain ⟨i,v,q1,q2,q3⟩:=idx_lk hl h
  refine ⟨i,v,?_,q2,q3⟩
  have vs:∀ zs:List Str,valsD (zs.map D.str) = some (zs.map V.str):=by
    intro zs
    induction zs with
    | nil=>rfl
    | cons x zs ih=>simp only [List.map_cons,valsD,ih]; rfl
  have:indexD [Lst D.str w zs,.v (.str z)] = some (.v (.int (i:Int))):=by
    simp only [indexD,Lst,Fs.seqL,Option.bind_some,vs,q1]
    rfl
  unfold indexX
  rw [this]
structure Tg (d:D):Prop where
  kept:d.kept = true
  str:(∃ z,d = .v (.str z)) ∨ isiD "str" d = some (.v (.bl false))
  same:sameF 20 d d = true
  bool:∃ b,isiD "bool" d = some (.v (.bl b))
theorem ZkX {z:Str} {v:D} (h:z ∈ rs.map Sr.nm) (e:lkD ((rs.map Sr.nm).map Sum.inr) (rs.map srD) (.inr z) = some v) (kv:v.kept = true):callK Zq [serD w rs,.v (.str z)] s = .ok v s:=Zv rfl (by
  have f1:fldD 36 "known" (serD w rs) = some (knD w rs):=rfl
  have n1:notinD (.v (.str z)) (knD w rs) = some (.v (.bl false)):=by
    have:=ZeG (w:=w) (z:=z) (zs:=rs.map Sr.nm) (vs:=rs.map srD) (by simp)
    rw [this,decide_eq_true h]
    rfl
  have i1:ixD (knD w rs) (.v (.str z)) = some v:=e
  generalize serD w rs = S at f1
  generalize knD w rs = K at f1 n1 i1
  simp [Z6,f1,n1,i1,kv,Option.filter])
theorem Ziv {z:Str} {v:D} (h:z ∈ pnA rs) (e:lkD (((hvA rs).map Prod.fst).map Sum.inr) ((hvA rs).map hvE) (.inr z) = some v) (kv:v.kept = true):callK Zn [serD w rs,.v (.str z)] s = .ok v s:=Zv rfl (by
  have f1:fldD 36 "held" (serD w rs) = some (hdD w (hvA rs)):=rfl
  have n1:notinD (.v (.str z)) (hdD w (hvA rs)) = some (.v (.bl false)):=by
    have:=ZeG (w:=w) (z:=z) (zs:=(hvA rs).map Prod.fst) (vs:=(hvA rs).map hvE) (by simp)
    rw [this,Zch,decide_eq_true h]
    rfl
  have i1:ixD (hdD w (hvA rs)) (.v (.str z)) = some v:=e
  generalize serD w rs = S at f1
  generalize hdD w (hvA rs) = K at f1 n1 i1
  simp [ZR,f1,n1,i1,kv,Option.filter])
theorem row_no {d:D} (t:Tg d) (h:∀ z,d = .v (.str z) → z ∉ rs.map Sr.nm):callK Zq [serD w rs,d] s = .exc 3 [d] s:=by
  have f1:fldD 36 "known" (serD w rs) = some (knD w rs):=rfl
  have hk:Option.filter D.kept (some d) = some d:=by simp [Option.filter,t.kept]
  refine Zjv (s':=[some (serD w rs),some d]) rfl ?_
  rcases t.str with ⟨z,rfl⟩ | hs
  · have n1:notinD (.v (.str z)) (knD w rs) = some (.v (.bl true)):=by
      have:=ZeG (w:=w) (z:=z) (zs:=rs.map Sr.nm) (vs:=rs.map srD) (by simp)
      rw [this,decide_eq_false (h z rfl)]
      rfl
    generalize serD w rs = S at f1
    generalize knD w rs = K at f1 n1
    simp [Z6,f1,n1,hk]
  · generalize serD w rs = S at f1
    simp [Z6,hs,hk]
theorem ZjI {d:D} (t:Tg d) (h:∀ z,d = .v (.str z) → z ∉ pnA rs):callK Zn [serD w rs,d] s = .exc 3 [d] s:=by
  have f1:fldD 36 "held" (serD w rs) = some (hdD w (hvA rs)):=rfl
  have hk:Option.filter D.kept (some d) = some d:=by simp [Option.filter,t.kept]
  refine Zjv (s':=[some (serD w rs),some d]) rfl ?_
  rcases t.str with ⟨z,rfl⟩ | hs
  · have n1:notinD (.v (.str z)) (hdD w (hvA rs)) = some (.v (.bl true)):=by
      have:=ZeG (w:=w) (z:=z) (zs:=(hvA rs).map Prod.fst) (vs:=(hvA rs).map hvE) (by simp)
      rw [this,Zch,decide_eq_false (h z rfl)]
      rfl
    generalize serD w rs = S at f1
    generalize hdD w (hvA rs) = K at f1 n1
    simp [ZR,f1,n1,hk]
  · generalize serD w rs = S at f1
    simp [ZR,hs,hk]
def toldT (v:D):D:=.n .tup .shr [.v (.str (Str.ofString "told")),v]
def noneT (d:D):D:=.n .tup .shr [.v (.str (Str.ofString "none")),d]
theorem ZlU {d v:D} (hw:w ≠ .own) (hd:lend d = d) (kv:v.kept = true) (h0:∀ s,callK Zq [serD w rs,d] s = .ok v s):callK ZH [serD w rs,.v (.int 0),d] s = .ok (toldT v) s:=Zv rfl (by
  rw [Zbn]
  have r1:rcD 36 "row" (serD w rs) = some (serD w rs):=rfl
  have l1:=Zb8 (rs:=rs) hw
  have m1:mkTup [.v (.str (Str.ofString "told")),v] = some (toldT v):=by simp [mkTup,Zbs kv,toldT]
  generalize serD w rs = S at h0 r1 l1
  simp [pRc,r1,l1,hd,h0,m1]
  simp [dMv,toldT,D.free])
theorem ZlT {d v:D} (hw:w ≠ .own) (hd:lend d = d) (kv:v.kept = true) (h0:∀ s,callK Zn [serD w rs,d] s = .ok v s):callK ZH [serD w rs,.v (.int 1),d] s = .ok (toldT v) s:=Zv rfl (by
  rw [Zbn]
  have r1:rcD 36 "whose" (serD w rs) = some (serD w rs):=rfl
  have l1:=Zb8 (rs:=rs) hw
  have m1:mkTup [.v (.str (Str.ofString "told")),v] = some (toldT v):=by simp [mkTup,Zbs kv,toldT]
  generalize serD w rs = S at h0 r1 l1
  simp [pRc,r1,l1,hd,h0,m1]
  simp [dMv,toldT,D.free])
theorem Zky {d:D} (hw:w ≠ .own) (t:Tg d) (h0:∀ s,callK Zq [serD w rs,d] s = .exc 3 [d] s):callK ZH [serD w rs,.v (.int 0),d] s = .ok (noneT d) s:=Zv rfl (by
  rw [Zbn]
  have r1:rcD 36 "row" (serD w rs) = some (serD w rs):=rfl
  have l1:=Zb8 (rs:=rs) hw
  have hd:=Zbh t.kept
  have hk:=t.kept
  have m1:mkTup [.v (.str (Str.ofString "none")),d] = some (noneT d):=by simp [mkTup,Zbs hk,noneT]
  have hf:Option.filter D.kept (some d) = some d:=by simp [Option.filter,hk]
  generalize serD w rs = S at h0 r1 l1
  simp [pRc,r1,l1,hd,h0]
  rw [ZhB rfl (by simp [hk])]
  simp [pick,okI,wipeI,Out.behind,dL,lCons,hf,m1]
  simp [dMv,noneT,D.free])
theorem Zkx {d:D} (hw:w ≠ .own) (t:Tg d) (h0:∀ s,callK Zn [serD w rs,d] s = .exc 3 [d] s):callK ZH [serD w rs,.v (.int 1),d] s = .ok (noneT d) s:=Zv rfl (by
  rw [Zbn]
  have r1:rcD 36 "whose" (serD w rs) = some (serD w rs):=rfl
  have l1:=Zb8 (rs:=rs) hw
  have hd:=Zbh t.kept
  have hk:=t.kept
  have m1:mkTup [.v (.str (Str.ofString "none")),d] = some (noneT d):=by simp [mkTup,Zbs hk,noneT]
  have hf:Option.filter D.kept (some d) = some d:=by simp [Option.filter,hk]
  generalize serD w rs = S at h0 r1 l1
  simp [pRc,r1,l1,hd,h0]
  rw [ZhB rfl (by simp [hk])]
  simp [pick,okI,wipeI,Out.behind,dL,lCons,hf,m1]
  simp [dMv,noneT,D.free])
end
end K76
end Lw
set_option maxHeartbeats 1000000
namespace Lw
namespace K76
open PySem PySem.Spec PyProof.Rows L2 Fs K77 K78
section
variable {s:Sl} {w w':Fl} {rs:List Sr}
theorem ZiS {v:D} (h:sameF 20 v v = true):neM (toldT v) (toldT v) = some (.v (.bl false)):=K11.ne_same fun x hx=>by
  rcases List.mem_cons.mp hx with rfl | hx
  · decide
  · rw [List.mem_singleton.mp hx]; exact h
theorem ZiT {v:D} (h:sameF 20 v v = true):neM (noneT v) (noneT v) = some (.v (.bl false)):=K11.ne_same fun x hx=>by
  rcases List.mem_cons.mp hx with rfl | hx
  · decide
  · rw [List.mem_singleton.mp hx]; exact h
structure Vok (v:D):Prop where
  k:v.kept = true
  s:sameF 20 v v = true
  b:isiD "bool" v = some (.v (.bl false))
theorem vok_sr {r:Sr}:Vok (srD r):=⟨rfl,by simp [sameF,boxE,allE,scE],rfl⟩
theorem vok_hv {p:Str × Str × Nat}:Vok (hvE p):=⟨rfl,by simp [hvE,sameF,boxE,allE,scE],rfl⟩
theorem Zi9 {ρ:Type} {enc:ρ → D} {xs:List ρ} {i:Nat} {v:D} (h:(xs.map enc)[i]? = some v) (hk:v.kept = true):ixK (Lst enc w xs) (.v (.int (i:Int))) = some v:=by
  have hi:=(List.getElem?_eq_some_iff.mp h).1
  have e:ixN (xs.map enc).length (i:Int) = some i:=by
    unfold ixN
    rw [if_pos (by omega),if_pos (by omega)]
    simp
  have:ixD (Lst enc w xs) (.v (.int (i:Int))) = some v:=by
    simp only [Lst,ixD]
    unfold L2.atI
    rw [e,Option.bind_some,h]
  unfold ixK
  rw [this]
  simp [Option.filter,hk]
theorem last_c {S R d N P Q o:D} {x4 x6 x8 x9:Option D} (hn:neM o o = some (.v (.bl false))) {b:Bool} (h1:(ixD o (.v (.int 1))).bind (isiD "bool") = some (.v (.bl b))) :
    L_law_one_right_12 [some S,some R,some d,some N,x4,some P,x6,some Q,x8,x9,some o,some o] = .ok .nx [some S,some R,some d,some N,x4,some P,x6,some Q,x8,x9,some o,some o]:=by
  obtain ⟨v,e1,e2⟩:=Option.bind_eq_some_iff.mp h1
  have nb:∀ b:Bool,neM (.v (.bl b)) (.v (.bl b)) = some (.v (.bl false)):=fun b=>by cases b <;> rfl
  simp [hn,e1,e2,nb]
def BodyP (S R d N P Q:D) (x4 x6 x8:Option D) (f:Fs.Flow) (s:Sl):Prop:=f = .nx ∧ ∃ y9 y10 y11,s = [some S,some R,some d,some N,x4,some P,x6,some Q,x8,y9,y10,y11]
theorem body_0 {d:D} {x4 x6 x8 x10 x11:Option D} (hw:w ≠ .own) (t:Tg d):sat (ZbD [some (serD w rs),some (Lst srD w' rs),some d,some (Lst D.str .own (rs.map Sr.nm)),x4,some (Lst D.str .own (pnA rs)),x6,some (Lst hvE .own (hvA rs)),x8,some (.v (.int 0)),x10,x11]) (BodyP (serD w rs) (Lst srD w' rs) d (Lst D.str .own (rs.map Sr.nm)) (Lst D.str .own (pnA rs)) (Lst hvE .own (hvA rs)) x4 x6 x8):=by
  have hk:=t.kept
  have hd:=Zbh hk
  have hf:Option.filter D.kept (some d) = some d:=by simp [Option.filter,hk]
  have l1:=Zb8 (rs:=rs) hw
  have mN:mkTup [.v (.str (Str.ofString "none")),d] = some (noneT d):=by simp [mkTup,Zbs hk,noneT]
  have e00:eqM (.v (.int 0)) (.v (.int 0)) = some (.v (.bl true)):=rfl
  have e01:eqM (.v (.int 0)) (.v (.int 1)) = some (.v (.bl false)):=rfl
  by_cases hit:∃ z,d = .v (.str z) ∧ z ∈ rs.map Sr.nm
  · obtain ⟨z,rfl,hz⟩:=hit
    obtain ⟨i,v,q1,q2,q3⟩:=Zjk (w:=.own) (zs:=rs.map Sr.nm) (vs:=rs.map srD) (by simp) hz
    have hv:Vok v:=by
      obtain ⟨r,_,rfl⟩:=List.mem_map.mp (List.mem_of_getElem? q2)
      exact vok_sr
    have ask:=fun s=>ZlU (s:=s) (rs:=rs) (w:=w) hw hd hv.k fun s=>ZkX hz q3 hv.k
    have is1:isiD "str" (.v (.str z)) = some (.v (.bl true)):=rfl
    have in1:inD (.v (.str z)) (Lst D.str .own (rs.map Sr.nm)) = some (.v (.bl true)):=by rw [in_kn,decide_eq_true hz]
    have ty1:tyF "list" (Lst D.str .own (rs.map Sr.nm)) = some (Lst D.str .own (rs.map Sr.nm)):=rfl
    have ix1:ixK (Lst srD w' rs) (.v (.int (i:Int))) = some v:=Zi9 q2 hv.k
    have mT:mkTup [.v (.str (Str.ofString "told")),v] = some (toldT v):=by simp [mkTup,Zbs hv.k,toldT]
    have la:=fun S R N P Q x9=>last_c (S:=S) (R:=R) (d:=.v (.str z)) (N:=N) (P:=P) (Q:=Q) (x4:=x4) (x6:=x6) (x8:=x8) (x9:=x9) (ZiS hv.s) (b:=false) hv.b
    generalize serD w rs = S at l1 ask
    generalize Lst srD w' rs = R at ix1
    generalize Lst D.str .own (rs.map Sr.nm) = N at in1 q1 ty1
    generalize Lst D.str .own (pnA rs) = P
    generalize Lst hvE .own (hvA rs) = Q
    simp [-ZK,hf,mN,e00,e01,is1,in1,ty1,q1,ix1,mT,l1,hd,ask,la]
    exact ⟨rfl,_,_,_,rfl⟩
  · have hno:∀ z,d = .v (.str z) → z ∉ rs.map Sr.nm:=fun z e h=>hit ⟨z,e,h⟩
    have ask:=fun s=>Zky (s:=s) (rs:=rs) (w:=w) hw t fun s=>row_no t hno
    obtain ⟨b,hb⟩:=t.bool
    have la:=fun S R N P Q x9=>last_c (S:=S) (R:=R) (d:=d) (N:=N) (P:=P) (Q:=Q) (x4:=x4) (x6:=x6) (x8:=x8) (x9:=x9) (ZiT t.same) (b:=b) hb
    have cond:(isiD "str" d = some (.v (.bl false))) ∨ (isiD "str" d = some (.v (.bl true)) ∧ inD d (Lst D.str .own (rs.map Sr.nm)) = some (.v (.bl false))):=by
      rcases t.str with ⟨z,rfl⟩ | h
      · exact .inr ⟨rfl,by rw [in_kn,decide_eq_false (hno z rfl)]⟩
      · exact .inl h
    generalize serD w rs = S at l1 ask
    generalize Lst srD w' rs = R
    generalize Lst D.str .own (rs.map Sr.nm) = N at cond
    generalize Lst D.str .own (pnA rs) = P
    generalize Lst hvE .own (hvA rs) = Q
    rcases cond with is1 | ⟨is1,in1⟩
    · simp [-ZK,hf,mN,e00,e01,is1,l1,hd,ask,la]
      exact ⟨rfl,_,_,_,rfl⟩
    · simp [-ZK,hf,mN,e00,e01,is1,in1,l1,hd,ask,la]
      exact ⟨rfl,_,_,_,rfl⟩
theorem body_1 {d:D} {x4 x6 x8 x10 x11:Option D} (hw:w ≠ .own) (t:Tg d):sat (ZbD [some (serD w rs),some (Lst srD w' rs),some d,some (Lst D.str .own (rs.map Sr.nm)),x4,some (Lst D.str .own (pnA rs)),x6,some (Lst hvE .own (hvA rs)),x8,some (.v (.int 1)),x10,x11]) (BodyP (serD w rs) (Lst srD w' rs) d (Lst D.str .own (rs.map Sr.nm)) (Lst D.str .own (pnA rs)) (Lst hvE .own (hvA rs)) x4 x6 x8):=by
  have hk:=t.kept
  have hd:=Zbh hk
  have hf:Option.filter D.kept (some d) = some d:=by simp [Option.filter,hk]
  have l1:=Zb8 (rs:=rs) hw
  have mN:mkTup [.v (.str (Str.ofString "none")),d] = some (noneT d):=by simp [mkTup,Zbs hk,noneT]
  have e00:eqM (.v (.int 1)) (.v (.int 0)) = some (.v (.bl false)):=rfl
  have e01:eqM (.v (.int 1)) (.v (.int 1)) = some (.v (.bl true)):=rfl
  by_cases hit:∃ z,d = .v (.str z) ∧ z ∈ pnA rs
  · obtain ⟨z,rfl,hz⟩:=hit
    have hlen:(pnA rs).length = ((hvA rs).map hvE).length:=by rw [List.length_map,← Zch,List.length_map]
    obtain ⟨i,v,q1,q2,q3⟩:=Zjk (w:=.own) (zs:=pnA rs) (vs:=(hvA rs).map hvE) hlen hz
    have hv:Vok v:=by
      obtain ⟨r,_,rfl⟩:=List.mem_map.mp (List.mem_of_getElem? q2)
      exact vok_hv
    have ask:=fun s=>ZlT (s:=s) (rs:=rs) (w:=w) hw hd hv.k fun s=>Ziv hz (by rw [Zch]; exact q3) hv.k
    have is1:isiD "str" (.v (.str z)) = some (.v (.bl true)):=rfl
    have in1:inD (.v (.str z)) (Lst D.str .own (pnA rs)) = some (.v (.bl true)):=by rw [in_kn,decide_eq_true hz]
    have ty1:tyF "list" (Lst D.str .own (pnA rs)) = some (Lst D.str .own (pnA rs)):=rfl
    have ix1:ixK (Lst hvE .own (hvA rs)) (.v (.int (i:Int))) = some v:=Zi9 q2 hv.k
    have mT:mkTup [.v (.str (Str.ofString "told")),v] = some (toldT v):=by simp [mkTup,Zbs hv.k,toldT]
    have la:=fun S R N P Q x9=>last_c (S:=S) (R:=R) (d:=.v (.str z)) (N:=N) (P:=P) (Q:=Q) (x4:=x4) (x6:=x6) (x8:=x8) (x9:=x9) (ZiS hv.s) (b:=false) hv.b
    generalize serD w rs = S at l1 ask
    generalize Lst srD w' rs = R
    generalize Lst D.str .own (rs.map Sr.nm) = N
    generalize Lst D.str .own (pnA rs) = P at in1 q1 ty1
    generalize Lst hvE .own (hvA rs) = Q at ix1
    simp [-ZK,hf,mN,e00,e01,is1,in1,ty1,q1,ix1,mT,l1,hd,ask,la]
    exact ⟨rfl,_,_,_,rfl⟩
  · have hno:∀ z,d = .v (.str z) → z ∉ pnA rs:=fun z e h=>hit ⟨z,e,h⟩
    have ask:=fun s=>Zkx (s:=s) (rs:=rs) (w:=w) hw t fun s=>ZjI t hno
    obtain ⟨b,hb⟩:=t.bool
    have la:=fun S R N P Q x9=>last_c (S:=S) (R:=R) (d:=d) (N:=N) (P:=P) (Q:=Q) (x4:=x4) (x6:=x6) (x8:=x8) (x9:=x9) (ZiT t.same) (b:=b) hb
    have cond:(isiD "str" d = some (.v (.bl false))) ∨ (isiD "str" d = some (.v (.bl true)) ∧ inD d (Lst D.str .own (pnA rs)) = some (.v (.bl false))):=by
      rcases t.str with ⟨z,rfl⟩ | h
      · exact .inr ⟨rfl,by rw [in_kn,decide_eq_false (hno z rfl)]⟩
      · exact .inl h
    generalize serD w rs = S at l1 ask
    generalize Lst srD w' rs = R
    generalize Lst D.str .own (rs.map Sr.nm) = N
    generalize Lst D.str .own (pnA rs) = P at cond
    generalize Lst hvE .own (hvA rs) = Q
    rcases cond with is1 | ⟨is1,in1⟩
    · simp [-ZK,hf,mN,e00,e01,is1,l1,hd,ask,la]
      exact ⟨rfl,_,_,_,rfl⟩
    · simp [-ZK,hf,mN,e00,e01,is1,in1,l1,hd,ask,la]
      exact ⟨rfl,_,_,_,rfl⟩
theorem Zhb {d:D} (hw:w ≠ .own) (hw':w' ≠ .own) (h:SerOk rs) (t:Tg d):callK Z5 [serD w rs,Lst srD w' rs,d] s = .ok (.v (.bl true)) s:=Zv rfl (by
  rw [Zds]
  have hm:mkLst [] = some (Lst hvE .own []):=rfl
  have hlen:(pcA rs).length ≤ 30:=by rw [ZdH]; exact h.len
  have hrs:=rs_len h
  have e1:∀ s,callK Zd [Lst srD w' rs] s = .ok (Lst rowD .own (pcA rs)) s:=fun s=>ZeQ hw' (fun q hq=>⟨by have:=(h.ok q hq).t0; omega,by have:=(h.ok q hq).t1; omega,by have:=(h.ok q hq).n6; omega⟩) (by omega)
  have lw:lend (Lst srD w' rs) = Lst srD w' rs:=by
    cases w' with
    | own=>exact absurd rfl hw'
    | shr=>rfl
    | bor=>simp [Lst]
  have it1:itA true (Lst srD w' rs) = some (rs.map srD):=itA_LJ
  have it2:itA false (Lst srD w' rs) = some (rs.map srD):=by
    simp only [Lst,itA]
    rw [if_pos ⟨Zbm rs,.inr hw'⟩]
  have it3:itA true (Lst rowD .own (pcA rs)) = some ((pcA rs).map rowD):=itA_LJ
  have i2:=itR_I (i:=2) (by omega) (by omega)
  have b0:=fun x4 x6 x8 x10 x11=>body_0 (w:=w) (w':=w') (rs:=rs) (d:=d) (x4:=x4) (x6:=x6) (x8:=x8) (x10:=x10) (x11:=x11) hw t
  have b1:=fun x4 x6 x8 x10 x11=>body_1 (w:=w) (w':=w') (rs:=rs) (d:=d) (x4:=x4) (x6:=x6) (x8:=x8) (x10:=x10) (x11:=x11) hw t
  generalize serD w rs = S at b0 b1
  generalize Lst srD w' rs = R at e1 lw it1 it2 b0 b1
  simp only [List.map_cons,List.map_nil]
  simp [-ZdW]
  refine sat_cm (out:=D.str) srD rs Sr.nm (by simp [diP,it1]) rfl (fun r hr=>?_) (by omega) ?_
  · have i0:ixD (srD r) (.v (.int 0)) = some (.v (.str r.nm)):=rfl
    generalize srD r = X at i0
    simp [i0]
  simp [-ZdV]
  refine sat_cm (out:=D.str) rowD (pcA rs) Row.nm (by simp [diD,lw,e1,it3]) rfl (fun r hr=>?_) (by omega) ?_
  · have i0:ixD (rowD r) (.v (.int 0)) = some (.v (.str r.nm)):=rfl
    generalize rowD r = X at i0
    simp [i0]
  simp only [List.set_cons_succ,List.set_cons_zero,pcA_nm]
  simp [hm,diP,it2,-ZdU,-ZdT]
  generalize Lst D.str .own (rs.map Sr.nm) = N at b0 b1
  generalize Lst D.str .own (pnA rs) = P at b0 b1
  refine ZbY (enc:=srD) (I:=fun pre s=>∃ x4,s = [some S,some R,some d,some N,x4,some P,none,some (Lst hvE .own (hvA pre)),none,none,none,none]) (fun pre q post s hp hI=>?_) ⟨_,rfl⟩ (fun s hI=>?_)
  · obtain ⟨x4,rfl⟩:=hI
    refine ⟨[some S,some R,some d,some N,some (srD q),some P,none,some (Lst hvE .own (hvA pre)),none,none,none,none],rfl,?_⟩
    have hq:=h.ok q (by rw [hp]; simp)
    have h0:=hq.t0
    have h1:=hq.t1
    have i0:ixD (srD q) (.v (.int 0)) = some (.v (.str q.nm)):=rfl
    have i5:ixD (srD q) (.v (.int 5)) = some (.v (.int q.t)):=rfl
    have hl:(hvA pre).length + (hv q).length ≤ 100000:=by
      have hh:=h.len
      rw [← Zch,List.length_map,hp] at hh
      simp only [hvA,List.flatMap_append,List.flatMap_cons,List.length_append] at hh ⊢
      omega
    have ir:=itR_I (i:=q.t) (by omega) (by omega)
    have ea:hvA (pre ++ [q]) = hvA pre ++ hv q:=by simp [hvA]
    generalize srD q = X at i0 i5
    simp
    refine Zg3 (w:=.own) (xs:=hvA pre) (ys:=hv q) rfl ?_ hl ?_
    · refine sat_cm (out:=hvE) natE (List.range q.t.toNat) (fun k=>(pN q k,q.nm,k)) (by simp [diD,i5,ir]) rfl (fun k hk=>?_) (by simp; omega) ?_
      · have mt:mkTup [.v (.str q.nm),.v (.int (k:Int))] = some (hvE (pN q k,q.nm,k)):=rfl
        simp [natE,i0,mt]
      · exact ⟨rfl,rfl⟩
    · simp [ea]
  · obtain ⟨x4,rfl⟩:=hI
    simp [diD,i2,-ZdS]
    generalize Lst hvE .own (hvA rs) = Q at b0 b1
    refine ZbY (enc:=natE) (I:=fun pre s=>∃ y9 y10 y11,s = [some S,some R,some d,some N,x4,some P,none,some Q,none,y9,y10,y11]) (fun pre k post s hp hI=>?_) ⟨_,_,_,rfl⟩ (fun s hI=>?_)
    · obtain ⟨y9,y10,y11,rfl⟩:=hI
      have hk:k = 0 ∨ k = 1:=by
        have:k ∈ List.range 2:=by rw [hp]; simp
        have:=List.mem_range.mp this
        omega
      refine ⟨[some S,some R,some d,some N,x4,some P,none,some Q,none,some (.v (.int (k:Int))),y10,y11],rfl,?_⟩
      rcases hk with rfl | rfl
      · refine Zg (b0 x4 none none y10 y11) ?_
        rintro f s ⟨rfl,z9,z10,z11,rfl⟩
        exact ⟨z9,z10,z11,rfl⟩
      · refine Zg (b1 x4 none none y10 y11) ?_
        rintro f s ⟨rfl,z9,z10,z11,rfl⟩
        exact ⟨z9,z10,z11,rfl⟩
    · obtain ⟨y9,y10,y11,rfl⟩:=hI
      simp)
end
end K76
end Lw
set_option maxHeartbeats 1000000
namespace Lw
namespace K76
open PySem PySem.Spec PyProof.Rows L2 Fs K77 K78
def srP7 (r:Sr):PyData:=.tuple [.str r.nm,.int r.a,.int r.w,.int r.l,.int r.e,.int r.t]
theorem ZiJ:∀ rs:List Sr,pds (rs.map srD) = some (rs.map srP7)
  | []=>rfl
  | r :: rs=>by
    have ih:=ZiJ rs
    simp [pds,pd,ih,srP7]
theorem nm_ok {z:Str} (h:nameB z.cps.toList = true):okS z:=fun c hc=>by have:=K04.name_small h c hc; omega
theorem Zi5:∀ rs:List Sr,(∀ r ∈ rs,SrOk r) → PyData.canLayAll0 (rs.map srP7) = true ∧ PyData.depthAll (rs.map srP7) ≤ 2
  | [],_=>⟨rfl,by simp [PyData.depthAll]⟩
  | r :: rs,h=>by
    obtain ⟨h1,h2⟩:=Zi5 rs fun q hq=>h q (List.mem_cons_of_mem _ hq)
    have h3:PyData.strOk r.nm = true:=ZfL (nm_ok (h r List.mem_cons_self).nm)
    refine ⟨by simp [PyData.canLayAll0,PyData.canLay0,srP7,h1,h3],?_⟩
    simp [PyData.depthAll,PyData.depth,srP7]
    omega
theorem Zj8 {d:D} {p:PyData} (h:pd d = some p) (hs:SeqAt.shaped p = true):neD d d = some (.v (.bl false)):=by
  rw [neD_of h h hs hs]
  have hc:p.canLay0 = true:=by
    unfold SeqAt.shaped at hs
    simp only [Bool.and_eq_true] at hs
    exact hs.1
  rw [SeqAt.eqv_refl p hc]
  rfl
theorem ZiR {rs:List Sr} (hr:SerOk rs):neD (Tpl srD rs) (Tpl srD rs) = some (.v (.bl false)):=by
  obtain ⟨h1,h2⟩:=Zi5 rs hr.ok
  refine Zj8 (p:=.tuple (rs.map srP7)) (by simp [Tpl,pd,ZiJ]) ?_
  simp [SeqAt.shaped,PyData.canLay0,h1,PyData.depth]
  omega
theorem tg_s {z:Str}:Tg (atE (.s z)):=⟨rfl,.inl ⟨z,rfl⟩,by simp [atE,sameF,scE],⟨false,rfl⟩⟩
def tgB (d:D):Bool:=d.kept && (sameF 20 d d && ((match isiD "bool" d with | some (.v (.bl _))=>true | _=>false) && (match d with | .v (.str _)=>true | _=>(match isiD "str" d with | some (.v (.bl false))=>true | _=>false))))
theorem tg_of {d:D} (h:tgB d = true):Tg d:=by
  unfold tgB at h
  simp only [Bool.and_eq_true] at h
  obtain ⟨h1,h2,h3,h4⟩:=h
  refine ⟨h1,?_,h2,?_⟩
  · split at h4
    · exact .inl ⟨_,rfl⟩
    · split at h4
      · rename_i e; exact .inr e
      · cases h4
  · split at h3
    · rename_i b e; exact ⟨b,e⟩
    · cases h3
theorem tg_all:(thA.all fun a=>tgB (atE a)) = true:=by decide +kernel
theorem tg_th {a:At} (h:a ∈ thA):Tg (atE a):=tg_of (by simpa using List.all_eq_true.mp tg_all a h)
def aL:At:=.o ⟨.n .lst .shr [.v (.str (Str.ofString "a"))],rfl⟩
theorem tg_aL:Tg (atE aL):=tg_of (by decide +kernel)
section
variable {w w':Fl} {rs:List Sr}
def RtP (y:D) (ios:Sl):Prop:=y = .bl true ∧ ∃ d',ios = [some d',none,none] ∧ IsBox d'
theorem Zgm {d:D} (hd:IsBox d) (hw:w ≠ .own) (hw':w' ≠ .own) (h:SerOk rs):sat (ZM [d,serD w rs,Lst srD w' rs]) RtP:=by
  refine sat_F' rfl ?_
  show sat (ZbI [some d,some (serD w rs),some (Lst srD w' rs),none,none,none,none,none]) _
  rw [Zdz]
  have hlen:(pcA rs).length ≤ 30:=by rw [ZdH]; exact h.len
  have hrs:=rs_len h
  have e1:∀ s,callK Zd [Lst srD w' rs] s = .ok (Lst rowD .own (pcA rs)) s:=fun s=>ZeQ hw' (fun q hq=>⟨by have:=(h.ok q hq).t0; omega,by have:=(h.ok q hq).t1; omega,by have:=(h.ok q hq).n6; omega⟩) (by omega)
  have lw:lend (Lst srD w' rs) = Lst srD w' rs:=by
    cases w' with
    | own=>exact absurd rfl hw'
    | shr=>rfl
    | bor=>simp [Lst]
  have it1:itA true (Lst srD w' rs) = some (rs.map srD):=itA_LJ
  have it3:itA true (Lst rowD .own (pcA rs)) = some ((pcA rs).map rowD):=itA_LJ
  have l1:=Zb8 (rs:=rs) hw
  have r1:rcD 36 "told" (serD w rs) = some (serD w rs):=rfl
  have r2:rcD 36 "names" (serD w rs) = some (serD w rs):=rfl
  have r3:rcD 36 "pieces" (serD w rs) = some (serD w rs):=rfl
  have tS:=fun s=>told_S (s:=s) (w:=w) (rs:=rs)
  have nS:=fun s=>Zlh (s:=s) (w:=w) (rs:=rs)
  have pS:=fun s=>ZfT (s:=s) (w:=w) h
  have oS:=fun s=>ZfG (s:=s) hw' h
  have one:=fun s d t=>Zhb (s:=s) (d:=d) hw hw' h t
  have tp:tupD (Lst srD w' rs) = some (Tpl srD rs):=ZeO
  have nx:=ZiR h
  have is1:isiD "tuple" (Tpl srD rs) = some (.v (.bl true)):=rfl
  have is2:isiD "list" (Lst D.str .own (rs.map Sr.nm)) = some (.v (.bl true)):=rfl
  have okN:∀ z ∈ rs.map Sr.nm,okS z:=fun z hz=>by
    obtain ⟨r,hr,rfl⟩:=List.mem_map.mp hz
    exact nm_ok (h.ok r hr).nm
  have nN:neD (Lst D.str .own (rs.map Sr.nm)) (Lst D.str .own (rs.map Sr.nm)) = some (.v (.bl false)):=by
    rw [ne_Lst okN okN]; simp
  have iso:isoD [(20,true)] (Pcs .own (srt (pcA rs))) = some (.v (.bl true)):=rfl
  have rcP:rcD 20 "told" (Pcs .own (srt (pcA rs))) = some (Pcs .own (srt (pcA rs))):=rfl
  have tlP:=fun s=>told_P (s:=s) (w:=.own) (rs:=srt (pcA rs))
  have tpR:tupD (Lst rowD .own (srt (pcA rs))) = some (Tpl rowD (srt (pcA rs))):=ZeO
  have okR:∀ r ∈ srt (pcA rs),okS r.nm:=fun r hr=>nm_ok ((srt_ok (pcA_ok h)).ok r hr).nm
  have eqR:eqD (Tpl rowD (srt (pcA rs))) (Tpl rowD (srt (pcA rs))) = some (.v (.bl true)):=by
    rw [ZlI okR okR]; simp
  generalize Pcs .own (srt (pcA rs)) = PO at pS iso rcP tlP
  generalize Tpl rowD (srt (pcA rs)) = TR at tlP tpR eqR
  generalize Lst rowD .own (srt (pcA rs)) = LR at oS tpR
  generalize Tpl srD rs = TS at tS tp nx is1
  generalize serD w rs = S at l1 r1 r2 r3 tS nS pS one
  generalize Lst srD w' rs = R at e1 lw it1 oS one tp
  have cN:∀ x0 x3 x5 x6 x7:Option D,dComp true [4] (diP (itA true) (pVar 2)) (tgN 4) dtYes (dP (pOp ixD (pVar 4) (pC (.int 0)))) [x0,some S,some R,x3,none,x5,x6,x7] = .ok (Lst D.str .own (rs.map Sr.nm)) [x0,some S,some R,x3,none,x5,x6,x7]:=fun x0 x3 x5 x6 x7 =>
    of_sat (sat_cm (keep:=true) (i:=4) (out:=D.str) (Q:=fun a s'=>a = _ ∧ s' = _) srD rs Sr.nm (by simp [diP,it1]) rfl (fun r hr=>by
      have i0:ixD (srD r) (.v (.int 0)) = some (.v (.str r.nm)):=rfl
      generalize srD r = X at i0
      simp [i0]) (by omega) ⟨rfl,rfl⟩)
  have cP:∀ x0 x3 x4 x5 x7:Option D,dComp true [6] (diD (itA true) (dCall Zd (daLend (pVar 2) daNil))) (tgN 6) dtYes (dP (pOp ixD (pVar 6) (pC (.int 0)))) [x0,some S,some R,x3,x4,x5,none,x7] = .ok (Lst D.str .own (pnA rs)) [x0,some S,some R,x3,x4,x5,none,x7]:=fun x0 x3 x4 x5 x7 =>
    of_sat (by
      rw [← pcA_nm]
      exact sat_cm (keep:=true) (i:=6) (out:=D.str) (Q:=fun a s'=>a = _ ∧ s' = _) rowD (pcA rs) Row.nm (by simp [diD,lw,e1,it3]) rfl (fun r hr=>by
        have i0:ixD (rowD r) (.v (.int 0)) = some (.v (.str r.nm)):=rfl
        generalize rowD r = X at i0
        simp [i0]) (by omega) ⟨rfl,rfl⟩)
  have app:∀ x0 x4 x5 x6 x7:Option D,dApp 3 (dP (pC (.str (Str.ofString "late")))) [x0,some S,some R,some (Lst D.str .own (rs.map Sr.nm)),x4,x5,x6,x7] = .ok .non [x0,some S,some R,some (Lst D.str .own (rs.map Sr.nm ++ [Str.ofString "late"])),x4,x5,x6,x7]:=fun x0 x4 x5 x6 x7 =>
    of_sat (Zdv (enc:=D.str) (xs:=rs.map Sr.nm) (Q:=fun a s'=>a = _ ∧ s' = _) (Str.ofString "late") rfl (by simp) (by simp; omega) ⟨rfl,rfl⟩)
  have ad:addA (Lst D.str .own (rs.map Sr.nm)) (Lst D.str .own (pnA rs)) = some (Lst D.str .own (rs.map Sr.nm ++ pnA rs)):=Zhv (by have:=h.len; simp; omega)
  simp [pRc,r1,r2,l1,tS,nS,tp,nx,is1,is2,-Zeg]
  simp [pRc,r2,l1,nS,cN,nN,-Zef]
  simp [app,cN,cP,ad,-Zee]
  simp [diD,hd.free,-ZbX,-ZbW]
  refine Zg (Zgg hd) ?_
  rintro _ _ ⟨a1,d1,rfl,h1,b1,rfl⟩
  simp [b1.free,-ZbX,-ZbW]
  refine Zg (Zgg b1) ?_
  rintro _ _ ⟨a2,d2,rfl,h2,b2,rfl⟩
  have ts:Lst D.str .own (rs.map Sr.nm ++ pnA rs) = Lst atE .own ((rs.map Sr.nm ++ pnA rs).map At.s):=by
    unfold Lst
    rw [List.map_map]
    rfl
  have mA:mkLst [D.v (.str (Str.ofString "a"))] = some (.n .lst .own [.v (.str (Str.ofString "a"))]):=rfl
  have mL:mkLst [atE a1,atE a2,.v (.str (Str.ofString "zzzzz9")),.n .lst .own [.v (.str (Str.ofString "a"))],.v (.str (Str.ofString "a0"))] = some (Lst atE .own [a1,a2,.s (Str.ofString "zzzzz9"),aL,.s (Str.ofString "a0")]):=by
    have k1:frz (atE a1) = atE a1:=Zbs (Ke.kept a1)
    have k2:frz (atE a2) = atE a2:=Zbs (Ke.kept a2)
    show some (D.n .lst .own [frz (atE a1),frz (atE a2),.v (.str (Str.ofString "zzzzz9")),.n .lst .shr [.v (.str (Str.ofString "a"))],.v (.str (Str.ofString "a0"))]) = _
    rw [k1,k2]
    rfl
  have ad2:addA (Lst atE .own ((rs.map Sr.nm ++ pnA rs).map At.s)) (Lst atE .own [a1,a2,.s (Str.ofString "zzzzz9"),aL,.s (Str.ofString "a0")]) = some (Lst atE .own ((rs.map Sr.nm ++ pnA rs).map At.s ++ [a1,a2,.s (Str.ofString "zzzzz9"),aL,.s (Str.ofString "a0")])):=Zhv (by have:=h.len; simp; omega)
  rw [ts]
  have tg:∀ a ∈ (rs.map Sr.nm ++ pnA rs).map At.s ++ [a1,a2,.s (Str.ofString "zzzzz9"),aL,.s (Str.ofString "a0")],Tg (atE a):=fun a ha=>by
    rcases List.mem_append.mp ha with c | c
    · obtain ⟨z,_,rfl⟩:=List.mem_map.mp c
      exact tg_s
    · simp only [List.mem_cons,List.not_mem_nil,or_false] at c
      rcases c with rfl | rfl | rfl | rfl | rfl
      · exact tg_th h1
      · exact tg_th h2
      · exact tg_s
      · exact tg_aL
      · exact tg_s
  have hl2:itA true (Lst atE .own ((rs.map Sr.nm ++ pnA rs).map At.s ++ [a1,a2,.s (Str.ofString "zzzzz9"),aL,.s (Str.ofString "a0")])) = some (((rs.map Sr.nm ++ pnA rs).map At.s ++ [a1,a2,.s (Str.ofString "zzzzz9"),aL,.s (Str.ofString "a0")]).map atE):=itA_LJ
  generalize (rs.map Sr.nm ++ pnA rs).map At.s ++ [a1,a2,.s (Str.ofString "zzzzz9"),aL,.s (Str.ofString "a0")] = TS2 at ad2 tg hl2
  generalize Lst atE .own ((rs.map Sr.nm ++ pnA rs).map At.s) = L5 at ad2
  generalize Lst D.str .own (rs.map Sr.nm ++ [Str.ofString "late"]) = L3
  simp [b2.free,mA,mL,ad2,hl2,-ZbX,-ZbW,-List.map_append]
  refine ZbY (enc:=atE) (I:=fun pre s=>∃ x7,s = [some d2,some S,some R,some L3,none,some L5,none,x7]) (fun pre a post s hp hI=>?_) ⟨_,rfl⟩ (fun s hI=>?_)
  · obtain ⟨x7,rfl⟩:=hI
    have ta:=tg a (by rw [hp]; simp)
    have on:=fun s=>one s (atE a) ta
    have la:=Zbh ta.kept
    refine ⟨[some d2,some S,some R,some L3,none,some L5,none,some (atE a)],rfl,?_⟩
    generalize atE a = X at on la
    simp [l1,lw,la,on]
  · obtain ⟨x7,rfl⟩:=hI
    simp [pRc,dRc,r3,l1,pS,iso,rcP,tlP,lw,oS,tpR,eqR,FlowP,ioF,RtP]
    exact b2
end
end K76
end Lw
set_option maxHeartbeats 1000000
namespace Lw
namespace K77
open PySem PySem.Spec PyProof.Rows L2 Fs
theorem gos_ok:∀ {es:List Rw} {rs:List Sr} {n:Nat},SerOk (rs ++ es.map srOf) → (∀ e ∈ es,∃ r:Sr,e = .t [.s r.nm,.i r.a,.i r.w,.i r.l,.i r.e,.i r.t]) → gos rs n es = none
  | [],_,_,_,_=>rfl
  | e :: es,rs,n,h,he=>by
    obtain ⟨r,hr⟩:=he e List.mem_cons_self
    have hsr:srOf e = r:=by rw [hr]; rfl
    rw [List.map_cons,hsr] at h
    have hok:SrOk r:=h.ok r (by simp)
    have hnm:r.nm ∉ rs.map Sr.nm:=fun q=>by
      have:=h.nd
      rw [List.map_append,List.nodup_append] at this
      exact this.2.2 _ q r.nm (by simp) rfl
    have hpd:=h.pd
    have hsp:pnA (rs ++ r :: es.map srOf) = pnA rs ++ (pns r ++ pnA (es.map srOf)):=by simp [pnA]
    have hdj:∀ z ∈ pns r,z ∉ pnA rs:=fun z hz q=>by
      rw [hsp,List.nodup_append] at hpd
      exact hpd.2.2 z q z (List.mem_append_left _ hz) rfl
    have hln:=h.len
    rw [hsp] at hln
    simp only [List.length_append,Zek] at hln
    have h0:=hok.t0
    have hf:fl6 rs e = none:=by
      have ho:own6 (rs.map Sr.nm) e = none:=by
        rw [hr]
        have hn:nm6 (.s r.nm) = true:=by simp [nm6,hok.nm,hok.n6]
        unfold own6
        simp only
        rw [if_neg (by simp [hn]),if_neg (show strA (.s r.nm) ∉ _ from hnm)]
        have a0:=hok.a0; have a1:=hok.a1; have w0:=hok.w0; have w1:=hok.w1; have l0:=hok.l0; have l1:=hok.l1; have e0:=hok.e0; have e1:=hok.e1; have t0:=hok.t0; have t1:=hok.t1; have la:=hok.la
        unfold num6
        have g:¬ 200 < numA (.i r.a) + (numA (.i r.t) - 1) * numA (.i r.e) + numA (.i r.w):=by
          show ¬ 200 < r.a + (r.t - 1) * r.e + r.w
          omega
        simp [inI,a0,a1,w0,w1,l0,l1,e0,e1,t0,t1,g]
      unfold fl6
      rw [ho,hsr]
      show meet6 (pnA rs) r = none
      unfold meet6
      rw [if_neg,if_neg (by omega)]
      intro q
      obtain ⟨z,hz,hz2⟩:=List.any_eq_true.mp q
      exact hdj z hz (of_decide_eq_true hz2)
    simp only [gos,hf,hsr]
    refine gos_ok (rs:=rs ++ [r]) ?_ fun e' he'=>he e' (List.mem_cons_of_mem _ he')
    rw [List.append_assoc]
    exact h
def toR6 (r:Sr):Rw:=.t [.s r.nm,.i r.a,.i r.w,.i r.l,.i r.e,.i r.t]
theorem ZkV {rs:List Sr} {w:Fl}:Lst srD w rs = Lst rwE w (rs.map toR6):=by
  simp only [Lst,List.map_map]
  rfl
theorem grb_r6 {r:Sr} (h:SrOk r):GRB 6 42 (toR6 r):=by
  refine grb_t (fun a ha=>?_) (by simp)
  have a0:=h.a0; have a1:=h.a1; have w0:=h.w0; have w1:=h.w1; have l0:=h.l0; have l1:=h.l1; have e0:=h.e0; have e1:=h.e1; have t0:=h.t0; have t1:=h.t1; have n6:=h.n6
  simp only [List.mem_cons,List.not_mem_nil,or_false] at ha
  rcases ha with rfl | rfl | rfl | rfl | rfl | rfl
  · exact gb_s (by omega) (by omega) (K04.name_small h.nm)
  all_goals exact gb_i (by omega) (by omega) (by omega)
theorem Zfw {rs:List Sr} (h:SerOk rs):rowsS (rs.map toR6) = none:=by
  have hl:=rs_len h
  unfold rowsS
  rw [if_neg (by simp; omega),gos_ok (rs:=[]) (by
    rw [List.nil_append,List.map_map,show srOf ∘ toR6 = id from rfl,List.map_id]
    exact h) (fun e he=>by
    obtain ⟨r,_,rfl⟩:=List.mem_map.mp he
    exact ⟨r,rfl⟩)]
  rfl
end K77
end Lw
set_option maxHeartbeats 1000000
namespace Lw
namespace K76
open PySem PySem.Spec PyProof.Rows L2 Fs K77 K78
section
variable {s:Sl} {w w':Fl} {rs:List Sr}
theorem ZiZ (h:SerOk rs):ThK (.l (rs.map toR6)) ∧ ThK (.t (rs.map toR6)):=by
  have hgr:∀ e ∈ rs.map toR6,RwK e:=fun e he=>by
    obtain ⟨r,hr',rfl⟩:=List.mem_map.mp he
    exact (grb_r6 (h.ok r hr')).1.k (by decide)
  exact ⟨⟨fun _ q=>(by cases q; exact hgr),fun _ q=>(by cases q),fun _ q=>(by cases q)⟩,⟨fun _ q=>(by cases q),fun _ q=>(by cases q; exact hgr),fun _ q=>(by cases q)⟩⟩
theorem ZjC:(rs.map toR6).map srOf = rs:=by
  rw [List.map_map,show srOf ∘ toR6 = id from rfl,List.map_id]
theorem made_l (h:SerOk rs) (hw:w ≠ .own):callK (mkF 36 Zb) [Lst srD w rs] s = .ok (serD .own rs) s:=by
  rw [ZkV]
  have:=((ser_th (s:=s) (w:=w) (ZiZ h).1 hw).2 (Zfw h)).2
  rw [show thR (.l (rs.map toR6)) = rs from ZjC] at this
  exact this
theorem made_t (h:SerOk rs):callK (mkF 36 Zb) [Tpl srD rs] s = .ok (serD .own rs) s:=by
  have e:Tpl srD rs = Tpl rwE (rs.map toR6):=by
    unfold Tpl
    rw [List.map_map]
    rfl
  rw [e]
  have:=((ser_th (s:=s) (w:=.shr) (ZiZ h).2 (by decide)).2 (Zfw h)).2
  rw [show thR (.t (rs.map toR6)) = rs from ZjC] at this
  exact this
theorem ZlD:frz (serD .own rs) = serD .shr rs:=by
  have l1:frz (knD .own rs) = knD .shr rs:=by
    show D.n _ .shr (frzs (rs.map srD)) = _
    rw [ZeK]
  have l2:frz (hdD .own (hvA rs)) = hdD .shr (hvA rs):=by
    show D.n _ .shr (frzs ((hvA rs).map hvE)) = _
    rw [ZeK]
  show D.n _ .shr [frz (knD .own rs),frz (hdD .own (hvA rs))] = _
  rw [l1,l2]
def MI6 (ns:List Int) (s:Sl):Prop:=∃ x1 x2 x3 x4 x5 x6 x7,s = [some (.s ns),x1,x2,x3,x4,x5,x6,x7]
end
theorem Zga:SerOk []:=⟨by simp,by simp,by simp [pnA],by simp [pnA]⟩
theorem lap6 {ns:List Int} {d:D} {x1:Option D} {rs os:List Sr} {H:D} (hd:IsBox d) (hr:SerOk rs) (ho:SerOk os) :
    sat (Ze4 [some (.s ns),x1,some d,some (Lst srD .own rs),some (Lst srD .own os),some H,some (serD .shr rs),some (serD .own os)]) fun f s=>f = .nx ∧ MI6 ns s:=by
  have pS:=fun s=>ZfT (s:=s) (w:=.shr) hr
  have r3:rcD 36 "pieces" (serD .shr rs) = some (serD .shr rs):=rfl
  have r1:rcD 36 "told" (serD .shr rs) = some (serD .shr rs):=rfl
  have l1:lend (serD .shr rs) = serD .shr rs:=rfl
  have tS:=fun s=>told_S (s:=s) (w:=.shr) (rs:=rs)
  have oS:=fun s=>ZfG (s:=s) (w:=.bor) (by decide) hr
  have rcP:rcD 20 "told" (Pcs .own (srt (pcA rs))) = some (Pcs .own (srt (pcA rs))):=rfl
  have tlP:=fun s=>told_P (s:=s) (w:=.own) (rs:=srt (pcA rs))
  have tpR:tupD (Lst rowD .own (srt (pcA rs))) = some (Tpl rowD (srt (pcA rs))):=ZeO
  have okR:∀ r ∈ srt (pcA rs),okS r.nm:=fun r hr'=>nm_ok ((srt_ok (pcA_ok hr)).ok r hr').nm
  have neR:neD (Tpl rowD (srt (pcA rs))) (Tpl rowD (srt (pcA rs))) = some (.v (.bl false)):=by
    rw [Zlg okR okR]; simp
  have tp:tupD (Lst srD .own rs) = some (Tpl srD rs):=ZeO
  have nx:=ZiR hr
  have lr:lend (Lst srD .own rs) = Lst srD .bor rs:=by
    show D.n _ .bor (lends (rs.map srD)) = _
    rw [K77.lends_enc]; rfl
  have lo:lend (Lst srD .own os) = Lst srD .bor os:=by
    show D.n _ .bor (lends (os.map srD)) = _
    rw [K77.lends_enc]; rfl
  have ls:lend (serD .own os) = serD .bor os:=ZhN
  have R1:=fun d (h:IsBox d)=>Zgm (w:=.shr) (w':=.bor) (rs:=rs) (d:=d) h (by decide) (by decide) hr
  have R2:=fun d (h:IsBox d)=>Zgm (w:=.bor) (w':=.bor) (rs:=os) (d:=d) h (by decide) (by decide) ho
  generalize Pcs .own (srt (pcA rs)) = PO at pS rcP tlP
  generalize Tpl rowD (srt (pcA rs)) = TR at tlP tpR neR
  generalize Lst rowD .own (srt (pcA rs)) = LR at oS tpR
  generalize Tpl srD rs = TS at tS tp nx
  have fS:(serD .shr rs).free = true:=rfl
  have fO:(serD .own os).free = true:=rfl
  generalize serD .shr rs = S at pS r3 r1 l1 tS R1 fS
  generalize serD .own os = S2 at ls fO
  generalize serD .bor os = S2b at ls R2
  have fr:(Lst srD .own rs).free = true:=rfl
  have fo:(Lst srD .own os).free = true:=rfl
  generalize Lst srD .own rs = LS at lr tp fr
  generalize Lst srD .bor rs = LSb at lr oS R1
  generalize Lst srD .own os = LO at lo fo
  generalize Lst srD .bor os = LOb at lo R2
  simp [hd.free,-ZdJ]
  refine Zg (ZN hd (by decide) (by decide)) ?_
  rintro _ _ ⟨u,d1,rfl,rfl,u0,u1,b1⟩
  have rest:∀ d1,IsBox d1 → sat (law_k76_9 [some (.s ns),x1,some d1,some LS,some LO,some H,some S,some S2]) fun f s=>f = .nx ∧ MI6 ns s:=fun d1 b1=>by
    simp [b1.free,fr,fo,fS,fO,l1,lr,lo,ls]
    refine Zg (R1 d1 b1) ?_
    rintro _ _ ⟨rfl,d2,rfl,b2⟩
    simp [b2.free,fr,fo,fS,fO,l1,lr,lo,ls]
    refine Zg (R2 d2 b2) ?_
    rintro _ _ ⟨rfl,d3,rfl,b3⟩
    simp [b3.free,fr,fo,fS,fO,pRc,r1,l1,tS,tp,nx,MI6]
  by_cases hu:u = 0
  · subst hu
    simp [b1.free,pRc,dRc,r3,l1,pS,rcP,tlP,lr,oS,tpR,neR,-ZdJ]
    exact rest d1 b1
  · simp [b1.free,hu,-ZdJ]
    exact rest d1 b1
theorem end76 {ns:List Int} {s:Sl} (h:MI6 ns s):sat (law_k76_10 s) fun f _=>f = .rt (.v (.bl true)):=by
  obtain ⟨x1,x2,x3,x4,x5,x6,x7,rfl⟩:=h
  have m1:mkLst [] = some (Lst srD .own []):=rfl
  have m2:mkTup [] = some (Tpl srD []):=rfl
  have c1:=fun s=>made_l (s:=s) (w:=.shr) Zga (by decide)
  have c2:=fun s=>made_t (s:=s) Zga
  have f1:frz (Lst srD .own []) = Lst srD .shr []:=rfl
  have f2:frz (Tpl srD []) = Tpl srD []:=rfl
  have pS:=fun s=>ZfT (s:=s) (w:=.own) Zga
  have tS:=fun s=>told_S (s:=s) (w:=.own) (rs:=[])
  have r3:rcD 36 "pieces" (serD .own []) = some (serD .own []):=rfl
  have r1:rcD 36 "told" (serD .own []) = some (serD .own []):=rfl
  have rcP:rcD 20 "told" (Pcs .own (srt (pcA []))) = some (Pcs .own (srt (pcA []))):=rfl
  have tlP:=fun s=>told_P (s:=s) (w:=.own) (rs:=srt (pcA []))
  have q1:eqD (Tpl rowD (srt (pcA []))) (Tpl srD []) = some (.v (.bl true)):=rfl
  have q2:eqD (Tpl srD []) (Tpl srD []) = some (.v (.bl true)):=rfl
  generalize Pcs .own (srt (pcA [])) = PO at pS rcP tlP
  generalize Tpl rowD (srt (pcA [])) = TR at tlP q1
  generalize serD .own [] = S at c1 c2 pS tS r3 r1
  generalize Tpl srD [] = T at m2 c2 f2 tS q1 q2
  generalize Lst srD .shr [] = L at c1 f1
  generalize Lst srD .own [] = L0 at m1 f1
  simp [m1,m2,c1,c2,f1,f2,dRc,r3,r1,pS,tS,rcP,tlP,q1,q2]
theorem main76 (ns:List Int) (hns:ns.length ≤ 63):sat (ZcU [.s ns]) fun y _=>y = .bl true:=by
  refine sat_F' rfl ?_
  rw [Zf5]
  simp [diD,Zf4,itR_I (i:=max 3 (min (ns.length:Int) 12)) (by omega) (by omega),-Zhl,-ZgG]
  refine ZbY (I:=fun _=>MI6 ns) (fun pre k post s e h=>?_) ⟨_,_,_,_,_,_,_,rfl⟩ (fun s h=>?_)
  · obtain ⟨x1,x2,x3,x4,x5,x6,x7,rfl⟩:=h
    have hk:k ≤ 60:=by
      have:k ∈ List.range (max 3 (min (ns.length:Int) 12)).toNat:=by rw [e]; simp
      simp at this; omega
    refine ⟨_,rfl,?_⟩
    simp [natE,-Ze6]
    refine ZhE (Zg (ZlO ns k (by omega)) ?_)
    rintro _ _ ⟨i,rfl⟩
    simp [-Ze6]
    refine ZhE (Zg (box_sp i) ?_)
    rintro d _ hb
    simp [hb.free,-Zhk]
    refine Zg (Zfu (m:=6) hb (by decide)) ?_
    rintro _ _ ⟨rs,d2,rfl,hr,hl,rfl,b2⟩
    simp [b2.free,-Zhj]
    refine Zg (Zfu (m:=2) b2 (by decide)) ?_
    rintro _ _ ⟨os,d3,rfl,ho,hl2,rfl,b3⟩
    have lr:lend (Lst srD .own rs) = Lst srD .bor rs:=by
      show D.n _ .bor (lends (rs.map srD)) = _
      rw [K77.lends_enc]; rfl
    have lo:lend (Lst srD .own os) = Lst srD .bor os:=by
      show D.n _ .bor (lends (os.map srD)) = _
      rw [K77.lends_enc]; rfl
    have li:listD (Lst srD .own rs) = some (Lst srD .own rs):=Zkj
    have tp:tupD (Lst srD .own rs) = some (Tpl srD rs):=ZeO
    have ft:frz (Tpl srD rs) = Tpl srD rs:=rfl
    have c1:=fun s=>made_l (s:=s) (w:=.bor) hr (by decide)
    have c2:=fun s=>made_t (s:=s) hr
    have c3:=fun s=>made_l (s:=s) (w:=.bor) ho (by decide)
    have mL:mkLst [serD .own rs,serD .own rs] = some (.n .lst .own [serD .shr rs,serD .shr rs]):=by
      show some (D.n .lst .own [frz (serD .own rs),frz (serD .own rs)]) = _
      rw [ZlD]
    have ix:∀ u:Int,0 ≤ u → u < 2 → ixK (.n .lst .own [serD .shr rs,serD .shr rs]) (.v (.int u)) = some (serD .shr rs):=fun u u0 u1=>by
      have:u = 0 ∨ u = 1:=by omega
      rcases this with rfl | rfl <;> rfl
    have mZ:mkTup [.v (.str (Str.ofString "zz")),.v (.int 0),.v (.int 1),.v (.int 1),.v (.int 1),.v (.int 1)] = some (srD ⟨Str.ofString "zz",0,1,1,1,1⟩):=rfl
    have fin:=fun x1 d h H=>lap6 (ns:=ns) (d:=d) (x1:=x1) (H:=H) (rs:=rs) (os:=os) h hr ho
    have ap:∀ x1 x2 x3 x4 x6 x7:Option D,dApp 5 (dF mkTup (daCons (dP (pC (.str "zz"))) (daCons (dP (pC (.int 0))) (daCons (dP (pC (.int 1))) (daCons (dP (pC (.int 1))) (daCons (dP (pC (.int 1))) (daCons (dP (pC (.int 1))) daNil))))))) [some (.s ns),x1,x2,x3,x4,some (Lst srD .own rs),x6,x7] = .ok .non [some (.s ns),x1,x2,x3,x4,some (Lst srD .own (rs ++ [⟨Str.ofString "zz",0,1,1,1,1⟩])),x6,x7]:=fun x1 x2 x3 x4 x6 x7 =>
      of_sat (Zdv (enc:=srD) (xs:=rs) (Q:=fun a s'=>a = _ ∧ s' = _) (⟨Str.ofString "zz",0,1,1,1,1⟩:Sr) rfl (by simp [mZ]) (by have:=rs_len hr; omega) ⟨rfl,rfl⟩)
    have fr:(Lst srD .own rs).free = true:=rfl
    have fo:(Lst srD .own os).free = true:=rfl
    generalize Lst srD .own (rs ++ [⟨Str.ofString "zz",0,1,1,1,1⟩]) = HH at ap
    generalize serD .shr rs = S at mL ix fin
    generalize serD .own rs = So at mL c1 c2
    generalize serD .own os = S2 at c3 fin
    generalize Tpl srD rs = T at tp ft c2
    generalize Lst srD .bor rs = LSb at lr c1
    generalize Lst srD .bor os = LOb at lo c3
    generalize Lst srD .own rs = LS at lr li tp fr ap fin
    generalize Lst srD .own os = LO at lo fo fin
    simp [b3.free,li,-Zhi]
    simp [b3.free,lr,tp,ft,c1,c2,mL,-Ze5]
    refine Zg (ZN b3 (by decide) (by decide)) ?_
    rintro _ _ ⟨u,d4,rfl,rfl,u0,u1,b4⟩
    simp [b4.free,ix u u0 u1,-Ze5]
    simp [lo,c3,-Zhh]
    simp [ap,-Zhg]
    refine Zg (fin _ _ b4 _) ?_
    rintro f s ⟨rfl,h⟩
    exact h
  · refine Zg (end76 h) ?_
    rintro f s rfl
    simp
end K76
theorem law_true_k76 (ns:List Int) (h:ns.length ≤ 63):∃ s,ZcU [.s ns] = .ok (.bl true) s:=Fs.law_of (K76.main76 ns h)
end Lw
set_option maxHeartbeats 0
namespace Lw
open PySem PySem.Spec PyProof.Rows L2 Fs
theorem Zf7 {P:Program} {w:World} {K:PySem.W.Frag} {mg:Str → Option Value} {base:Heap} {f CB:Addr} {fd:FuncData} (B:BaseI K CB) (hm:mg "SlackError" = some (.ref CB)) (Fd:FunD K "__init__" "BadSeries.__init__" (defArgs ZI) (defBody ZI) (defScope ZI) [] [] f fd):FnOk P w K mg base (L2.CX P w) 1 f fd ["self","at","why"] (spIni K ["at","why"]) :=
  Zjo (N:=["self","at","why"]) (m:="refused") (k:=0) Fd ⟨rfl,rfl,rfl,by decide +kernel,rfl,by decide +kernel,by decide +kernel⟩ rfl fun cdv A outer s H E=>pss_cons (ps_expr (ZfU B rfl hm (pa_cons (pv 0) (pa_cons pe_str pa_nil)))) (pss_cons (ps_ost (pv 0) (pv 1)) (pss_one (ps_ost (pv 0) (pv 2))))
theorem Zho {P:Program} {w:World} {K:PySem.W.Frag} {mg:Str → Option Value} {base:Heap} {f CB:Addr} {fd:FuncData} (B:BaseI K CB) (hm:mg "SlackError" = some (.ref CB)) (Fd:FunD K "__init__" "NoPiece.__init__" (defArgs ZT) (defBody ZT) (defScope ZT) [] [] f fd):FnOk P w K mg base (L2.CX P w) 1 f fd ["self","found"] (spIni K ["found"]) :=
  ZlG (N:=["self","found"]) (m:="refused") (k:=0) Fd ⟨rfl,rfl,rfl,by decide +kernel,rfl,by decide +kernel,by decide +kernel⟩ rfl fun cdv A outer s H E=>pss_cons (ps_expr (ZfU B rfl hm (pa_cons (pv 0) (pa_cons pe_str pa_nil)))) (pss_one (ps_ost (pv 0) (pv 1)))
theorem Zf8 {P:Program} {w:World} {K:PySem.W.Frag} {mg:Str → Option Value} {base:Heap} {f CB:Addr} {fd:FuncData} (B:BaseI K CB) (hm:mg "SlackError" = some (.ref CB)) (Fd:FunD K "__init__" "BadPieces.__init__" (defArgs ZJ) (defBody ZJ) (defScope ZJ) [] [] f fd):FnOk P w K mg base (L2.CX P w) 1 f fd ["self","at","why"] (spIni K ["at","why"]) :=
  Zjo (N:=["self","at","why"]) (m:="refused") (k:=0) Fd ⟨rfl,rfl,rfl,by decide +kernel,rfl,by decide +kernel,by decide +kernel⟩ rfl fun cdv A outer s H E=>pss_cons (ps_expr (ZfU B rfl hm (pa_cons (pv 0) (pa_cons pe_str pa_nil)))) (pss_cons (ps_ost (pv 0) (pv 1)) (pss_one (ps_ost (pv 0) (pv 2))))
theorem facts {P:Program} {w:World} {K:PySem.W.Frag} {h:Heap} {mg:Str → Option Value} {f:Addr} (X:K.In h) (G:h.Ns mainGlobals mg) (hfa:mg ("law":Str) = some (.ref f)) (c:SaysX chk fn K) :
    ∃ fd:FuncData,(∀ (s:Shared) (v:Value),BindsTo s fd ⟨[v],[]⟩ [("_law_script",v)]) ∧ ∀ base:Heap,K.In base → base.Ns mainGlobals mg → FnG P w K mg base (L2.CX P w) 10 f fd ["_law_script"] (spF (clG K) xfG 1 ZcU):=by
  have T:TxW (clG K) mg:=⟨He.free_ok X G (c.fact 34),He.free_ok X G (c.fact 35),He.free_ok X G (c.fact 36),He.free_ok X G (c.fact 37),He.free_ok X G (c.fact 38),He.free_ok X G (c.fact 39),He.free_ok X G (c.fact 40),He.free_ok X G (c.fact 41),He.free_ok X G (c.fact 42),He.free_ok X G (c.fact 43),He.free_ok X G (c.fact 44),He.free_ok X G (c.fact 45),He.free_ok X G (c.fact 46),He.free_ok X G (c.fact 47),He.free_ok X G (c.fact 48),(let ⟨t,ht⟩:=He.str_ok X G (c.fact 49); ⟨_,ht,t,rfl⟩),(let ⟨t,ht⟩:=He.str_ok X G (c.fact 50); ⟨_,ht,t,rfl⟩),(let ⟨t,ht⟩:=He.int_ok X G (c.fact 51); ⟨_,ht,t,rfl⟩),(let ⟨t,ht⟩:=He.int_ok X G (c.fact 52); ⟨_,ht,t,rfl⟩),(let ⟨t,ht⟩:=He.int_ok X G (c.fact 53); ⟨_,ht,t,rfl⟩),(let ⟨t,ht⟩:=He.int_ok X G (c.fact 54); ⟨_,ht,t,rfl⟩),(let ⟨t,ht⟩:=He.int_ok X G (c.fact 55); ⟨_,ht,t,rfl⟩),⟨_,He.glo_ok X G (c.fact 56),ZlL (c.fact 57)⟩,He.cls_ok (x:="Pieces") (c.fact 58),He.cls_ok (x:="Series") (c.fact 59),He.noat_ok (x:="Pieces") (c.fact 60),He.noat_ok (x:="Series") (c.fact 61),He.noat_ok (x:="Series") (c.fact 62),He.glo_ok X G (c.fact 30),He.glo_ok X G (c.fact 31),He.glo_ok X G (c.fact 33),xfB_ok (c.fact 82),of_decide_eq_true (c.fact 83),of_decide_eq_true (c.fact 84),of_decide_eq_true (c.fact 85),⟨List.forall_mem_cons.mpr ⟨⟨Zld (He.cls_ok (x:="Pieces") (c.fact 58)) (c.fact 87),of_decide_eq_true (c.fact 88)⟩,fun c hc=>(by cases hc)⟩,fun s hs=>of_decide_eq_true (List.all_eq_true.mp (c.fact 86) s hs)⟩⟩
  obtain ⟨fd__law_box,D__law_box⟩:=c.def_ 0 (d:=ZfI)
  have g__law_box:=He.glo_ok X G (c.fact 0)
  obtain ⟨fd__law_take,D__law_take⟩:=c.def_ 1 (d:=Zfi)
  have g__law_take:=He.glo_ok X G (c.fact 1)
  obtain ⟨fd__law_series_row,D__law_series_row⟩:=c.def_ 2 (d:=ZcI)
  have g__law_series_row:=He.glo_ok X G (c.fact 2)
  obtain ⟨fd__law_word,D__law_word⟩:=c.def_ 3 (d:=Zfh)
  have g__law_word:=He.glo_ok X G (c.fact 3)
  obtain ⟨fd__law_series_pieces,D__law_series_pieces⟩:=c.def_ 4 (d:=Zcc)
  have g__law_series_pieces:=He.glo_ok X G (c.fact 4)
  obtain ⟨fd__law_series,D__law_series⟩:=c.def_ 5 (d:=Zd6)
  have g__law_series:=He.glo_ok X G (c.fact 5)
  obtain ⟨fd_is_name,D_is_name⟩:=c.def_ 6 (d:=ZgM)
  have g_is_name:=He.glo_ok X G (c.fact 6)
  obtain ⟨fd_is_whole,D_is_whole⟩:=c.def_ 7 (d:=ZfH)
  have g_is_whole:=He.glo_ok X G (c.fact 7)
  obtain ⟨fd_is_within,D_is_within⟩:=c.def_ 8 (d:=Zff)
  have g_is_within:=He.glo_ok X G (c.fact 8)
  obtain ⟨fd_pieces_of,D_pieces_of⟩:=c.def_ 9 (d:=Zfe)
  have g_pieces_of:=He.glo_ok X G (c.fact 9)
  obtain ⟨fd_row_fault,D_row_fault⟩:=c.def_ 10 (d:=Zfd)
  have g_row_fault:=He.glo_ok X G (c.fact 10)
  obtain ⟨fd_meeting_fault,D_meeting_fault⟩:=c.def_ 11 (d:=Zdm)
  have g_meeting_fault:=He.glo_ok X G (c.fact 11)
  obtain ⟨fd_Series___init__,D_Series___init__⟩:=c.def_ 12 (d:=ZcJ)
  obtain ⟨fd__law_cell,D__law_cell⟩:=c.def_ 13 (d:=Zfj)
  have g__law_cell:=He.glo_ok X G (c.fact 12)
  obtain ⟨fd_Pieces_told,D_Pieces_told⟩:=c.def_ 14 (d:=Zd8)
  obtain ⟨fd_Series_told,D_Series_told⟩:=c.def_ 15 (d:=Zd7)
  obtain ⟨fd_Series_names,D_Series_names⟩:=c.def_ 16 (d:=ZdC)
  obtain ⟨fd__law_thing,D__law_thing⟩:=c.def_ 17 (d:=Zew)
  have g__law_thing:=He.glo_ok X G (c.fact 13)
  obtain ⟨fd_Series_row,D_Series_row⟩:=c.def_ 18 (d:=Zez)
  obtain ⟨fd_Series_whose,D_Series_whose⟩:=c.def_ 19 (d:=ZdB)
  obtain ⟨fd__law_asked,D__law_asked⟩:=c.def_ 20 (d:=Zey)
  have g__law_asked:=He.glo_ok X G (c.fact 14)
  obtain ⟨fd__law_one_right,D__law_one_right⟩:=c.def_ 21 (d:=Zc1)
  have g__law_one_right:=He.glo_ok X G (c.fact 15)
  obtain ⟨fd_window_fault,D_window_fault⟩:=c.def_ 22 (d:=ZdA)
  have g_window_fault:=He.glo_ok X G (c.fact 16)
  obtain ⟨fd_row_fault_pieces,D_row_fault_pieces⟩:=c.def_ 23 (d:=Zcm)
  have g_row_fault_pieces:=He.glo_ok X G (c.fact 26)
  obtain ⟨fd_five_of,D_five_of⟩:=c.def_ 24 (d:=ZgN)
  have g_five_of:=He.glo_ok X G (c.fact 18)
  obtain ⟨fd_five_rows,D_five_rows⟩:=c.def_ 25 (d:=Zfg)
  have g_five_rows:=He.glo_ok X G (c.fact 19)
  obtain ⟨fd_Pieces___init__,D_Pieces___init__⟩:=c.def_ 26 (d:=ZcK)
  obtain ⟨fd_row_key,D_row_key⟩:=c.def_ 27 (d:=ZgL)
  have g_row_key:=He.glo_ok X G (c.fact 20)
  obtain ⟨fd_Series_pieces,D_Series_pieces⟩:=c.def_ 28 (d:=Zdo)
  obtain ⟨fd__law_in_order,D__law_in_order⟩:=c.def_ 29 (d:=Zdn)
  have g__law_in_order:=He.glo_ok X G (c.fact 21)
  obtain ⟨fd__law_right,D__law_right⟩:=c.def_ 30 (d:=Zex)
  have g__law_right:=He.glo_ok X G (c.fact 22)
  obtain ⟨fd_law,D_law⟩:=c.def_ 31 (d:=h_law)
  have g_law:=He.glo_ok X G (c.fact 23)
  obtain ⟨fd_BadSeries___init__,D_BadSeries___init__⟩:=c.def_ 32 (d:=Zcd)
  obtain ⟨fd_NoPiece___init__,D_NoPiece___init__⟩:=c.def_ 33 (d:=Zcn)
  obtain ⟨fd_BadPieces___init__,D_BadPieces___init__⟩:=c.def_ 34 (d:=Zce)
  have e:=hfa.symm.trans g_law
  cases e
  have bl:=FunD.bindsA (ps:=["_law_script"]) D_law fun _ _ _ _ _ _ us hl=>match us,hl with | [_],_=>rfl
  refine ⟨fd_law,fun s v=>bl s [v] rfl,fun base _ _=>?_⟩
  have b_BadSeries___init__:Binds K fd_BadSeries___init__ ["self","at","why"] []:=D_BadSeries___init__.bindsN fun _ _ _ _ _ _ us hl=>match us,hl with | [_,_,_],_=>rfl
  have X_BadSeries:Xc (clG K) xfG P w K mg base "BadSeries" 17 1:=⟨He.glo_ok X G (c.fact 29),Zhe (c.fact 71),⟨_,_,_,of_decide_eq_true (He.ba (c.fact 72)).1,of_decide_eq_true (He.ba (c.fact 72)).2,Zf7 (Zgf (c.fact 89)) (He.glo_ok X G (c.fact 33)) D_BadSeries___init__,b_BadSeries___init__⟩,fun f hf=>by simp only [xfG,List.mem_cons,List.not_mem_nil,or_false] at hf; rcases hf with rfl | rfl <;> first | exact He.noat_ok (x:="BadSeries") (c.fact 73) | exact He.noat_ok (x:="BadSeries") (c.fact 74),by decide⟩
  have b_NoPiece___init__:Binds K fd_NoPiece___init__ ["self","found"] []:=D_NoPiece___init__.bindsN fun _ _ _ _ _ _ us hl=>match us,hl with | [_,_],_=>rfl
  have X_NoPiece:Xc (clG K) xfG P w K mg base "NoPiece" 3 1:=⟨He.glo_ok X G (c.fact 30),Zhe (c.fact 75),⟨_,_,_,of_decide_eq_true (He.ba (c.fact 76)).1,of_decide_eq_true (He.ba (c.fact 76)).2,Zho (Zgf (c.fact 89)) (He.glo_ok X G (c.fact 33)) D_NoPiece___init__,b_NoPiece___init__⟩,fun f hf=>by simp only [xfG,List.mem_cons,List.not_mem_nil,or_false] at hf; rcases hf with rfl <;> first | exact He.noat_ok (x:="NoPiece") (c.fact 77),by decide⟩
  have b_BadPieces___init__:Binds K fd_BadPieces___init__ ["self","at","why"] []:=D_BadPieces___init__.bindsN fun _ _ _ _ _ _ us hl=>match us,hl with | [_,_,_],_=>rfl
  have X_BadPieces:Xc (clG K) xfG P w K mg base "BadPieces" 1 1:=⟨He.glo_ok X G (c.fact 28),Zhe (c.fact 78),⟨_,_,_,of_decide_eq_true (He.ba (c.fact 79)).1,of_decide_eq_true (He.ba (c.fact 79)).2,Zf8 (Zgf (c.fact 89)) (He.glo_ok X G (c.fact 33)) D_BadPieces___init__,b_BadPieces___init__⟩,fun f hf=>by simp only [xfG,List.mem_cons,List.not_mem_nil,or_false] at hf; rcases hf with rfl | rfl <;> first | exact He.noat_ok (x:="BadPieces") (c.fact 80) | exact He.noat_ok (x:="BadPieces") (c.fact 81),by decide⟩
  have b__law_box:Binds K fd__law_box ["_law_cell_here"] []:=D__law_box.bindsN fun _ _ _ _ _ _ us hl=>match us,hl with | [_],_=>rfl
  have H__law_box:Fn (clG K) xfG P w K mg base "_law_box" 1 1 Zb4:=⟨_,_,_,Zhd rfl rfl T D__law_box ,g__law_box,D__law_box.kp,b__law_box⟩
  have b__law_take:Binds K fd__law_take ["_law_box_here","_law_many"] []:=D__law_take.bindsN fun _ _ _ _ _ _ us hl=>match us,hl with | [_,_],_=>rfl
  have H__law_take:Fn (clG K) xfG P w K mg base "_law_take" 1 2 Za:=⟨_,_,_,Zgx rfl rfl T D__law_take ,g__law_take,D__law_take.kp,b__law_take⟩
  have b__law_series_row:Binds K fd__law_series_row ["_law_box_here","_law_name"] []:=D__law_series_row.bindsN fun _ _ _ _ _ _ us hl=>match us,hl with | [_,_],_=>rfl
  have H__law_series_row:Fn (clG K) xfG P w K mg base "_law_series_row" 2 2 ZW:=⟨_,_,_,Zd1 rfl rfl T D__law_series_row H__law_take,g__law_series_row,D__law_series_row.kp,b__law_series_row⟩
  have b__law_word:Binds K fd__law_word ["_law_box_here"] []:=D__law_word.bindsN fun _ _ _ _ _ _ us hl=>match us,hl with | [_],_=>rfl
  have H__law_word:Fn (clG K) xfG P w K mg base "_law_word" 2 1 Zbp:=⟨_,_,_,Zgw rfl rfl T D__law_word H__law_take,g__law_word,D__law_word.kp,b__law_word⟩
  have b__law_series_pieces:Binds K fd__law_series_pieces ["_law_rows"] []:=D__law_series_pieces.bindsN fun _ _ _ _ _ _ us hl=>match us,hl with | [_],_=>rfl
  have H__law_series_pieces:Fn (clG K) xfG P w K mg base "_law_series_pieces" 1 1 Zd:=⟨_,_,_,Zdi rfl rfl T D__law_series_pieces ,g__law_series_pieces,D__law_series_pieces.kp,b__law_series_pieces⟩
  have b__law_series:Binds K fd__law_series ["_law_box_here","_law_most"] []:=D__law_series.bindsN fun _ _ _ _ _ _ us hl=>match us,hl with | [_,_],_=>rfl
  have H__law_series:Fn (clG K) xfG P w K mg base "_law_series" 3 2 ZL:=⟨_,_,_,Zfp rfl rfl T D__law_series H__law_take H__law_series_row H__law_word H__law_series_pieces,g__law_series,D__law_series.kp,b__law_series⟩
  have b_is_name:Binds K fd_is_name ["thing"] []:=D_is_name.bindsN fun _ _ _ _ _ _ us hl=>match us,hl with | [_],_=>rfl
  have H_is_name:Fn (clG K) xfG P w K mg base "is_name" 1 1 Zz:=⟨_,_,_,Zh9 rfl rfl T D_is_name ,g_is_name,D_is_name.kp,b_is_name⟩
  have b_is_whole:Binds K fd_is_whole ["thing"] []:=D_is_whole.bindsN fun _ _ _ _ _ _ us hl=>match us,hl with | [_],_=>rfl
  have H_is_whole:Fn (clG K) xfG P w K mg base "is_whole" 1 1 Z8:=⟨_,_,_,Zhc rfl rfl T D_is_whole ,g_is_whole,D_is_whole.kp,b_is_whole⟩
  have b_is_within:Binds K fd_is_within ["thing","low","high"] []:=D_is_within.bindsN fun _ _ _ _ _ _ us hl=>match us,hl with | [_,_,_],_=>rfl
  have H_is_within:Fn (clG K) xfG P w K mg base "is_within" 2 3 Zl:=⟨_,_,_,Zgu rfl rfl T D_is_within H_is_whole,g_is_within,D_is_within.kp,b_is_within⟩
  have b_pieces_of:Binds K fd_pieces_of ["row"] []:=D_pieces_of.bindsN fun _ _ _ _ _ _ us hl=>match us,hl with | [_],_=>rfl
  have H_pieces_of:Fn (clG K) xfG P w K mg base "pieces_of" 1 1 Zh:=⟨_,_,_,Zgt rfl rfl T D_pieces_of ,g_pieces_of,D_pieces_of.kp,b_pieces_of⟩
  have b_row_fault:Binds K fd_row_fault ["known","row"] []:=D_row_fault.bindsN fun _ _ _ _ _ _ us hl=>match us,hl with | [_,_],_=>rfl
  have H_row_fault:Fn (clG K) xfG P w K mg base "row_fault" 3 2 Zt:=⟨_,_,_,Zgs rfl rfl T D_row_fault H_is_name H_is_within H_pieces_of,g_row_fault,D_row_fault.kp,b_row_fault⟩
  have H_row_fault_series:Fn (clG K) xfG P w K mg base "row_fault_series" 3 2 Zt:=H_row_fault.als ((He.glo_ok X G (c.fact 24)).trans ((congrArg (fun a=>some (Value.ref a)) (of_decide_eq_true (c.fact 25))).trans (He.glo_ok X G (c.fact 10)).symm))
  have b_meeting_fault:Binds K fd_meeting_fault ["held","row"] []:=D_meeting_fault.bindsN fun _ _ _ _ _ _ us hl=>match us,hl with | [_,_],_=>rfl
  have H_meeting_fault:Fn (clG K) xfG P w K mg base "meeting_fault" 2 2 Zo:=⟨_,_,_,ZeB rfl rfl T D_meeting_fault H_pieces_of,g_meeting_fault,D_meeting_fault.kp,b_meeting_fault⟩
  have b_Series___init__:Binds K fd_Series___init__ ["self","rows"] []:=D_Series___init__.bindsN fun _ _ _ _ _ _ us hl=>match us,hl with | [_,_],_=>rfl
  have K_Series:Kc (clG K) xfG P w K mg base "Series" 36 4 2 Zb:=⟨⟨_,_,_,Zd2 rfl rfl T D_Series___init__ H_meeting_fault H_pieces_of H_row_fault_series X_BadSeries,He.mkr_ok (x:="Series") (c.fact 70),b_Series___init__⟩,He.glo_ok X G (c.fact 32)⟩
  have b__law_cell:Binds K fd__law_cell ["_law_script","_law_k"] []:=D__law_cell.bindsN fun _ _ _ _ _ _ us hl=>match us,hl with | [_,_],_=>rfl
  have H__law_cell:Fn (clG K) xfG P w K mg base "_law_cell" 1 2 ZbM:=⟨_,_,_,Zgy rfl rfl T D__law_cell ,g__law_cell,D__law_cell.kp,b__law_cell⟩
  have b_Pieces_told:Binds K fd_Pieces_told ["self"] []:=D_Pieces_told.bindsN fun _ _ _ _ _ _ us hl=>match us,hl with | [_],_=>rfl
  have M_Pieces_told:Mt (clG K) xfG P w K mg base 20 "told" 1 1 Zj:=⟨⟨_,_,_,Zfr rfl rfl T D_Pieces_told ,He.meth_ok (x:="Pieces") (c.fact 68),b_Pieces_told⟩,He.cls_ok (x:="Pieces") (c.fact 58)⟩
  have b_Series_told:Binds K fd_Series_told ["self"] []:=D_Series_told.bindsN fun _ _ _ _ _ _ us hl=>match us,hl with | [_],_=>rfl
  have M_Series_told:Mt (clG K) xfG P w K mg base 36 "told" 1 1 Zi:=⟨⟨_,_,_,Zfq rfl rfl T D_Series_told ,He.meth_ok (x:="Series") (c.fact 65),b_Series_told⟩,He.cls_ok (x:="Series") (c.fact 59)⟩
  have b_Series_names:Binds K fd_Series_names ["self"] []:=D_Series_names.bindsN fun _ _ _ _ _ _ us hl=>match us,hl with | [_],_=>rfl
  have M_Series_names:Mt (clG K) xfG P w K mg base 36 "names" 1 1 Zp:=⟨⟨_,_,_,ZeZ rfl rfl T D_Series_names ,He.meth_ok (x:="Series") (c.fact 66),b_Series_names⟩,He.cls_ok (x:="Series") (c.fact 59)⟩
  have b__law_thing:Binds K fd__law_thing ["_law_box_here"] []:=D__law_thing.bindsN fun _ _ _ _ _ _ us hl=>match us,hl with | [_],_=>rfl
  have H__law_thing:Fn (clG K) xfG P w K mg base "_law_thing" 2 1 Zbd:=⟨_,_,_,ZfV rfl rfl T D__law_thing H__law_take,g__law_thing,D__law_thing.kp,b__law_thing⟩
  have b_Series_row:Binds K fd_Series_row ["self","name"] []:=D_Series_row.bindsN fun _ _ _ _ _ _ us hl=>match us,hl with | [_,_],_=>rfl
  have M_Series_row:Mt (clG K) xfG P w K mg base 36 "row" 3 2 Zq:=⟨⟨_,_,_,ZfY rfl rfl T D_Series_row X_NoPiece,He.meth_ok (x:="Series") (c.fact 63),b_Series_row⟩,He.cls_ok (x:="Series") (c.fact 59)⟩
  have b_Series_whose:Binds K fd_Series_whose ["self","name"] []:=D_Series_whose.bindsN fun _ _ _ _ _ _ us hl=>match us,hl with | [_,_],_=>rfl
  have M_Series_whose:Mt (clG K) xfG P w K mg base 36 "whose" 3 2 Zn:=⟨⟨_,_,_,ZeY rfl rfl T D_Series_whose X_NoPiece,He.meth_ok (x:="Series") (c.fact 64),b_Series_whose⟩,He.cls_ok (x:="Series") (c.fact 59)⟩
  have b__law_asked:Binds K fd__law_asked ["_law_series_here","_law_way","_law_thing_here"] []:=D__law_asked.bindsN fun _ _ _ _ _ _ us hl=>match us,hl with | [_,_,_],_=>rfl
  have H__law_asked:Fn (clG K) xfG P w K mg base "_law_asked" 4 3 ZH:=⟨_,_,_,ZfX rfl rfl T D__law_asked M_Series_row M_Series_whose,g__law_asked,D__law_asked.kp,b__law_asked⟩
  have b__law_one_right:Binds K fd__law_one_right ["_law_series_here","_law_rows","_law_thing_here"] []:=D__law_one_right.bindsN fun _ _ _ _ _ _ us hl=>match us,hl with | [_,_,_],_=>rfl
  have H__law_one_right:Fn (clG K) xfG P w K mg base "_law_one_right" 5 3 Z5:=⟨_,_,_,Zeo rfl rfl T D__law_one_right H__law_series_pieces H__law_asked,g__law_one_right,D__law_one_right.kp,b__law_one_right⟩
  have b_window_fault:Binds K fd_window_fault ["row"] []:=D_window_fault.bindsN fun _ _ _ _ _ _ us hl=>match us,hl with | [_],_=>rfl
  have H_window_fault:Fn (clG K) xfG P w K mg base "window_fault" 3 1 ZS:=⟨_,_,_,ZeX rfl rfl T D_window_fault H_is_within,g_window_fault,D_window_fault.kp,b_window_fault⟩
  have b_row_fault_pieces:Binds K fd_row_fault_pieces ["known","row"] []:=D_row_fault_pieces.bindsN fun _ _ _ _ _ _ us hl=>match us,hl with | [_,_],_=>rfl
  have H_row_fault_pieces:Fn (clG K) xfG P w K mg base "row_fault_pieces" 4 2 ZU:=⟨_,_,_,ZdI rfl rfl T D_row_fault_pieces H_is_name H_window_fault,g_row_fault_pieces,D_row_fault_pieces.kp,b_row_fault_pieces⟩
  have H_row_fault_pieces:Fn (clG K) xfG P w K mg base "row_fault_pieces" 4 2 ZU:=H_row_fault_pieces.als ((He.glo_ok X G (c.fact 26)).trans ((congrArg (fun a=>some (Value.ref a)) (of_decide_eq_true (c.fact 27))).trans (He.glo_ok X G (c.fact 26)).symm))
  have b_five_of:Binds K fd_five_of ["row"] []:=D_five_of.bindsN fun _ _ _ _ _ _ us hl=>match us,hl with | [_],_=>rfl
  have H_five_of:Fn (clG K) xfG P w K mg base "five_of" 1 1 Zbo:=⟨_,_,_,Zia rfl rfl T D_five_of ,g_five_of,D_five_of.kp,b_five_of⟩
  have b_five_rows:Binds K fd_five_rows ["rows"] []:=D_five_rows.bindsN fun _ _ _ _ _ _ us hl=>match us,hl with | [_],_=>rfl
  have H_five_rows:Fn (clG K) xfG P w K mg base "five_rows" 5 1 ZV:=⟨_,_,_,Zgv rfl rfl T D_five_rows H_five_of H_row_fault_pieces X_BadPieces,g_five_rows,D_five_rows.kp,b_five_rows⟩
  have b_Pieces___init__:Binds K fd_Pieces___init__ ["self","rows"] []:=D_Pieces___init__.bindsN fun _ _ _ _ _ _ us hl=>match us,hl with | [_,_],_=>rfl
  have K_Pieces:Kc (clG K) xfG P w K mg base "Pieces" 20 6 2 Zm:=⟨⟨_,_,_,Zd3 rfl rfl T D_Pieces___init__ H_five_rows,He.mkr_ok (x:="Pieces") (c.fact 69),b_Pieces___init__⟩,He.glo_ok X G (c.fact 31)⟩
  have b_row_key:Binds K fd_row_key ["piece"] []:=D_row_key.bindsN fun _ _ _ _ _ _ us hl=>match us,hl with | [_],_=>rfl
  have H_row_key:Fn (clG K) xfG P w K mg base "row_key" 1 1 ZA:=⟨_,_,_,Zh8 rfl rfl T D_row_key ,g_row_key,D_row_key.kp,b_row_key⟩
  have b_Series_pieces:Binds K fd_Series_pieces ["self"] []:=D_Series_pieces.bindsN fun _ _ _ _ _ _ us hl=>match us,hl with | [_],_=>rfl
  have M_Series_pieces:Mt (clG K) xfG P w K mg base 36 "pieces" 8 1 Zf:=⟨⟨_,_,_,ZeD rfl rfl T D_Series_pieces H_pieces_of H_row_key K_Pieces,He.meth_ok (x:="Series") (c.fact 67),b_Series_pieces⟩,He.cls_ok (x:="Series") (c.fact 59)⟩
  have b__law_in_order:Binds K fd__law_in_order ["_law_rows"] []:=D__law_in_order.bindsN fun _ _ _ _ _ _ us hl=>match us,hl with | [_],_=>rfl
  have H__law_in_order:Fn (clG K) xfG P w K mg base "_law_in_order" 2 1 ZB:=⟨_,_,_,ZeC rfl rfl T D__law_in_order H__law_series_pieces,g__law_in_order,D__law_in_order.kp,b__law_in_order⟩
  have b__law_right:Binds K fd__law_right ["_law_box_here","_law_series_here","_law_rows"] []:=D__law_right.bindsN fun _ _ _ _ _ _ us hl=>match us,hl with | [_,_,_],_=>rfl
  have H__law_right:Fn (clG K) xfG P w K mg base "_law_right" 9 3 ZM:=⟨_,_,_,ZfW rfl rfl T D__law_right H__law_series_pieces H__law_thing H__law_one_right H__law_in_order M_Series_told M_Series_names M_Series_pieces M_Pieces_told,g__law_right,D__law_right.kp,b__law_right⟩
  exact ok_law rfl rfl T D_law H__law_box H__law_cell H__law_series H__law_take H__law_in_order H__law_right M_Pieces_told M_Series_pieces M_Series_told K_Series
theorem sp_law {K:PySem.W.Frag} {H:Hp} {a:Addr} {ns:List Int} (hO:Only H) (hS:SqL K H a (ns.map V.int)) (h:∃ s,ZcU [.s ns] = .ok (.bl true) s):spF (clG K) xfG 1 ZcU [.ref a] H (fun v _=>v = .bl true) fun _ _ _=>False:=by
  obtain ⟨s,h⟩:=h
  refine ⟨fun _=>False,fun _=>False,fun _=>False,[.s ns],⟨⟨[],[],by simp [Rps],?_,by simp,by simp,by simp⟩,by simp,by simp,by simp,⟨fun p hp=>absurd hp List.not_mem_nil,fun p hp=>absurd hp List.not_mem_nil⟩⟩,rfl,?_⟩
  · simp only [List.map_cons,List.map_nil,Rpo,Rp]
    refine ⟨.ref a,[],[],[],rfl,rfl,⟨rfl,a,rfl,?_⟩,rfl,rfl⟩
    rcases hS with (hS | ⟨o,hS⟩) | hS
    · rcases hO a with q | ⟨o,xs,q⟩
      · rw [q] at hS; cases hS
      · rw [q] at hS; cases hS
    · exact .inl ⟨o,hS,id⟩
    · exact .inr hS
  · rw [h]
    intro v A' H' _ j
    obtain ⟨u,f1,e,h1⟩:=j.one
    cases e
    exact h1.leafv.1
end Lw
open PySem PySem.W PySem.Calls PyProof.Rows
theorem PySem.Challenge.cw_failslack_k76_series_told_holds : PySem.Challenge.rw_failslack_k76_series_told.Holds := by
  w_on; o_law
  refine HandSHeadRun.head_any (r := OpenLaw.row PySem.Challenge.rw_failslack_k76_series_told) (q := view (OpenLaw.row PySem.Challenge.rw_failslack_k76_series_told).prog [45]) (H := Lw.hk) (ob := Lw.ob) (M := 6000) (loose := Lw.loose) (d := HandSHeadRun.topDef (OpenLaw.row PySem.Challenge.rw_failslack_k76_series_told).prog 45) (kwd := []) Lw.ob_eq
    (by kernel_rfl) (fun s=>by kernel_rfl) Lw.run (by kernel_rfl) (by kernel_rfl) (by kernel_rfl) (by rfl) (by first | assumption | decide +kernel) (by decide +kernel) ⟨rfl,rfl,rfl,rfl,rfl,by decide +kernel⟩ ?hw ?hc
  case hw=>w_witness2
  case hc =>
    refine Fs.walk_G (l := PySem.Challenge.rw_failslack_k76_series_told) (n := 63) (k := 10) (x := "_law_script") (CX := fun w => L2.CX (PySem.Challenge.rw_failslack_k76_series_told).prog w) rfl (by decide) (by kernel_rfl) ⟨⟨rfl, by decide, by decide⟩, rfl⟩ ?F (fun _ _ _ _ _ ⟨_, _, _, _, _, _, _, _, _, _, _, _, z⟩ => z)
    intro w mg fa h Y G hmg0
    obtain ⟨K,KX,c⟩:=Y
    have hmg:mg ("law":PySem.Str) = some (.ref fa):=by
      have e : (HandSHeadRun.topDef (OpenLaw.row PySem.Challenge.rw_failslack_k76_series_told).prog 45).name = ("law" : PySem.Str) := by kernel_rfl
      rw [← e]
      exact hmg0
    obtain ⟨fd, hb, hF⟩ := Lw.facts (P := (PySem.Challenge.rw_failslack_k76_series_told).prog) (w := w) KX G hmg c
    exact ⟨K,fd,_,KX,hb,fun H a ns hl hO hS=>Lw.sp_law hO hS (Lw.law_true_k76 ns hl),hF⟩
