import PyProof.Rows.All
import Wide.All
import OpenK.AllK
import Wide.FinOn
import HandS.ForMost
import HandS.ForExc
import HandS.IsInst
import HandS.ExcInit
import HandS.ExcField
import HandS.TryMany
import HandS.Flow
import HandS.Defaults
import HandS.Wide
import HandS.Nested
import HandS.Ends
import HandS.HeadEnd
import HandS.Replace
import KE.KStateDown
import HandS.Head0
import HandS.Head1
import HandS.Head2
import HandS.HeadHook1
import HandS.HeadHook2
import HandS.ExcIs
import KE.KExcIs
import HandS.TupAny
import HandS.SortInts
import HandS.SetFor
import HandS.Deep
import PyProof.TupleCall
import KE.KDictList
import HandS.Conv
import HandS.SortKw
import PyProof.WalkInts
import HandS.Strs
import HandS.RaiseMore
import KE.KRevSl
import HandS.Small
import KE.GoesEnum
import PyProof.NeKinds
import HandS.DeepEq
import KE.KEqNest
import HandS.Finally
import HandS.TryOnly
import HandS.Text
import HandS.Flt
import PyProof.Rows.StrMul
import Lean
import HandS.More
import HandS.Words
import HandS.WordsExc
import KE.IntTextLaws
import PyProof.StrLawsRepr
import PySem.Challenge.RW_failslack_k08_whole_any_text
set_option Elab.async false
set_option linter.all false
set_option maxRecDepth 100000
namespace Fs
open PySem L2
inductive Fl | own | shr | bor deriving DecidableEq
inductive Kd | tup | lst | dct (ks:List Key) | dcl (ks:List Key) | obj (c:Nat) (fs:List Str) | fn (i:Nat) | code (q:Str) | cell deriving DecidableEq
inductive D | v (x:V) | s (ns:List Int) | n (k:Kd) (w:Fl) (xs:List D)
/-- the text of a function that is made within a def: fr,the names it holds of that def -/
structure Lf where
  name:Str
  qual:Str
  params:Arguments
  body:FuncBody
  scope:Scope
  fr:List Str
def Lf.fd (F:Lf) (cs:List (Str × Addr)) (c:Addr) (doc pm ctv:Value):FuncData:={ name:=F.name,qualname:=F.qual,params:=F.params,body:=F.body,scope:=F.scope,globals:=mainGlobals,closure:=cs,defaults:=.none,kwdefaults:=.none,doc,pyModule:=pm,annotations:=none,code:=.ref c,closureTuple:=ctv,builtins:=builtinsNs }
def Lf.none:Lf:=⟨"","",default,.stmts [],default,[]⟩
/-- the object at a is that function,its cells,its code -/
def FnC (a:Addr) (F:Lf) (cs:List (Str × Addr)) (c:Addr):HO:=.ext fun h=>∃ doc pm ctv od sl,h.get? a = some (⟨.type "function",od,.func (F.fd cs c doc pm ctv),sl⟩:Obj)
/-- the cell at a,unchanged from now on,holds this -/
def CellC (a:Addr) (v:V):HO:=.ext fun h=>∃ u,RelV v u ∧ h.IsCell a (some u)
def CsOk (fr:List Str) (as:List Addr) (cs:List (Str × Addr)):Prop:=fr.length = as.length ∧ fr.Nodup ∧ as.Nodup ∧ ∀ y c,cs.lookup y = some c ↔ ∃ j:Nat,fr[j]? = some y ∧ as[j]? = some c
/-- where the classes stand,the written part; where the tables of code objects stand,the texts of functions made within defs -/
structure Ec where
  c:Nat → Addr
  K:PySem.W.Frag
  T:List NdefX.NTab:=[]
  fn:Nat → Lf:=fun _=>Lf.none
def Ec.Wr (cl:Ec) (a:Addr) (xs:List V):Prop:=∃ (o:Obj) (its:Array Value) (n:Nat),cl.K.lookup a = some o ∧ o.cls = .type "list" ∧ o.dict = none ∧ o.data = .seq its n ∧ its.size ≤ sizeLine ∧ Vals xs its.toList
@[reducible] def D.int (i:Int):D:=.v (.int i)
@[reducible] def D.str (s:Str):D:=.v (.str s)
@[reducible] def D.bl (b:Bool):D:=.v (.bl b)
@[reducible] def D.non:D:=.v .non
def sc:V → Bool | .non=>true | .bl _=>true | .int _=>true | .str _=>true | _=>false
/-- the flag at the root: may the thing be kept by others -/
def D.kept:D → Bool | .v _=>true | .s _=>true | .n _ .shr _=>true | _=>false
def Shape (cl:Ec):Kd → Addr → List V → HO → Prop
  | .tup,_,vs,o=>o = .tup vs
  | .lst,_,vs,o=>o = .lst vs
  | .dct ks,_,vs,o=>ks.length = vs.length ∧ o = .dK (ks.zip vs)
  | .dcl _,_,_,_=>False
  | .obj c fs,_,vs,o=>fs.length = vs.length ∧ ∃ dx,o = .ins (cl.c c) dx (fs.zip vs)
  | .fn i,a,vs,o=>∃ c as cs,vs = .ref c :: as.map .ref ∧ CsOk (cl.fn i).fr as cs ∧ o = FnC a (cl.fn i) cs c
  | .code q,a,vs,o=>vs = [] ∧ o = LamX.CodeO a q
  | .cell,a,vs,o=>∃ v ob,vs = [v] ∧ o = .frz ob (CellC a v)
/-- what may be owned -/
def Kd.mut:Kd → Bool | .fn _=>false | .code _=>false | .cell=>false | _=>true
/-- who doesn't own a dict may find it locked -/
def Shp (cl:Ec) (w:Fl) (k:Kd) (a:Addr) (vs:List V) (o:HO):Prop:=(Shape cl k a vs o ∧ (w = .own → k.mut = true)) ∨ (w ≠ .own ∧ ∃ ks ob,k = .dct ks ∧ ks.length = vs.length ∧ o = .frz ob (.dK (ks.zip vs)))
def NT (o:HO):Prop:=∀ ps,o ≠ .tbl ps
theorem Shp.nt {cl:Ec} {w:Fl} {k:Kd} {a:Addr} {vs:List V} {o:HO} (h:Shp cl w k a vs o):NT o:=by
  intro ps e
  subst e
  rcases h with ⟨h,_⟩ | ⟨_,_,_,_,_,h⟩
  · cases k with
    | tup=>cases h
    | lst=>cases h
    | dct ks=>cases h.2
    | dcl ks=>exact h
    | obj c fs=>obtain ⟨_,_,h⟩:=h; cases h
    | fn i=>obtain ⟨_,_,_,_,_,h⟩:=h; cases h
    | code q=>cases h.2
    | cell=>obtain ⟨_,_,_,h⟩:=h; cases h
  · cases h
theorem NT.frz {ob:Obj} {u:HO}:NT (.frz ob u):=fun _ e=>by cases e
theorem Shp.any {cl:Ec} {w:Fl} {k:Kd} {a:Addr} {vs:List V} {o:HO} (h:Shp cl .own k a vs o):Shp cl w k a vs o:=by
  rcases h with ⟨h,m⟩ | ⟨h,_⟩
  · exact .inl ⟨h,fun _=>m rfl⟩
  · exact absurd rfl h
theorem Shp.own {cl:Ec} {k:Kd} {a:Addr} {vs:List V} {o:HO} (h:Shp cl .own k a vs o):Shape cl k a vs o ∧ k.mut = true:=by
  rcases h with ⟨h,m⟩ | ⟨h,_⟩
  · exact ⟨h,m rfl⟩
  · exact absurd rfl h
theorem Shape.at {cl:Ec} {k:Kd} {a:Addr} {vs:List V} {o:HO} (h:Shape cl k a vs o) (hm:k.mut = true) (b:Addr):Shape cl k b vs o:=by
  cases k <;> first | exact h | cases hm
/-- an owned thing is written: no table,no code -/
theorem ZmN {cl:Ec} {T:List NdefX.NTab} {H:Hp} {k:Kd} {a:Addr} {vs:List V} {o o':HO} (t:NdefX.TabsN T H) (h:H a = some o) (hs:Shape cl k a vs o) (hm:k.mut = true):NdefX.TabsN T (upd H a o'):=fun p hp=>by
  obtain ⟨ps,e1,e2,e3⟩:=t p hp
  have ne:∀ b u,H b = some u → ((∃ qs,u = .tbl qs) ∨ ∃ φ,u = .ext φ) → b ≠ a:=fun b u e q z=>by
    subst z
    rw [h] at e
    cases e
    cases k with
    | tup=>cases hs; rcases q with ⟨_,q⟩ | ⟨_,q⟩ <;> cases q
    | lst=>cases hs; rcases q with ⟨_,q⟩ | ⟨_,q⟩ <;> cases q
    | dct ks=>obtain ⟨_,rfl⟩:=hs; rcases q with ⟨_,q⟩ | ⟨_,q⟩ <;> cases q
    | dcl ks=>exact hs
    | obj c fs=>obtain ⟨_,_,rfl⟩:=hs; rcases q with ⟨_,q⟩ | ⟨_,q⟩ <;> cases q
    | fn i=>cases hm
    | code q=>cases hm
    | cell=>cases hm
  refine ⟨ps,(upd_ne (ne _ _ e1 (.inl ⟨_,rfl⟩))).trans e1,e2,fun pos cv hc=>?_⟩
  obtain ⟨c,f1,f2⟩:=e3 pos cv hc
  exact ⟨c,f1,(upd_ne (ne _ _ f2 (.inr ⟨_,rfl⟩))).trans f2⟩
section
variable (cl:Ec) (A L:Addr → Prop) (H:Hp)
mutual
def Rp (b:Bool):D → V → List Addr → Prop
  | .v x,v,fp=>sc x = true ∧ v = x ∧ fp = []
  | .s ns,v,fp=>fp = [] ∧ ∃ a,v = .ref a ∧ ((∃ ob,H a = some (.frz ob (.lst (ns.map V.int))) ∧ ¬ A a) ∨ cl.Wr a (ns.map V.int))
  | .n k w ds,v,fp=>∃ a o vs,v = .ref a ∧ H a = some o ∧ Shp cl w k a vs o ∧
      match w with
      | .shr=>¬ A a ∧ fp = [] ∧ Rps false ds vs []
      | .own=>A a ∧ ∃ fp',fp = a :: fp' ∧ Rps false ds vs fp'
      | .bor=>b = true ∧ L a ∧ fp = [] ∧ Rps b ds vs []
def Rps (b:Bool):List D → List V → List Addr → Prop
  | [],vs,fp=>vs = [] ∧ fp = []
  | d :: ds,vs,fp=>∃ v vs' f1 f2,vs = v :: vs' ∧ fp = f1 ++ f2 ∧ Rp b d v f1 ∧ Rps b ds vs' f2
end
end
abbrev Sl:=List (Option D)
section
variable {cl:Ec} {A A' L L' B:Addr → Prop} {H H':Hp} {b:Bool}
theorem Rp.weak:∀ {d:D} {v:V} {fp:List Addr},Rp cl A L H false d v fp → Rp cl A L H b d v fp
  | .v x,v,fp,h=>by simp only [Rp] at h ⊢; exact h
  | .s x,v,fp,h=>by simp only [Rp] at h ⊢; exact h
  | .n k w ds,v,fp,h=>by
    simp only [Rp] at h ⊢
    obtain ⟨a,o,vs,h1,h2,h3,h4⟩:=h
    refine ⟨a,o,vs,h1,h2,h3,?_⟩
    cases w with
    | shr=>exact h4
    | own=>exact h4
    | bor=>exact absurd h4.1 (by simp)
theorem Rps.weak:∀ {ds:List D} {vs:List V} {fp:List Addr},Rps cl A L H false ds vs fp → Rps cl A L H b ds vs fp
  | [],vs,fp,h=>by simp only [Rps] at h ⊢; exact h
  | d :: ds,vs,fp,h=>by
    simp only [Rps] at h ⊢
    obtain ⟨v,vs',f1,f2,h1,h2,h3,h4⟩:=h
    exact ⟨v,vs',f1,f2,h1,h2,h3.weak,Rps.weak h4⟩
/-- what is kept at its root holds with no borrowing -/
theorem Rp.strong:∀ {d:D} {v:V} {fp:List Addr},d.kept = true → Rp cl A L H b d v fp → Rp cl A L H false d v fp ∧ fp = []
  | .v x,v,fp,_,h=>by simp only [Rp] at h ⊢; exact ⟨h,h.2.2⟩
  | .s x,v,fp,_,h=>by simp only [Rp] at h ⊢; exact ⟨h,h.1⟩
  | .n k .shr ds,v,fp,_,h=>by
    simp only [Rp] at h ⊢
    obtain ⟨a,o,vs,h1,h2,h3,h4,h5,h6⟩:=h
    exact ⟨⟨a,o,vs,h1,h2,h3,h4,h5,h6⟩,h5⟩
  | .n k .own ds,v,fp,hk,_=>by simp [D.kept] at hk
  | .n k .bor ds,v,fp,hk,_=>by simp [D.kept] at hk
mutual
theorem Rp.step:∀ {d:D} {v:V} {fp:List Addr} {b:Bool},Rp cl A L H b d v fp → (∀ a o,H a = some o → ¬ A a → NT o → H' a = some o ∧ ¬ A' a) → (∀ a ∈ fp,H' a = H a ∧ A' a) → (b = true → ∀ a,L a → H' a = H a ∧ L' a) → Rp cl A' L' H' b d v fp
  | .v x,v,fp,b,h,_,_,_=>by simp only [Rp] at h ⊢; exact h
  | .s x,v,fp,b,h,hk,_,_=>by
    simp only [Rp] at h ⊢
    obtain ⟨h1,a,h2,h3⟩:=h
    refine ⟨h1,a,h2,?_⟩
    rcases h3 with ⟨ob,h3,h4⟩ | h3
    · exact .inl ⟨ob,(hk a _ h3 h4 NT.frz).1,(hk a _ h3 h4 NT.frz).2⟩
    · exact .inr h3
  | .n k .shr ds,v,fp,b,h,hk,hf,hl=>by
    simp only [Rp] at h ⊢
    obtain ⟨a,o,vs,h1,h2,h3,h4,h5,h6⟩:=h
    exact ⟨a,o,vs,h1,(hk a o h2 h4 h3.nt).1,h3,(hk a o h2 h4 h3.nt).2,h5,Rps.step h6 hk (by simp) (by simp)⟩
  | .n k .own ds,v,fp,b,h,hk,hf,hl=>by
    simp only [Rp] at h ⊢
    obtain ⟨a,o,vs,h1,h2,h3,h4,fp',h5,h6⟩:=h
    subst h5
    have h7:=hf a List.mem_cons_self
    exact ⟨a,o,vs,h1,h7.1.trans h2,h3,h7.2,fp',rfl,Rps.step h6 hk (fun c hc=>hf c (List.mem_cons_of_mem _ hc)) (by simp)⟩
  | .n k .bor ds,v,fp,b,h,hk,hf,hl=>by
    simp only [Rp] at h ⊢
    obtain ⟨a,o,vs,h1,h2,h3,h4,h5,h6,h7⟩:=h
    exact ⟨a,o,vs,h1,(hl h4 a h5).1.trans h2,h3,h4,(hl h4 a h5).2,h6,Rps.step h7 hk (by simp) hl⟩
theorem Rps.step:∀ {ds:List D} {vs:List V} {fp:List Addr} {b:Bool},Rps cl A L H b ds vs fp → (∀ a o,H a = some o → ¬ A a → NT o → H' a = some o ∧ ¬ A' a) → (∀ a ∈ fp,H' a = H a ∧ A' a) → (b = true → ∀ a,L a → H' a = H a ∧ L' a) → Rps cl A' L' H' b ds vs fp
  | [],vs,fp,b,h,_,_,_=>by simp only [Rps] at h ⊢; exact h
  | d :: ds,vs,fp,b,h,hk,hf,hl=>by
    simp only [Rps] at h ⊢
    obtain ⟨v,vs',f1,f2,h1,h2,h3,h4⟩:=h
    subst h2
    exact ⟨v,vs',f1,f2,h1,rfl,Rp.step h3 hk (fun c hc=>hf c (List.mem_append_left _ hc)) hl,Rps.step h4 hk (fun c hc=>hf c (List.mem_append_right _ hc)) hl⟩
end
mutual
theorem Rp.inA:∀ {d:D} {v:V} {fp:List Addr} {b:Bool},Rp cl A L H b d v fp → ∀ a ∈ fp,A a ∧ ∃ o,H a = some o
  | .v x,v,fp,b,h,a,ha=>by simp only [Rp] at h; rw [h.2.2] at ha; simp at ha
  | .s x,v,fp,b,h,a,ha=>by simp only [Rp] at h; rw [h.1] at ha; simp at ha
  | .n k .shr ds,v,fp,b,h,a,ha=>by
    simp only [Rp] at h
    obtain ⟨_,o,vs,h1,h2,h3,h4,h5,h6⟩:=h
    rw [h5] at ha; simp at ha
  | .n k .own ds,v,fp,b,h,a,ha=>by
    simp only [Rp] at h
    obtain ⟨c,o,vs,h1,h2,h3,h4,fp',h5,h6⟩:=h
    rw [h5] at ha
    rcases List.mem_cons.mp ha with rfl | ha
    · exact ⟨h4,o,h2⟩
    · exact Rps.inA h6 a ha
  | .n k .bor ds,v,fp,b,h,a,ha=>by
    simp only [Rp] at h
    obtain ⟨_,o,vs,h1,h2,h3,h4,h5,h6,h7⟩:=h
    rw [h6] at ha; simp at ha
theorem Rps.inA:∀ {ds:List D} {vs:List V} {fp:List Addr} {b:Bool},Rps cl A L H b ds vs fp → ∀ a ∈ fp,A a ∧ ∃ o,H a = some o
  | [],vs,fp,b,h,a,ha=>by simp only [Rps] at h; rw [h.2] at ha; simp at ha
  | d :: ds,vs,fp,b,h,a,ha=>by
    simp only [Rps] at h
    obtain ⟨v,vs',f1,f2,h1,h2,h3,h4⟩:=h
    rw [h2] at ha
    rcases List.mem_append.mp ha with ha | ha
    · exact Rp.inA h3 a ha
    · exact Rps.inA h4 a ha
end
mutual
def frz:D → D
  | .v x=>.v x
  | .s x=>.s x
  | .n k .shr ds=>.n k .shr ds
  | .n k .own ds=>.n k .shr (frzs ds)
  | .n k .bor ds=>.n k .bor ds
def frzs:List D → List D
  | []=>[]
  | d :: ds=>frz d :: frzs ds
end
mutual
theorem Rp.frz:∀ {d:D} {v:V} {fp:List Addr},Rp cl A L H false d v fp → (∀ a o,H a = some o → ¬ A a → ¬ A' a) → (∀ a ∈ fp,¬ A' a) → Rp cl A' L H false (frz d) v []
  | .v x,v,fp,h,_,_=>by simp only [Rp,Fs.frz] at h ⊢; exact ⟨h.1,h.2.1,trivial⟩
  | .s x,v,fp,h,hk,_=>by
    simp only [Rp,Fs.frz] at h ⊢
    obtain ⟨h1,a,h2,h3⟩:=h
    refine ⟨trivial,a,h2,?_⟩
    rcases h3 with ⟨ob,h3,h4⟩ | h3
    · exact .inl ⟨ob,h3,hk a _ h3 h4⟩
    · exact .inr h3
  | .n k .shr ds,v,fp,h,hk,hf=>by
    simp only [Rp,Fs.frz] at h ⊢
    obtain ⟨a,o,vs,h1,h2,h3,h4,h5,h6⟩:=h
    exact ⟨a,o,vs,h1,h2,h3,hk a o h2 h4,trivial,h6.step (fun c u q n _=>⟨q,hk c u q n⟩) (by simp) (by simp)⟩
  | .n k .own ds,v,fp,h,hk,hf=>by
    simp only [Rp,Fs.frz] at h ⊢
    obtain ⟨a,o,vs,h1,h2,h3,h4,fp',h5,h6⟩:=h
    subst h5
    exact ⟨a,o,vs,h1,h2,h3.any,hf a List.mem_cons_self,trivial,Rps.frz h6 hk (fun c hc=>hf c (List.mem_cons_of_mem _ hc))⟩
  | .n k .bor ds,v,fp,h,hk,hf=>by
    simp only [Rp] at h
    obtain ⟨_,_,_,_,_,_,h4,_⟩:=h
    simp at h4
theorem Rps.frz:∀ {ds:List D} {vs:List V} {fp:List Addr},Rps cl A L H false ds vs fp → (∀ a o,H a = some o → ¬ A a → ¬ A' a) → (∀ a ∈ fp,¬ A' a) → Rps cl A' L H false (frzs ds) vs []
  | [],vs,fp,h,_,_=>by simp only [Rps,frzs] at h ⊢; exact ⟨h.1,trivial⟩
  | d :: ds,vs,fp,h,hk,hf=>by
    simp only [Rps,frzs] at h ⊢
    obtain ⟨v,vs',f1,f2,h1,h2,h3,h4⟩:=h
    subst h2
    exact ⟨v,vs',[],[],h1,rfl,Rp.frz h3 hk (fun c hc=>hf c (List.mem_append_left _ hc)),Rps.frz h4 hk (fun c hc=>hf c (List.mem_append_right _ hc))⟩
end
mutual
def lend:D → D
  | .v x=>.v x
  | .s x=>.s x
  | .n k .shr ds=>.n k .shr ds
  | .n k .own ds=>.n k .bor (lends ds)
  | .n k .bor ds=>.n k .bor ds
def lends:List D → List D
  | []=>[]
  | d :: ds=>lend d :: lends ds
end
mutual
theorem Rp.lend:∀ {d:D} {v:V} {fp:List Addr} {b:Bool},Rp cl A L H b d v fp → (∀ a ∈ fp,L' a) → (∀ a,L a → L' a) → Rp cl A L' H true (lend d) v []
  | .v x,v,fp,b,h,_,_=>by simp only [Rp,Fs.lend] at h ⊢; exact ⟨h.1,h.2.1,trivial⟩
  | .s x,v,fp,b,h,_,_=>by
    simp only [Rp,Fs.lend] at h ⊢
    exact ⟨trivial,h.2⟩
  | .n k .shr ds,v,fp,b,h,hf,hl=>by
    simp only [Rp,Fs.lend] at h ⊢
    obtain ⟨a,o,vs,h1,h2,h3,h4,h5,h6⟩:=h
    exact ⟨a,o,vs,h1,h2,h3,h4,trivial,h6.step (fun c u q n _=>⟨q,n⟩) (by simp) (by simp)⟩
  | .n k .own ds,v,fp,b,h,hf,hl=>by
    simp only [Rp,Fs.lend] at h ⊢
    obtain ⟨a,o,vs,h1,h2,h3,h4,fp',h5,h6⟩:=h
    subst h5
    exact ⟨a,o,vs,h1,h2,h3.any,trivial,hf a List.mem_cons_self,trivial,Rps.lend h6 (fun c hc=>hf c (List.mem_cons_of_mem _ hc)) hl⟩
  | .n k .bor ds,v,fp,b,h,hf,hl=>by
    simp only [Rp,Fs.lend] at h ⊢
    obtain ⟨a,o,vs,h1,h2,h3,h4,h5,h6,h7⟩:=h
    subst h4
    exact ⟨a,o,vs,h1,h2,h3,trivial,hl a h5,trivial,h7.step (fun c u q n _=>⟨q,n⟩) (by simp) (fun _ c hc=>⟨rfl,hl c hc⟩)⟩
theorem Rps.lend:∀ {ds:List D} {vs:List V} {fp:List Addr} {b:Bool},Rps cl A L H b ds vs fp → (∀ a ∈ fp,L' a) → (∀ a,L a → L' a) → Rps cl A L' H true (lends ds) vs []
  | [],vs,fp,b,h,_,_=>by simp only [Rps,lends] at h ⊢; exact ⟨h.1,trivial⟩
  | d :: ds,vs,fp,b,h,hf,hl=>by
    simp only [Rps,lends] at h ⊢
    obtain ⟨v,vs',f1,f2,h1,h2,h3,h4⟩:=h
    subst h2
    exact ⟨v,vs',[],[],h1,rfl,Rp.lend h3 (fun c hc=>hf c (List.mem_append_left _ hc)) hl,Rps.lend h4 (fun c hc=>hf c (List.mem_append_right _ hc)) hl⟩
end
theorem Rps.length:∀ {ds:List D} {vs:List V} {fp:List Addr},Rps cl A L H b ds vs fp → ds.length = vs.length
  | [],vs,fp,h=>by simp only [Rps] at h; simp [h.1]
  | d :: ds,vs,fp,h=>by
    simp only [Rps] at h
    obtain ⟨v,vs',f1,f2,h1,h2,h3,h4⟩:=h
    rw [h1,List.length_cons,List.length_cons,Rps.length h4]
theorem Rps.get:∀ {ds:List D} {vs:List V} {fp:List Addr} {i:Nat} {d:D},Rps cl A L H b ds vs fp → ds[i]? = some d → ∃ v f1,vs[i]? = some v ∧ Rp cl A L H b d v f1 ∧ ∀ a ∈ f1,a ∈ fp
  | [],vs,fp,i,d,h,e=>by simp at e
  | d0 :: ds,vs,fp,i,d,h,e=>by
    simp only [Rps] at h
    obtain ⟨v,vs',f1,f2,h1,h2,h3,h4⟩:=h
    subst h1 h2
    cases i with
    | zero =>
      simp only [List.getElem?_cons_zero,Option.some.injEq] at e
      subst e
      exact ⟨v,f1,rfl,h3,fun a ha=>List.mem_append_left _ ha⟩
    | succ i =>
      simp only [List.getElem?_cons_succ] at e ⊢
      obtain ⟨v2,f3,g1,g2,g3⟩:=Rps.get h4 e
      exact ⟨v2,f3,g1,g2,fun a ha=>List.mem_append_right _ (g3 a ha)⟩
theorem Rps.append:∀ {ds es:List D} {vs ws:List V} {f g:List Addr},Rps cl A L H b ds vs f → Rps cl A L H b es ws g → Rps cl A L H b (ds ++ es) (vs ++ ws) (f ++ g)
  | [],es,vs,ws,f,g,h,h'=>by simp only [Rps] at h; rw [h.1,h.2]; exact h'
  | d :: ds,es,vs,ws,f,g,h,h'=>by
    simp only [Rps,List.cons_append] at h ⊢
    obtain ⟨v,vs',f1,f2,h1,h2,h3,h4⟩:=h
    subst h1 h2
    exact ⟨v,vs' ++ ws,f1,f2 ++ g,rfl,by rw [List.append_assoc],h3,Rps.append h4 h'⟩
end
end Fs
namespace Fs
open PySem L2
inductive Out (α:Type) | ok (a:α) (s:Sl) | exc (c:Nat) (xs:List D) (s:Sl) | bad
def Out.bind {α β:Type}:Out α → (α → Sl → Out β) → Out β
  | .ok a s,f=>f a s
  | .exc c xs s,_=>.exc c xs s
  | .bad,_=>.bad
inductive Flow | nx | rt (d:D) | bk | ct
abbrev DE:=Sl → Out D
abbrev DT:=Sl → Out Bool
abbrev DA:=Sl → Out (List D)
abbrev DS:=Sl → Out Flow
abbrev PP:=Sl → Option D
abbrev PT:=Sl → Option Bool
section
variable (cl:Ec) (A L:Addr → Prop) (H:Hp)
def Rpo:Sl → List (Option V) → List Addr → Prop
  | [],σ,fp=>σ = [] ∧ fp = []
  | none :: δ,σ,fp=>∃ x σ',σ = x :: σ' ∧ Rpo δ σ' fp
  | some d :: δ,σ,fp=>∃ v σ' f1 f2,σ = some v :: σ' ∧ fp = f1 ++ f2 ∧ Rp cl A L H true d v f1 ∧ Rpo δ σ' f2
end
section
variable {cl:Ec} {A A' A'' L L' B:Addr → Prop} {H H' H'':Hp} {b:Bool}
theorem Rpo.step:∀ {δ:Sl} {σ:List (Option V)} {fp:List Addr},Rpo cl A L H δ σ fp → (∀ a o,H a = some o → ¬ A a → NT o → H' a = some o ∧ ¬ A' a) → (∀ a ∈ fp,H' a = H a ∧ A' a) → (∀ a,L a → H' a = H a ∧ L' a) → Rpo cl A' L' H' δ σ fp
  | [],σ,fp,h,_,_,_=>by simp only [Rpo] at h ⊢; exact h
  | none :: δ,σ,fp,h,hk,hf,hl=>by
    simp only [Rpo] at h ⊢
    obtain ⟨x,σ',h1,h2⟩:=h
    exact ⟨x,σ',h1,h2.step hk hf hl⟩
  | some d :: δ,σ,fp,h,hk,hf,hl=>by
    simp only [Rpo] at h ⊢
    obtain ⟨v,σ',f1,f2,h1,h2,h3,h4⟩:=h
    subst h2
    exact ⟨v,σ',f1,f2,h1,rfl,h3.step hk (fun c hc=>hf c (List.mem_append_left _ hc)) (fun _=>hl),h4.step hk (fun c hc=>hf c (List.mem_append_right _ hc)) hl⟩
theorem Rpo.inA:∀ {δ:Sl} {σ:List (Option V)} {fp:List Addr},Rpo cl A L H δ σ fp → ∀ a ∈ fp,A a ∧ ∃ o,H a = some o
  | [],σ,fp,h,a,ha=>by simp only [Rpo] at h; rw [h.2] at ha; simp at ha
  | none :: δ,σ,fp,h,a,ha=>by
    simp only [Rpo] at h
    obtain ⟨x,σ',h1,h2⟩:=h
    exact h2.inA a ha
  | some d :: δ,σ,fp,h,a,ha=>by
    simp only [Rpo] at h
    obtain ⟨v,σ',f1,f2,h1,h2,h3,h4⟩:=h
    rw [h2] at ha
    rcases List.mem_append.mp ha with ha | ha
    · exact h3.inA a ha
    · exact h4.inA a ha
theorem Rpo.length:∀ {δ:Sl} {σ:List (Option V)} {fp:List Addr},Rpo cl A L H δ σ fp → δ.length = σ.length
  | [],σ,fp,h=>by simp only [Rpo] at h; simp [h.1]
  | none :: δ,σ,fp,h=>by
    simp only [Rpo] at h
    obtain ⟨x,σ',h1,h2⟩:=h
    simp [h1,h2.length]
  | some d :: δ,σ,fp,h=>by
    simp only [Rpo] at h
    obtain ⟨v,σ',f1,f2,h1,h2,h3,h4⟩:=h
    simp [h1,h4.length]
theorem Rpo.get:∀ {δ:Sl} {σ:List (Option V)} {fp:List Addr} {i:Nat} {d:D},Rpo cl A L H δ σ fp → δ[i]? = some (some d) → ∃ v f1,σ[i]? = some (some v) ∧ Rp cl A L H true d v f1 ∧ ∀ a ∈ f1,a ∈ fp
  | [],σ,fp,i,d,h,e=>by simp at e
  | none :: δ,σ,fp,i,d,h,e=>by
    simp only [Rpo] at h
    obtain ⟨x,σ',h1,h2⟩:=h
    subst h1
    cases i with
    | zero=>simp at e
    | succ i=>simp only [List.getElem?_cons_succ] at e ⊢; exact h2.get e
  | some d0 :: δ,σ,fp,i,d,h,e=>by
    simp only [Rpo] at h
    obtain ⟨v,σ',f1,f2,h1,h2,h3,h4⟩:=h
    subst h1 h2
    cases i with
    | zero =>
      simp only [List.getElem?_cons_zero,Option.some.injEq] at e
      subst e
      exact ⟨v,f1,rfl,h3,fun a ha=>List.mem_append_left _ ha⟩
    | succ i =>
      simp only [List.getElem?_cons_succ] at e ⊢
      obtain ⟨v2,f3,g1,g2,g3⟩:=h4.get e
      exact ⟨v2,f3,g1,g2,fun a ha=>List.mem_append_right _ (g3 a ha)⟩
/-- a slot is taken out: what it held,and the rest -/
theorem Rpo.take:∀ {δ:Sl} {σ:List (Option V)} {fp:List Addr} {i:Nat} {d:D},Rpo cl A L H δ σ fp → δ[i]? = some (some d) → fp.Nodup →
    ∃ v f1 f2,σ[i]? = some (some v) ∧ Rp cl A L H true d v f1 ∧ Rpo cl A L H (δ.set i none) σ f2 ∧ (f1 ++ f2).Nodup ∧ ∀ a,a ∈ f1 ++ f2 ↔ a ∈ fp
  | [],σ,fp,i,d,h,e,nd=>by simp at e
  | none :: δ,σ,fp,i,d,h,e,nd=>by
    simp only [Rpo] at h
    obtain ⟨x,σ',h1,h2⟩:=h
    subst h1
    cases i with
    | zero=>simp at e
    | succ i =>
      simp only [List.getElem?_cons_succ,List.set_cons_succ] at e ⊢
      obtain ⟨v,f1,f2,g1,g2,g3,g4,g5⟩:=h2.take e nd
      exact ⟨v,f1,f2,g1,g2,by simp only [Rpo]; exact ⟨x,σ',rfl,g3⟩,g4,g5⟩
  | some d0 :: δ,σ,fp,i,d,h,e,nd=>by
    simp only [Rpo] at h
    obtain ⟨v,σ',f1,f2,h1,h2,h3,h4⟩:=h
    subst h1 h2
    cases i with
    | zero =>
      simp only [List.getElem?_cons_zero,Option.some.injEq,List.set_cons_zero] at e ⊢
      subst e
      exact ⟨v,f1,f2,rfl,h3,by simp only [Rpo]; exact ⟨_,σ',rfl,h4⟩,nd,fun a=>Iff.rfl⟩
    | succ i =>
      simp only [List.getElem?_cons_succ,List.set_cons_succ] at e ⊢
      have nd2:=List.nodup_append.mp nd
      obtain ⟨w,g1,g2,k1,k2,k3,k4,k5⟩:=h4.take e nd2.2.1
      refine ⟨w,g1,f1 ++ g2,k1,k2,by simp only [Rpo]; exact ⟨v,σ',f1,g2,rfl,rfl,h3,k3⟩,?_,?_⟩
      · have k4':=List.nodup_append.mp k4
        refine List.nodup_append.mpr ⟨k4'.1,List.nodup_append.mpr ⟨nd2.1,k4'.2.1,fun a ha c hc=>nd2.2.2 a ha c ((k5 c).mp (List.mem_append_right _ hc))⟩,fun a ha c hc=>?_⟩
        rcases List.mem_append.mp hc with hc | hc
        · exact fun e=>nd2.2.2 c hc a ((k5 a).mp (List.mem_append_left _ ha)) e.symm
        · exact k4'.2.2 a ha c hc
      · intro a
        have:=k5 a
        simp only [List.mem_append] at this ⊢
        constructor
        · rintro (q | q | q)
          · exact .inr (this.mp (.inl q))
          · exact .inl q
          · exact .inr (this.mp (.inr q))
        · rintro (q | q)
          · exact .inr (.inl q)
          · rcases this.mpr q with z | z
            · exact .inl z
            · exact .inr (.inr z)
/-- a slot is filled -/
theorem Rpo.put:∀ {δ:Sl} {σ:List (Option V)} {fp:List Addr} {i:Nat} {d:D} {v:V} {f1:List Addr},Rpo cl A L H δ σ fp → i < δ.length → Rp cl A L H true d v f1 → (f1 ++ fp).Nodup →
    ∃ f2,Rpo cl A L H (δ.set i (some d)) (σ.set i (some v)) f2 ∧ f2.Nodup ∧ ∀ a,a ∈ f2 → a ∈ f1 ++ fp
  | [],σ,fp,i,d,v,f1,h,e,hd,nd=>by simp at e
  | none :: δ,σ,fp,i,d,v,f1,h,e,hd,nd=>by
    simp only [Rpo] at h
    obtain ⟨x,σ',h1,h2⟩:=h
    subst h1
    cases i with
    | zero=>exact ⟨f1 ++ fp,by simp only [List.set_cons_zero,Rpo]; exact ⟨v,σ',f1,fp,rfl,rfl,hd,h2⟩,nd,fun a ha=>ha⟩
    | succ i =>
      obtain ⟨f2,g1,g2,g3⟩:=h2.put (i:=i) (by simpa using e) hd nd
      exact ⟨f2,by simp only [List.set_cons_succ,Rpo]; exact ⟨x,_,rfl,g1⟩,g2,g3⟩
  | some d0 :: δ,σ,fp,i,d,v,f1,h,e,hd,nd=>by
    simp only [Rpo] at h
    obtain ⟨v0,σ',g1,g2,h1,h2,h3,h4⟩:=h
    subst h1 h2
    have nd2:=List.nodup_append.mp nd
    have nd3:=List.nodup_append.mp nd2.2.1
    cases i with
    | zero =>
      refine ⟨f1 ++ g2,by simp only [List.set_cons_zero,Rpo]; exact ⟨v,σ',f1,g2,rfl,rfl,hd,h4⟩,?_,?_⟩
      · exact List.nodup_append.mpr ⟨nd2.1,nd3.2.1,fun a ha c hc=>nd2.2.2 a ha c (List.mem_append_right _ hc)⟩
      · intro a ha
        simp only [List.mem_append] at ha ⊢
        rcases ha with ha | ha
        · exact .inl ha
        · exact .inr (.inr ha)
    | succ i =>
      obtain ⟨f2,k1,k2,k3⟩:=h4.put (i:=i) (by simpa using e) hd (List.nodup_append.mpr ⟨nd2.1,nd3.2.1,fun a ha c hc=>nd2.2.2 a ha c (List.mem_append_right _ hc)⟩)
      refine ⟨g1 ++ f2,by simp only [List.set_cons_succ,Rpo]; exact ⟨v0,_,g1,f2,rfl,rfl,h3,k1⟩,?_,?_⟩
      · refine List.nodup_append.mpr ⟨nd3.1,k2,fun a ha c hc e=>?_⟩
        subst e
        rcases List.mem_append.mp (k3 a hc) with q | q
        · exact nd2.2.2 a q a (List.mem_append_left _ ha) rfl
        · exact nd3.2.2 a ha a q rfl
      · intro a ha
        simp only [List.mem_append] at ha ⊢
        rcases ha with ha | ha
        · exact .inr (.inl ha)
        · rcases List.mem_append.mp (k3 a ha) with q | q
          · exact .inl q
          · exact .inr (.inr q)
/-- a slot is emptied (its thing is let go) -/
theorem Rpo.drop:∀ {δ:Sl} {σ:List (Option V)} {fp:List Addr} {i:Nat},Rpo cl A L H δ σ fp → fp.Nodup → ∃ f2,Rpo cl A L H (δ.set i none) σ f2 ∧ f2.Nodup ∧ ∀ a,a ∈ f2 → a ∈ fp:=by
  intro δ σ fp i h nd
  cases e:δ[i]? with
  | none =>
    have:δ.set i none = δ:=List.set_eq_of_length_le (List.getElem?_eq_none_iff.mp e)
    rw [this]
    exact ⟨fp,h,nd,fun a ha=>ha⟩
  | some o =>
    cases o with
    | none =>
      have:δ.set i none = δ:=by
        obtain ⟨hl,e2⟩:=List.getElem?_eq_some_iff.mp e
        rw [← e2]
        exact List.set_getElem_self hl
      rw [this]
      exact ⟨fp,h,nd,fun a ha=>ha⟩
    | some d =>
      obtain ⟨v,f1,f2,g1,g2,g3,g4,g5⟩:=h.take e nd
      exact ⟨f2,g3,(List.nodup_append.mp g4).2.1,fun a ha=>(g5 a).mp (List.mem_append_right _ ha)⟩
/-- σ may say anything where the state says nothing -/
theorem Rpo.blur:∀ {δ:Sl} {σ:List (Option V)} {fp:List Addr} {i:Nat} {x:Option V},Rpo cl A L H δ σ fp → δ[i]? = some none → Rpo cl A L H δ (σ.set i x) fp
  | [],σ,fp,i,x,h,e=>by simp at e
  | none :: δ,σ,fp,i,x,h,e=>by
    simp only [Rpo] at h ⊢
    obtain ⟨y,σ',h1,h2⟩:=h
    subst h1
    cases i with
    | zero=>exact ⟨x,σ',rfl,h2⟩
    | succ i=>exact ⟨y,σ'.set i x,rfl,h2.blur (by simpa using e)⟩
  | some d :: δ,σ,fp,i,x,h,e=>by
    simp only [Rpo] at h ⊢
    obtain ⟨v,σ',f1,f2,h1,h2,h3,h4⟩:=h
    subst h1
    cases i with
    | zero=>simp at e
    | succ i=>exact ⟨v,σ'.set i x,f1,f2,rfl,h2,h3,h4.blur (by simpa using e)⟩
/-- the tables of code objects; they are nobody's -/
structure Tb (cl:Ec) (A:Addr → Prop) (H:Hp):Prop where
  n:NdefX.TabsN cl.T H
  a:∀ p ∈ cl.T,¬ A p.1 ∧ ∀ ps pos c,H p.1 = some (.tbl ps) → codeAmong pos ps.toList = some (.ref c) → ¬ A c
theorem Tb.sub {cl:Ec} {A A':Addr → Prop} {H:Hp} (t:Tb cl A H) (h:∀ a,A' a → A a):Tb cl A' H:=⟨t.n,fun p hp=>⟨fun q=>(t.a p hp).1 (h _ q),fun ps pos c e1 e2 q=>(t.a p hp).2 ps pos c e1 e2 (h _ q)⟩⟩
theorem Tb.grow {cl:Ec} {A A':Addr → Prop} {H H':Hp} (t:Tb cl A H) (e:∀ a o,H a = some o → H' a = some o) (h:∀ a,A' a → A a ∨ H a = none):Tb cl A' H':=⟨t.n.ext e,fun p hp=>by
  obtain ⟨ps,e1,e2,e3⟩:=t.n p hp
  refine ⟨fun q=>?_,fun ps' pos c e4 e5 q=>?_⟩
  · rcases h _ q with z | z
    · exact (t.a p hp).1 z
    · rw [e1] at z; cases z
  · rw [e _ _ e1] at e4
    cases e4
    obtain ⟨c',e6,e7⟩:=e3 pos _ e5
    cases e6
    rcases h _ q with z | z
    · exact (t.a p hp).2 _ pos c e1 e5 z
    · rw [e7] at z; cases z⟩
theorem Tb.upd {cl:Ec} {A:Addr → Prop} {H:Hp} {a:Addr} {o o':HO} (t:Tb cl A H) (n:NdefX.TabsN cl.T (L2.upd H a o')) (h:H a = some o) (nt:NT o):Tb cl A (L2.upd H a o'):=⟨n,fun p hp=>by
  obtain ⟨ps,e1,_⟩:=t.n p hp
  have ne:p.1 ≠ a:=fun z=>by
    rw [z,h] at e1
    exact nt ps (Option.some.inj e1)
  exact ⟨(t.a p hp).1,fun ps' pos c e4=>(t.a p hp).2 ps' pos c (by rw [upd_ne ne] at e4; exact e4)⟩⟩
theorem Tb.put {cl:Ec} {A:Addr → Prop} {H:Hp} {k:Kd} {a:Addr} {vs:List V} {o o':HO} (t:Tb cl A H) (h:H a = some o) (hs:Shape cl k a vs o) (hm:k.mut = true):Tb cl A (L2.upd H a o'):=t.upd (ZmN t.n h hs hm) h (Shp.nt (w:=.shr) (.inl ⟨hs,fun z=>by cases z⟩))
structure Jt (p:Bool) (cl:Ec) (A L B:Addr → Prop) (H:Hp) (ts:List D) (ws:List V) (δ:Sl) (σ:List (Option V)):Prop where
  ex:∃ f g,Rps cl A L H false ts ws f ∧ Rpo cl A L H δ σ g ∧ (f ++ g).Nodup ∧ (∀ a ∈ f,¬ B a) ∧ (p = false → ∀ a ∈ g,¬ B a)
  lb:∀ a,L a → B a
  ba:∀ a,B a → A a
  ad:∀ a,A a → H a ≠ none
  tb:Tb cl A H
def Ad (cl:Ec) (A:Addr → Prop) (H:Hp):Prop:=(∀ a,A a → H a ≠ none) ∧ Tb cl A H
def Ex (H H':Hp):Prop:=∀ a o,H a = some o → H' a = some o
theorem Ex.trans (x:Ex H H') (y:Ex H' H''):Ex H H'':=fun a o h=>y a o (x a o h)
theorem Ex.new {p:Addr} {o:HO} (h:H p = none):Ex H (upd H p o):=fun a u e=>by rw [upd_ne (ne_of_none e h)]; exact e
structure Nx (A B:Addr → Prop) (H:Hp) (A':Addr → Prop) (H':Hp):Prop where
  new:∀ a,A' a → A a ∨ H a = none
  keep:∀ a o,H a = some o → ¬ A a → NT o → H' a = some o
  prot:∀ a,B a → H' a = H a ∧ A' a
  low:∀ a,H' a = none → H a = none
theorem Nx.refl (hb:∀ a,B a → A a):Nx A B H A H:=⟨fun _ h=>.inl h,fun _ _ h _ _=>h,fun a h=>⟨rfl,hb a h⟩,fun _ h=>h⟩
theorem Nx.trans (x:Nx A B H A' H') (y:Nx A' B H' A'' H''):Nx A B H A'' H'' where
  new:=fun a h=>by
    rcases y.new a h with h | h
    · exact x.new a h
    · exact .inr (x.low a h)
  keep:=fun a o h n t=>y.keep a o (x.keep a o h n t) (fun q=>by
    rcases x.new a q with z | z
    · exact n z
    · rw [h] at z; cases z) t
  prot:=fun a h=>⟨(y.prot a h).1.trans (x.prot a h).1,(y.prot a h).2⟩
  low:=fun a h=>x.low a (y.low a h)
theorem Nx.weak {B':Addr → Prop} (x:Nx A B' H A' H') (h:∀ a,B a → B' a):Nx A B H A' H':=⟨x.new,x.keep,fun a z=>x.prot a (h a z),x.low⟩
theorem Nx.both (x:Nx A B H A' H'):∀ a o,H a = some o → ¬ A a → NT o → H' a = some o ∧ ¬ A' a:=fun a o h n t=>⟨x.keep a o h n t,fun q=>by
  rcases x.new a q with z | z
  · exact n z
  · rw [h] at z; cases z⟩
variable {ts us:List D} {ws xs:List V} {δ δ':Sl} {σ σ':List (Option V)}
variable {p:Bool}
theorem Jt.adt (j:Jt p cl A L B H ts ws δ σ):Ad cl A H:=⟨j.ad,j.tb⟩
/-- the temporaries are put out of reach -/
theorem Jt.hide (j:Jt p cl A L B H ts ws δ σ):∃ f,Rps cl A L H false ts ws f ∧ f.Nodup ∧ (∀ a ∈ f,¬ B a) ∧ Jt p cl A L (fun a=>B a ∨ a ∈ f) H [] [] δ σ:=by
  obtain ⟨f,g,h1,h2,h3,h4,h5⟩:=j.ex
  have nd:=List.nodup_append.mp h3
  refine ⟨f,h1,nd.1,h4,⟨⟨[],g,by simp [Rps],h2,by simpa using nd.2.1,by simp,fun hp a ha=>?_⟩,fun a h=>.inl (j.lb a h),fun a h=>?_,j.ad,j.tb⟩⟩
  · rintro (q | q)
    · exact h5 hp a ha q
    · exact nd.2.2 a q a ha rfl
  · rcases h with h | h
    · exact j.ba a h
    · exact (h1.inA a h).1
theorem Jt.back {f:List Addr} (h0:Jt p cl A L B H ts ws δ σ) (h1:Rps cl A L H false ts ws f) (nf:f.Nodup) (hf:∀ a ∈ f,¬ B a) (lb:∀ a,L a → B a) (x:Nx A (fun a=>B a ∨ a ∈ f) H A' H') (j:Jt false cl A' L (fun a=>B a ∨ a ∈ f) H' us xs δ' σ') :
    Jt p cl A' L B H' (ts ++ us) (ws ++ xs) δ' σ':=by
  obtain ⟨f2,g,k1,k2,k3,k4,k5⟩:=j.ex
  refine ⟨⟨f ++ f2,g,Rps.append (h1.step x.both (fun a ha=>x.prot a (.inr ha)) (by simp)) k1,k2,?_,?_,?_⟩,lb,fun a h=>j.ba a (.inl h),j.ad,j.tb⟩
  · rw [List.append_assoc]
    refine List.nodup_append.mpr ⟨nf,k3,fun a ha c hc e=>?_⟩
    subst e
    rcases List.mem_append.mp hc with hc | hc
    · exact k4 a hc (.inr ha)
    · exact k5 rfl a hc (.inr ha)
  · intro a ha q
    rcases List.mem_append.mp ha with ha | ha
    · exact hf a ha q
    · exact k4 a ha (.inl q)
  · intro _ a ha q
    exact k5 rfl a ha (.inl q)
/-- the same where nothing of the state changes -/
theorem Jt.backP {f:List Addr} (h0:Jt true cl A L B H ts ws δ σ) (x:Nx A A H A' H') (j:Jt true cl A' L A H' us xs δ σ) :
    Jt true cl A' L B H' (ts ++ us) (ws ++ xs) δ σ:=by
  obtain ⟨f,g,h1,h2,h3,h4,h5⟩:=h0.ex
  obtain ⟨f2,g2,k1,k2,k3,k4,k5⟩:=j.ex
  have nd:=List.nodup_append.mp h3
  have fA:∀ a ∈ f,A a:=fun a ha=>(h1.inA a ha).1
  have gA:∀ a ∈ g,A a:=fun a ha=>(h2.inA a ha).1
  have nd2:=List.nodup_append.mp k3
  refine ⟨⟨f ++ f2,g,Rps.append (h1.step x.both (fun a ha=>x.prot a (fA a ha)) (by simp)) k1,h2.step x.both (fun a ha=>x.prot a (gA a ha)) (fun a h=>⟨(x.prot a (h0.ba a (h0.lb a h))).1,h⟩),?_,?_,by simp⟩,h0.lb,fun a h=>(x.prot a (h0.ba a h)).2,j.ad,j.tb⟩
  · rw [List.append_assoc]
    refine List.nodup_append.mpr ⟨nd.1,List.nodup_append.mpr ⟨nd2.1,nd.2.1,fun a ha c hc e=>?_⟩,fun a ha c hc e=>?_⟩
    · subst e; exact k4 a ha (gA a hc)
    · subst e
      rcases List.mem_append.mp hc with hc | hc
      · exact k4 a hc (fA a ha)
      · exact nd.2.2 a ha a hc rfl
  · intro a ha q
    rcases List.mem_append.mp ha with ha | ha
    · exact h4 a ha q
    · exact k4 a ha (h0.ba a q)
theorem Jt.any (j:Jt false cl A L B H ts ws δ σ):Jt p cl A L B H ts ws δ σ:=by
  obtain ⟨f,g,h1,h2,h3,h4,h5⟩:=j.ex
  exact ⟨⟨f,g,h1,h2,h3,h4,fun _=>h5 rfl⟩,j.lb,j.ba,j.ad,j.tb⟩
theorem Jt.toPure (j:Jt p cl A L B H [] [] δ σ):Jt true cl A L A H [] [] δ σ:=by
  obtain ⟨f,g,h1,h2,h3,h4,h5⟩:=j.ex
  have e:f = []:=by simp only [Rps] at h1; exact h1.2
  subst e
  exact ⟨⟨[],g,h1,h2,h3,by simp,by simp⟩,fun a h=>j.ba a (j.lb a h),fun _ h=>h,j.ad,j.tb⟩
/-- behind a pure expression -/
theorem Jt.ofPure {d:List D} {v:List V} (j0:Jt p cl A L B H [] [] δ σ) (x:Nx A A H A' H') (j:Jt true cl A' L A H' d v δ σ):Jt p cl A' L B H' d v δ σ:=by
  obtain ⟨f0,g,h1,h2,h3,h4,h5⟩:=j0.ex
  obtain ⟨f2,g2,k1,k2,k3,k4,k5⟩:=j.ex
  have nd2:=List.nodup_append.mp k3
  have nd:=List.nodup_append.mp h3
  have gA:∀ a ∈ g,A a:=fun a ha=>(h2.inA a ha).1
  refine ⟨⟨f2,g,k1,h2.step x.both (fun a ha=>x.prot a (gA a ha)) (fun a h=>⟨(x.prot a (j0.ba a (j0.lb a h))).1,h⟩),List.nodup_append.mpr ⟨nd2.1,nd.2.1,fun a ha c hc e=>?_⟩,fun a ha q=>k4 a ha (j0.ba a q),fun hp a ha=>h5 hp a ha⟩,j0.lb,fun a h=>(x.prot a (j0.ba a h)).2,j.ad,j.tb⟩
  subst e
  exact k4 a ha (gA a hc)
/-- temporaries are let go -/
theorem Jt.drop (j:Jt p cl A L B H ts ws δ σ):Jt p cl A L B H [] [] δ σ:=by
  obtain ⟨f,g,h1,h2,h3,h4,h5⟩:=j.ex
  exact ⟨⟨[],g,by simp [Rps],h2,by simpa using (List.nodup_append.mp h3).2.1,by simp,h5⟩,j.lb,j.ba,j.ad,j.tb⟩
theorem Jt.drop0 (j:Jt p cl A L B H ts ws δ σ):∃ g,Rpo cl A L H δ σ g ∧ g.Nodup ∧ (p = false → ∀ a ∈ g,¬ B a):=by
  obtain ⟨f,g,h1,h2,h3,h4,h5⟩:=j.ex
  exact ⟨g,h2,(List.nodup_append.mp h3).2.1,h5⟩
theorem Jt.leaf {s:V} (j:Jt p cl A L B H ts ws δ σ) (h:sc s = true):Jt p cl A L B H [.v s] [s] δ σ:=by
  obtain ⟨g,h2,h3,h5⟩:=j.drop0
  exact ⟨⟨[],g,by simp only [Rps,Rp]; exact ⟨s,[],[],[],rfl,rfl,⟨h,rfl,rfl⟩,rfl,rfl⟩,h2,by simpa using h3,by simp,h5⟩,j.lb,j.ba,j.ad,j.tb⟩
/-- one that is kept,found in the state -/
theorem Jt.kept {d:D} {v:V} {fp:List Addr} (j:Jt p cl A L B H ts ws δ σ) (hk:d.kept = true) (h:Rp cl A L H b d v fp):Jt p cl A L B H [d] [v] δ σ:=by
  obtain ⟨g,h2,h3,h5⟩:=j.drop0
  have h6:=h.strong hk
  obtain ⟨h6,rfl⟩:=h6
  exact ⟨⟨[],g,by simp only [Rps]; exact ⟨v,[],[],[],rfl,rfl,h6,rfl,rfl⟩,h2,by simpa using h3,by simp,h5⟩,j.lb,j.ba,j.ad,j.tb⟩
/-- a new object holds the temporaries -/
theorem Jt.alloc {k:Kd} {p0:Addr} {o:HO} (j:Jt p cl A L B H ts ws δ σ) (hp:H p0 = none) (hs:Shape cl k p0 ws o) (hm:k.mut = true:=by rfl) :
    Nx A B H (fun a=>A a ∨ a = p0) (upd H p0 o) ∧ Jt p cl (fun a=>A a ∨ a = p0) L B (upd H p0 o) [.n k .own ts] [.ref p0] δ σ:=by
  have hA:¬ A p0:=fun q=>j.ad p0 q hp
  have st:∀ a u,H a = some u → ¬ A a → upd H p0 o a = some u ∧ ¬ (A a ∨ a = p0):=fun a u h n=>by
    have ne:a ≠ p0:=ne_of_none h hp
    exact ⟨by rw [upd_ne ne]; exact h,fun q=>q.elim n ne⟩
  have sf:∀ a,A a → upd H p0 o a = H a:=fun a h=>upd_ne (fun e=>hA (e ▸ h))
  refine ⟨⟨fun a h=>h.elim .inl fun e=>.inr (e ▸ hp),fun a u h n _=>(st a u h n).1,fun a h=>⟨sf a (j.ba a h),.inl (j.ba a h)⟩,fun a h=>?_⟩,?_⟩
  · by_cases e:a = p0
    · rw [e]; exact hp
    · rw [upd_ne e] at h; exact h
  · obtain ⟨f,g,h1,h2,h3,h4,h5⟩:=j.ex
    have ia:∀ a,a ∈ f ++ g → A a:=fun a ha=>by
      rcases List.mem_append.mp ha with ha | ha
      · exact (h1.inA a ha).1
      · exact (h2.inA a ha).1
    refine ⟨⟨p0 :: f,g,?_,h2.step (fun a u h n _=>st a u h n) (fun a ha=>⟨sf a (ia a (List.mem_append_right _ ha)),.inl (ia a (List.mem_append_right _ ha))⟩) (fun a h=>⟨sf a (j.ba a (j.lb a h)),h⟩),?_,?_,h5⟩,j.lb,fun a h=>.inl (j.ba a h),fun a h=>?_,j.tb.grow (Ex.new hp) fun a h=>h.imp id fun e=>by rw [e]; exact hp⟩
    · simp only [Rps,Rp]
      exact ⟨.ref p0,[],p0 :: f,[],rfl,by simp,⟨p0,o,ws,rfl,upd_same,.inl ⟨hs,fun _=>hm⟩,.inr rfl,f,rfl,h1.step (fun a u h n _=>st a u h n) (fun a ha=>⟨sf a (ia a (List.mem_append_left _ ha)),.inl (ia a (List.mem_append_left _ ha))⟩) (by simp)⟩,rfl,rfl⟩
    · rw [List.cons_append]
      exact List.nodup_cons.mpr ⟨fun q=>hA (ia p0 q),h3⟩
    · intro a ha
      rcases List.mem_cons.mp ha with rfl | ha
      · exact fun q=>hA (j.ba _ q)
      · exact h4 a ha
    · rcases h with h | rfl
      · rw [sf a h]; exact j.ad a h
      · rw [upd_same]; simp
theorem ZgV:∀ {ts:List D} {ws:List V} {f:List Addr},ts.all D.kept = true → Rps cl A L H false ts ws f → f = []
  | [],ws,f,_,h=>by simp only [Rps] at h; exact h.2
  | d :: ds,ws,f,hk,h=>by
    simp only [Rps] at h
    obtain ⟨v,vs',f1,f2,h1,h2,h3,h4⟩:=h
    simp only [List.all_cons,Bool.and_eq_true] at hk
    rw [h2,(h3.strong hk.1).2,ZgV hk.2 h4]
    rfl
/-- the same,shared: all that it holds is kept -/
theorem Jt.allocS {k:Kd} {p0:Addr} {o:HO} (j:Jt p cl A L B H ts ws δ σ) (hk:ts.all D.kept = true) (hp:H p0 = none) (hs:Shape cl k p0 ws o) :
    Nx A B H A (upd H p0 o) ∧ Jt p cl A L B (upd H p0 o) [.n k .shr ts] [.ref p0] δ σ:=by
  have hA:¬ A p0:=fun q=>j.ad p0 q hp
  have st:∀ a u,H a = some u → ¬ A a → upd H p0 o a = some u ∧ ¬ A a:=fun a u h n=>⟨by rw [upd_ne (ne_of_none h hp)]; exact h,n⟩
  have sf:∀ a,A a → upd H p0 o a = H a:=fun a h=>upd_ne (fun e=>hA (e ▸ h))
  refine ⟨⟨fun a h=>.inl h,fun a u h n _=>(st a u h n).1,fun a h=>⟨sf a (j.ba a h),j.ba a h⟩,fun a h=>?_⟩,?_⟩
  · by_cases e:a = p0
    · rw [e]; exact hp
    · rw [upd_ne e] at h; exact h
  · obtain ⟨f,g,h1,h2,h3,h4,h5⟩:=j.ex
    have ef:=ZgV hk h1
    subst ef
    have ia:∀ a,a ∈ g → A a:=fun a ha=>(h2.inA a ha).1
    refine ⟨⟨[],g,?_,h2.step (fun a u h n _=>st a u h n) (fun a ha=>⟨sf a (ia a ha),ia a ha⟩) (fun a h=>⟨sf a (j.ba a (j.lb a h)),h⟩),h3,h4,h5⟩,j.lb,j.ba,fun a h=>?_,j.tb.grow (Ex.new hp) fun a h=>.inl h⟩
    · simp only [Rps,Rp]
      exact ⟨.ref p0,[],[],[],rfl,rfl,⟨p0,o,ws,rfl,upd_same,.inl ⟨hs,fun z=>by cases z⟩,hA,rfl,h1.step (fun a u h n _=>st a u h n) (by simp) (by simp)⟩,rfl,rfl⟩
    · rw [sf a h]; exact j.ad a h
theorem Jt.lower {B':Addr → Prop} (j:Jt p cl A L B' H ts ws δ σ) (hb:∀ a,B a → B' a) (lb:∀ a,L a → B a):Jt p cl A L B H ts ws δ σ:=by
  obtain ⟨f,g,h1,h2,h3,h4,h5⟩:=j.ex
  exact ⟨⟨f,g,h1,h2,h3,fun a ha q=>h4 a ha (hb a q),fun hp a ha q=>h5 hp a ha (hb a q)⟩,lb,fun a h=>j.ba a (hb a h),j.ad,j.tb⟩
/-- going on with temporaries in hand -/
theorem Jt.seq (j:Jt p cl A L B H ts ws δ σ):∃ B',Jt p cl A L B' H [] [] δ σ ∧ (∀ a,B a → B' a) ∧
    ∀ A2 H2 us xs δ2,(p = true → δ2 = δ) → Nx A B' H A2 H2 → Jt p cl A2 L B' H2 us xs δ2 σ → Jt p cl A2 L B H2 (ts ++ us) (ws ++ xs) δ2 σ:=by
  cases p with
  | true =>
    refine ⟨A,j.drop.toPure,j.ba,fun A2 H2 us xs δ2 e n j2=>?_⟩
    cases e rfl
    exact j.backP (f:=[]) n j2
  | false =>
    obtain ⟨f,h1,h2,h3,h4⟩:=j.hide
    exact ⟨_,h4,fun a h=>.inl h,fun A2 H2 us xs δ2 _ n j2=>Jt.back j h1 h2 h3 j.lb n j2⟩
end
end Fs
namespace Fs
open PySem L2
def Out.ofO {α:Type}:Option α → Sl → Out α | some a,s=>.ok a s | none,_=>.bad
/-- an exception's dict -/
def XAt (xf:Nat → List Str) (A:Addr → Prop) (H:Hp) (c:Nat) (vs:List V) (d:Option Addr):Prop :=
  (xf c = [] ∧ vs = []) ∨ ∃ dd fs,d = some dd ∧ H dd = some (.xd fs) ∧ ¬ A dd ∧ vs.length = (xf c).length ∧ ∀ (i:Nat) (n:Str) (v:V),(xf c)[i]? = some n → vs[i]? = some v → fs.lookup n = some v
section
variable (cl:Ec) (xf:Nat → List Str) (W:WX)
def Out.same {α:Type} (o:Out α) (δ:Sl):Prop:=match o with
  | .ok _ s=>s = δ
  | .exc _ _ s=>s = δ
  | .bad=>True
def PostX (p:Bool) (c:Nat) (xs:List D) (δ':Sl) (A L B:Addr → Prop) (H:Hp) (σ:L2.St):Prop :=
  ∀ d vs A' H',Nx A B H A' H' → XAt xf A' H' c vs d → Jt p cl A' L B H' xs vs δ' σ → W (.ref (cl.c c)) d σ H'
/-- what a run owes: an outcome,the temporaries it leaves,what is wanted -/
def Post {α:Type} (p:Bool) (o:Out α) (den:α → List D) (A L B:Addr → Prop) (H:Hp) (σ:L2.St) (Q:α → List V → Hp → Prop):Prop:=match o with
  | .ok a δ'=>∀ vs A' H',Nx A B H A' H' → Jt p cl A' L B H' (den a) vs δ' σ → Q a vs H'
  | .exc c xs δ'=>PostX cl xf W p c xs δ' A L B H σ
  | .bad=>False
abbrev d1s:D → List D:=fun d=>[d]
abbrev PostE (p:Bool) (o:Out D) (A L B:Addr → Prop) (H:Hp) (σ:L2.St) (Q:VK):Prop:=Post cl xf W p o d1s A L B H σ fun _ vs H'=>∀ v,vs = [v] → Q v H'
/-- a peek: nothing is changed -/
def SP (te:TE) (f:PP):Prop:=∀ A L H δ σ g d Q,Rpo cl A L H δ σ g → f δ = some d → (∀ v fp,Rp cl A L H true d v fp → (∀ a ∈ fp,a ∈ g) → Q v H) → te σ H Q
structure SE (p:Bool) (te:TE) (de:DE):Prop where
  pure:p = true → ∀ δ,(de δ).same δ
  run:∀ A L B H δ σ Q,Jt p cl A L B H [] [] δ σ → PostE cl xf W p (de δ) A L B H σ Q → te σ H Q
structure SA (p:Bool) (ta:TA) (da:DA):Prop where
  pure:p = true → ∀ δ,(da δ).same δ
  run:∀ A L B H δ σ Q,Jt p cl A L B H [] [] δ σ → Post cl xf W p (da δ) id A L B H σ (fun _=>Q) → ta σ H Q
structure SB (p:Bool) (tt:TT) (dt:DT):Prop where
  pure:p = true → ∀ δ,(dt δ).same δ
  run:∀ A L B H δ σ Q,Jt p cl A L B H [] [] δ σ → Post cl xf W p (dt δ) (fun _=>[]) A L B H σ (fun b _=>Q b) → tt σ H Q
end
section
variable {cl:Ec} {xf:Nat → List Str} {W:WX} {A A' L B:Addr → Prop} {H H':Hp} {δ δ':Sl} {σ:L2.St} {p q:Bool} {te ta tb tc:TE} {tA:TA} {tt tu:TT} {α β:Type}
theorem PostX.step {c:Nat} {xs:List D} (h:PostX cl xf W p c xs δ' A L B H σ) (x:Nx A B H A' H'):PostX cl xf W p c xs δ' A' L B H' σ :=
  fun d vs A2 H2 y e j=>h d vs A2 H2 (x.trans y) e j
theorem PostX.under {c:Nat} {xs:List D} {B':Addr → Prop} (h:PostX cl xf W p c xs δ' A L B H σ) (hb:∀ a,B a → B' a) (lb:∀ a,L a → B a):PostX cl xf W p c xs δ' A L B' H σ :=
  fun d vs A2 H2 y e j=>h d vs A2 H2 (y.weak hb) e (j.lower hb lb)
theorem Out.same_bind {o:Out α} {f:α → Sl → Out β} (h1:o.same δ) (h2:∀ a,(f a δ).same δ):(o.bind f).same δ:=by
  cases o with
  | ok a s=>cases (show s = δ from h1); exact h2 a
  | exc c xs s=>exact h1
  | bad=>trivial
theorem Out.same_ofO {o:Option α}:(Out.ofO o δ).same δ:=by cases o <;> simp [Out.ofO,Out.same]
/-- one run behind another -/
theorem Post.bind {γ:Type} {o:Out α} {f:α → Sl → Out β} {den:β → List D} {Q:β → List V → Hp → Prop} {den0:α → List D} {Q0:α → List V → Hp → Prop} (h:Post cl xf W p (o.bind f) den A L B H σ Q)
    (k:∀ a δ1 vs A' H',o = .ok a δ1 → Nx A B H A' H' → Jt p cl A' L B H' (den0 a) vs δ1 σ → Post cl xf W p (f a δ1) den A L B H σ Q → Q0 a vs H'):Post cl xf W p o den0 A L B H σ Q0:=by
  cases o with
  | ok a s=>exact fun vs A' H' n j=>k a s vs A' H' rfl n j h
  | exc c xs s=>exact h
  | bad=>exact h
theorem Post.ofO {o:Option α} {den:α → List D} {Q:α → List V → Hp → Prop} (h:Post cl xf W p (Out.ofO o δ) den A L B H σ Q):∃ a,o = some a ∧ ∀ vs A' H',Nx A B H A' H' → Jt p cl A' L B H' (den a) vs δ σ → Q a vs H':=by
  cases o with
  | some a=>exact ⟨a,rfl,h⟩
  | none=>exact h.elim
/-- the same debt further on -/
theorem Post.step {o:Out α} {den:α → List D} {Q:α → List V → Hp → Prop} (h:Post cl xf W p o den A L B H σ Q) (x:Nx A B H A' H'):Post cl xf W p o den A' L B H' σ Q:=by
  cases o with
  | ok a s=>exact fun vs A2 H2 n j=>h vs A2 H2 (x.trans n) j
  | exc c xs s=>exact PostX.step h x
  | bad=>exact h
/-- the debt of a run with temporaries in hand -/
theorem Post.seq {ts:List D} {ws:List V} {o:Out α} {den den0:α → List D} {Q Q0:α → List V → Hp → Prop} {B':Addr → Prop} (h:Post cl xf W p o den A L B H σ Q) (hs:p = true → o.same δ) (lb:∀ a,L a → B a) (hb:∀ a,B a → B' a)
    (hj:∀ A2 H2 us xs δ2,(p = true → δ2 = δ) → Nx A B' H A2 H2 → Jt p cl A2 L B' H2 us xs δ2 σ → Jt p cl A2 L B H2 (ts ++ us) (ws ++ xs) δ2 σ) (hd:∀ a,den a = ts ++ den0 a) (hQ:∀ a vs H2,Q a (ws ++ vs) H2 → Q0 a vs H2):Post cl xf W p o den0 A L B' H σ Q0:=by
  cases o with
  | ok a s=>exact fun vs A2 H2 n j=>hQ a vs H2 (h (ws ++ vs) A2 H2 (n.weak hb) (by rw [hd a]; exact hj A2 H2 _ _ _ hs n j))
  | exc c xs s=>exact PostX.under h hb lb
  | bad=>exact h
def pVar (i:Nat):PP:=fun δ=>(δ[i]?).join
theorem join_some {o:Option (Option D)} {d:D} (e:o.join = some d):o = some (some d):=by
  cases o with
  | none=>cases e
  | some x=>cases x with
    | none=>cases e
    | some y=>cases e; rfl
theorem sp_var {i:Nat}:SP cl (tVar i) (pVar i):=fun A L H δ σ g d Q h2 e k=>by
  obtain ⟨v,f1,g1,g2,g3⟩:=h2.get (join_some e)
  exact ⟨v,g1,k v f1 g2 g3⟩
def pC (s:V):PP:=fun _=>some (.v s)
theorem Rp.leafv {b:Bool} {x v:V} {fp:List Addr} (h:Rp cl A L H b (.v x) v fp):v = x ∧ fp = [] ∧ sc x = true:=by
  simp only [Rp] at h
  exact ⟨h.2.1,h.2.2,h.1⟩
theorem Rp.leaf {b:Bool} {x:V} (h:sc x = true):Rp cl A L H b (.v x) x []:=by simp only [Rp]; exact ⟨h,trivial,trivial⟩
theorem sp_c {s:V} (h:sc s = true):SP cl (tC s) (pC s):=fun A L H δ σ g d Q j e k=>by
  cases e
  exact k s [] (Rp.leaf h) (by simp)
/-- the script -/
theorem Rp.scr {b:Bool} {ns:List Int} {v:V} {fp:List Addr} (h:Rp cl A L H b (.s ns) v fp):∃ a,v = .ref a ∧ SqL cl.K H a (ns.map V.int) ∧ fp = [] ∧ ((∃ ob,H a = some (.frz ob (.lst (ns.map V.int))) ∧ ¬ A a) ∨ cl.Wr a (ns.map V.int)):=by
  simp only [Rp] at h
  obtain ⟨h1,a,h2,h3⟩:=h
  refine ⟨a,h2,?_,h1,h3⟩
  rcases h3 with ⟨ob,h3,_⟩ | h3
  · exact .inl (.inr ⟨ob,h3⟩)
  · exact .inr h3
/-- a node,whatever its flag: where it stands and what it holds -/
theorem Rp.nodeN {b:Bool} {k:Kd} {w:Fl} {ds:List D} {v:V} {fp:List Addr} (h:Rp cl A L H b (.n k w ds) v fp):∃ a o vs fp',v = .ref a ∧ H a = some o ∧ Shp cl w k a vs o ∧ Rps cl A L H true ds vs fp' ∧ ∀ c ∈ fp',c ∈ fp:=by
  cases w with
  | shr =>
    simp only [Rp] at h
    obtain ⟨a,o,vs,h1,h2,h3,h4,h5,h6⟩:=h
    exact ⟨a,o,vs,[],h1,h2,h3,h6.weak,by simp⟩
  | own =>
    simp only [Rp] at h
    obtain ⟨a,o,vs,h1,h2,h3,h4,fp',h5,h6⟩:=h
    exact ⟨a,o,vs,fp',h1,h2,h3,h6.weak,fun c hc=>by rw [h5]; exact List.mem_cons_of_mem _ hc⟩
  | bor =>
    simp only [Rp] at h
    obtain ⟨a,o,vs,h1,h2,h3,h4,h5,h6,h7⟩:=h
    subst h4
    exact ⟨a,o,vs,[],h1,h2,h3,h7,by simp⟩
theorem Rp.node {b:Bool} {k:Kd} {w:Fl} {ds:List D} {v:V} {fp:List Addr} (h:Rp cl A L H b (.n k w ds) v fp) (hk:∀ ks,k ≠ .dct ks:=by intro _ z; cases z):∃ a o vs fp',v = .ref a ∧ H a = some o ∧ Shape cl k a vs o ∧ Rps cl A L H true ds vs fp' ∧ ∀ c ∈ fp',c ∈ fp:=by
  obtain ⟨a,o,vs,fp',h1,h2,h3,h4,h5⟩:=h.nodeN
  rcases h3 with ⟨h3,_⟩ | ⟨_,ks,_,e,_⟩
  · exact ⟨a,o,vs,fp',h1,h2,h3,h4,h5⟩
  · exact absurd e (hk ks)
/-- a dict,read -/
theorem Rp.nodeD {b:Bool} {ks:List Key} {w:Fl} {ds:List D} {v:V} {fp:List Addr} (h:Rp cl A L H b (.n (.dct ks) w ds) v fp):∃ a vs fp',v = .ref a ∧ L2.Rd H a (.dK (ks.zip vs)) ∧ ks.length = vs.length ∧ Rps cl A L H true ds vs fp' ∧ ∀ c ∈ fp',c ∈ fp:=by
  obtain ⟨a,o,vs,fp',h1,h2,h3,h4,h5⟩:=h.nodeN
  rcases h3 with ⟨⟨hl,rfl⟩,_⟩ | ⟨_,ks',ob,e,hl,rfl⟩
  · exact ⟨a,vs,fp',h1,.inl h2,hl,h4,h5⟩
  · cases e
    exact ⟨a,vs,fp',h1,.inr ⟨ob,h2⟩,hl,h4,h5⟩
/-- an operation of two peeked things that gives a thing found in them or a scalar -/
def POp (cl:Ec) (r:R2) (f:D → D → Option D):Prop:=∀ A L H x y u w f1 f2 z Q,Rp cl A L H true x u f1 → Rp cl A L H true y w f2 → f x y = some z → (∀ v fp,Rp cl A L H true z v fp → (∀ a ∈ fp,a ∈ f1 ++ f2) → Q v H) → r u w H Q
def pOp (f:D → D → Option D) (a b:PP):PP:=fun δ=>(a δ).bind fun x=>(b δ).bind fun y=>f x y
theorem sp_op {r:R2} {f:D → D → Option D} {a b:PP} (ho:POp cl r f) (ha:SP cl ta a) (hb:SP cl tb b):SP cl (tOp r ta tb) (pOp f a b):=fun A L H δ σ g d Q j e k=>by
  unfold pOp at e
  obtain ⟨x,e1,e⟩:=Option.bind_eq_some_iff.mp e
  obtain ⟨y,e2,e⟩:=Option.bind_eq_some_iff.mp e
  exact ha A L H δ σ g x _ j e1 fun u f1 h1 n1=>hb A L H δ σ g y _ j e2 fun w f2 h2 n2=>ho A L H x y u w f1 f2 d Q h1 h2 e fun v fp h3 n3=>k v fp h3 fun a ha=>by
    rcases List.mem_append.mp (n3 a ha) with q | q
    · exact n1 a q
    · exact n2 a q
def PUn (cl:Ec) (r:V → Hp → VK → Prop) (f:D → Option D):Prop:=∀ A L H x u f1 z Q,Rp cl A L H true x u f1 → f x = some z → (∀ v fp,Rp cl A L H true z v fp → (∀ a ∈ fp,a ∈ f1) → Q v H) → r u H Q
def pUn (f:D → Option D) (a:PP):PP:=fun δ=>(a δ).bind f
theorem sp_un {r:V → Hp → VK → Prop} {f:D → Option D} {a:PP} (ho:PUn cl r f) (ha:SP cl ta a):SP cl (tUn r ta) (pUn f a):=fun A L H δ σ g d Q j e k=>by
  unfold pUn at e
  obtain ⟨x,e1,e⟩:=Option.bind_eq_some_iff.mp e
  exact ha A L H δ σ g x _ j e1 fun u f1 h1 n1=>ho A L H x u f1 d Q h1 e fun v fp h3 n3=>k v fp h3 fun a ha=>n1 a (n3 a ha)
/-- from a peek to a value -/
def dP (a:PP):DE:=fun δ=>Out.ofO ((a δ).filter D.kept) δ
theorem se_p {a:PP} (ha:SP cl te a):SE cl xf W p te (dP a):=by
  refine ⟨fun _ δ=>Out.same_ofO,fun A L B H δ σ Q j k=>?_⟩
  obtain ⟨d,e,k⟩:=Post.ofO k
  obtain ⟨e1,e2⟩:=Option.filter_eq_some_iff.mp e
  obtain ⟨g,h2,_,_⟩:=j.drop0
  exact ha A L H δ σ g d Q h2 e1 fun v fp h1 n1=>k [v] A H (Nx.refl j.ba) (j.kept e2 h1) v rfl
/-- a pure run is a run -/
theorem SE.to {de:DE} (h:SE cl xf W true te de):SE cl xf W p te de:=by
  cases p with
  | true=>exact h
  | false =>
    refine ⟨fun z=>(by cases z),fun A L B H δ σ Q j k=>h.run A L A H δ σ Q j.toPure ?_⟩
    have hs:=h.pure rfl δ
    cases e:de δ with
    | bad=>rw [e] at k; exact k
    | exc c xs s =>
      rw [e] at k hs
      cases (show s = δ from hs)
      exact fun d vs A' H' n x j2=>k d vs A' H' (n.weak j.ba) x (j.ofPure n j2)
    | ok d s =>
      rw [e] at k hs
      cases (show s = δ from hs)
      exact fun vs A' H' n j2=>k vs A' H' (n.weak j.ba) (j.ofPure n j2)
def daNil:DA:=fun δ=>.ok [] δ
def daCons (a:DE) (r:DA):DA:=fun δ=>(a δ).bind fun x δ1=>(r δ1).bind fun xs δ2=>.ok (x :: xs) δ2
theorem sa_nil:SA cl xf W p tNil daNil:=⟨fun _ δ=>rfl,fun A L B H δ σ Q j k=>k [] A H (Nx.refl j.ba) j⟩
theorem Jt.len {ts:List D} {ws:List V} (j:Jt p cl A L B H ts ws δ σ):ts.length = ws.length:=by
  obtain ⟨f,g,h1,_⟩:=j.ex
  exact h1.length
theorem Jt.one {x:D} {ws:List V} (j:Jt p cl A L B H [x] ws δ σ):∃ u f1,ws = [u] ∧ Rp cl A L H false x u f1:=by
  obtain ⟨f0,g,h1,h2,h3,h4⟩:=j.ex
  simp only [Rps] at h1
  obtain ⟨u,vs',f1,f2,rfl,rfl,h5,rfl,rfl⟩:=h1
  exact ⟨u,f1,rfl,h5⟩
theorem Jt.pair {x y:D} {ws:List V} (j:Jt p cl A L B H [x,y] ws δ σ):∃ u w f1 f2,ws = [u,w] ∧ Rp cl A L H false x u f1 ∧ Rp cl A L H false y w f2:=by
  obtain ⟨f0,g,h1,h2,h3,h4⟩:=j.ex
  simp only [Rps] at h1
  obtain ⟨u,vs',f1,f2,rfl,rfl,h5,w,vs'',f3,f4,rfl,rfl,h6,rfl,rfl⟩:=h1
  exact ⟨u,w,f1,f3,rfl,h5,h6⟩
theorem ZfA {o:Out α} {f:Sl → Out α} (h:p = true → ∀ δ,(f δ).same δ) (e:f δ = o):p = true → o.same δ:=fun hp=>e ▸ h hp δ
theorem Zn4 {a:DE} {r:DA} (ha:SE cl xf W p te a) (hr:SA cl xf W p tA r):SA cl xf W p (tCons te tA) (daCons a r):=by
  refine ⟨fun hp δ=>Out.same_bind (ha.pure hp δ) fun x=>Out.same_bind (hr.pure hp δ) fun xs=>rfl,fun A L B H δ σ Q j k=>?_⟩
  refine ha.run A L B H δ σ _ j (Post.bind (γ:=D) k fun x δ1 vs A1 H1 e1 n1 j1 k1 v ev=>?_)
  subst ev
  obtain ⟨B',j2,hb,hj⟩:=j1.seq
  refine hr.run A1 L B' H1 δ1 σ _ j2 ?_
  have k2:=Post.step (A':=A1) (H':=H1) (Post.bind (γ:=D) (den0:=fun xs=>x :: xs) (Q0:=fun xs vs H2=>Q vs H2) k1 fun xs δ2 vs A2 H2 e2 n2 j2 k2=>k2 vs A2 H2 n2 j2) n1
  exact Post.seq (ts:=[x]) (ws:=[v]) k2 (ZfA hr.pure rfl) j1.lb hb hj (fun a=>rfl) (fun a vs H2 q=>q)
theorem sz_of {n:Nat} (h:n ≤ 100000):n ≤ sizeLine:=Nat.le_trans h (by decide)
theorem sz_lt {n:Nat} (h:n < 100000):n < sizeLine:=Nat.lt_of_lt_of_le h (by decide)
/-- values made of arguments: the reading's end,the function -/
def dF (F:List D → Option D) (r:DA):DE:=fun δ=>(r δ).bind fun xs δ1=>Out.ofO (F xs) δ1
def tF (R:List V → Hp → VK → Prop) (t:TA):TE:=fun σ H Q=>t σ H fun xs H1=>R xs H1 Q
def FOp (cl:Ec) (R:List V → Hp → VK → Prop) (F:List D → Option D):Prop:=∀ p A L B H δ σ xs vs z Q,Jt p cl A L B H xs vs δ σ → F xs = some z → (∀ v A' H',Nx A B H A' H' → Jt p cl A' L B H' [z] [v] δ σ → Q v H') → R vs H Q
theorem se_f {r:DA} {R:List V → Hp → VK → Prop} {F:List D → Option D} (ho:FOp cl R F) (hr:SA cl xf W p tA r):SE cl xf W p (tF R tA) (dF F r):=by
  refine ⟨fun hp δ=>Out.same_bind (hr.pure hp δ) fun x=>Out.same_ofO,fun A L B H δ σ Q j k=>?_⟩
  refine hr.run A L B H δ σ _ j (Post.bind (γ:=D) k fun xs δ1 vs A1 H1 e1 n1 j1 k1=>?_)
  obtain ⟨z,e,k2⟩:=Post.ofO k1
  exact ho p A1 L B H1 δ1 σ xs vs z Q j1 e fun v A2 H2 n2 j2=>k2 [v] A2 H2 (n1.trans n2) j2 v rfl
/-- temporaries are frozen -/
theorem Jt.freeze {ts:List D} {ws:List V} (j:Jt p cl A L B H ts ws δ σ):∃ A',Nx A B H A' H ∧ Jt p cl A' L B H (frzs ts) ws δ σ:=by
  obtain ⟨f,g,h1,h2,h3,h4,h5⟩:=j.ex
  have nd:=List.nodup_append.mp h3
  refine ⟨fun a=>A a ∧ a ∉ f,⟨fun a h=>.inl h.1,fun a o h _ _=>h,fun a h=>⟨rfl,j.ba a h,fun q=>h4 a q h⟩,fun a h=>h⟩,⟨⟨[],g,?_,?_,by simpa using nd.2.1,by simp,h5⟩,j.lb,fun a h=>⟨j.ba a h,fun q=>h4 a q h⟩,fun a h=>j.ad a h.1,j.tb.sub fun a h=>h.1⟩⟩
  · exact h1.frz (fun a o _ n q=>n q.1) (fun a ha q=>q.2 ha)
  · exact h2.step (fun a o h n _=>⟨h,fun q=>n q.1⟩) (fun a ha=>⟨rfl,(h2.inA a ha).1,fun q=>nd.2.2 a q a ha rfl⟩) (fun a h=>⟨rfl,h⟩)
theorem Zbm {d:D} (h:d.kept = true):frz d = d:=by
  match d,h with
  | .v x,_=>simp [frz]
  | .s x,_=>simp [frz]
  | .n k .shr ds,_=>simp [frz]
theorem Zns:∀ {d:D} {v:V} {fp:List Addr},Rp cl A L H false d v fp → (frz d).kept = true
  | .v x,v,fp,h=>by simp [frz,D.kept]
  | .s x,v,fp,h=>by simp [frz,D.kept]
  | .n k .shr ds,v,fp,h=>by simp [frz,D.kept]
  | .n k .own ds,v,fp,h=>by simp [frz,D.kept]
  | .n k .bor ds,v,fp,h=>by
    simp only [Rp] at h
    obtain ⟨_,_,_,_,_,_,h4,_⟩:=h
    simp at h4
theorem ZfQ:∀ {ts:List D} {ws:List V} {f:List Addr},Rps cl A L H false ts ws f → (frzs ts).all D.kept = true
  | [],ws,f,h=>by simp [frzs]
  | d :: ds,ws,f,h=>by
    simp only [Rps] at h
    obtain ⟨v,vs',f1,f2,h1,h2,h3,h4⟩:=h
    simp [frzs,Zns h3,ZfQ h4]
theorem Jt.freezeK {ts:List D} {ws:List V} (j:Jt p cl A L B H ts ws δ σ):(frzs ts).all D.kept = true:=by
  obtain ⟨f,g,h1,h2,h3,h4⟩:=j.ex
  exact ZfQ h1
/-- a list,a tuple: what they hold is kept -/
def mkLst (xs:List D):Option D:=if xs.length ≤ 100000 then some (.n .lst .own (frzs xs)) else none
theorem Zo0:FOp cl (fun xs H1 Q=>xs.length ≤ sizeLine ∧ ∀ p,H1 p = none → Q (.ref p) (upd H1 p (.lst xs))) mkLst:=by
  intro p A L B H δ σ xs vs z Q j e k
  unfold mkLst at e
  split at e
  · rename_i hl
    cases e
    refine ⟨by rw [← j.len]; exact sz_of hl,fun p hp=>?_⟩
    obtain ⟨A1,n1,j1⟩:=j.freeze
    have h:=j1.alloc (k:=.lst) (o:=.lst vs) hp rfl
    exact k _ _ _ (n1.trans h.1) h.2
  · cases e
theorem se_lst {r:DA} (hr:SA cl xf W p tA r):SE cl xf W p (tLst tA) (dF mkLst r):=se_f Zo0 hr
def mkTup (xs:List D):Option D:=if xs.length ≤ 100000 then some (.n .tup .shr (frzs xs)) else none
theorem Zl0:FOp cl (fun xs H1 Q=>xs.length ≤ sizeLine ∧ ∀ p,H1 p = none → Q (.ref p) (upd H1 p (.tup xs))) mkTup:=by
  intro p A L B H δ σ xs vs z Q j e k
  unfold mkTup at e
  split at e
  · rename_i hl
    cases e
    refine ⟨by rw [← j.len]; exact sz_of hl,fun p hp=>?_⟩
    have hk:=j.freezeK
    obtain ⟨A1,n1,j1⟩:=j.freeze
    have h:=j1.allocS (k:=.tup) (o:=.tup vs) hk hp rfl
    exact k _ _ _ (n1.trans h.1) h.2
  · cases e
theorem se_tup {r:DA} (hr:SA cl xf W p tA r):SE cl xf W p (tTup tA) (dF mkTup r):=se_f Zl0 hr
def both (a b:DE):Sl → Out (D × D):=fun δ=>(a δ).bind fun x δ1=>(b δ1).bind fun y δ2=>.ok (x,y) δ2
theorem Zma {a b:DE} (ha:SE cl xf W p ta a) (hb:SE cl xf W p tb b) (hp:p = true):(both a b δ).same δ:=Out.same_bind (ha.pure hp δ) fun x=>Out.same_bind (hb.pure hp δ) fun xs=>rfl
theorem two {a b:DE} (ha:SE cl xf W p ta a) (hb:SE cl xf W p tb b) {R:V → V → Hp → Prop} (j:Jt p cl A L B H [] [] δ σ) (k:Post cl xf W p (both a b δ) (fun d=>[d.1,d.2]) A L B H σ (fun _ vs H'=>∀ u w,vs = [u,w] → R u w H')):ta σ H fun x H1=>tb σ H1 fun y H2=>R x y H2:=by
  refine ha.run A L B H δ σ _ j (Post.bind (γ:=D) k fun x δ1 vs A1 H1 e1 n1 j1 k1 v ev=>?_)
  subst ev
  obtain ⟨B',j2,hb',hj⟩:=j1.seq
  refine hb.run A1 L B' H1 δ1 σ _ j2 ?_
  have k2:=Post.step (A':=A1) (H':=H1) (Post.bind (γ:=D) (den0:=fun y=>[x,y]) (Q0:=fun y vs H2=>∀ u w,vs = [u,w] → R u w H2) k1 fun xs δ2 vs A2 H2 e2 n2 j2 k2=>k2 vs A2 H2 n2 j2) n1
  exact Post.seq (ts:=[x]) (ws:=[v]) k2 (ZfA hb.pure rfl) j1.lb hb' hj (fun a=>rfl) (fun a vs H2 q w ew=>q v w (by rw [ew]; rfl))
/-- an operation of two values that may make a new thing -/
def ROp (cl:Ec) (r:R2) (f:D → D → Option D):Prop:=∀ p A L B H δ σ x y u w z Q,Jt p cl A L B H [x,y] [u,w] δ σ → f x y = some z → (∀ v A' H',Nx A B H A' H' → Jt p cl A' L B H' [z] [v] δ σ → Q v H') → r u w H Q
def d2 (f:D → D → Option D) (a b:DE):DE:=fun δ=>(both a b δ).bind fun x δ2=>Out.ofO (f x.1 x.2) δ2
def RUn (cl:Ec) (r:V → Hp → VK → Prop) (f:D → Option D):Prop:=∀ p A L B H δ σ x u z Q,Jt p cl A L B H [x] [u] δ σ → f x = some z → (∀ v A' H',Nx A B H A' H' → Jt p cl A' L B H' [z] [v] δ σ → Q v H') → r u H Q
def d1 (f:D → Option D) (a:DE):DE:=fun δ=>(a δ).bind fun x δ2=>Out.ofO (f x) δ2
theorem se_run {r:V → Hp → VK → Prop} {f:D → Option D} {a:DE} (ho:RUn cl r f) (ha:SE cl xf W p ta a):SE cl xf W p (tUn r ta) (d1 f a):=by
  refine ⟨fun hp δ=>Out.same_bind (ha.pure hp δ) fun x=>Out.same_ofO,fun A L B H δ σ Q j k=>?_⟩
  refine ha.run A L B H δ σ _ j (Post.bind (γ:=D) k fun x δ1 vs A1 H1 e1 n1 j1 k1 u ev=>?_)
  subst ev
  obtain ⟨z,e,k2⟩:=Post.ofO k1
  exact ho p A1 L B H1 δ1 σ _ u z Q j1 e fun v A2 H2 n2 j2=>k2 [v] A2 H2 (n1.trans n2) j2 v rfl
theorem PUn.run {r:V → Hp → VK → Prop} {f:D → Option D} (ho:PUn cl r f):RUn cl r (fun x=>(f x).filter D.kept):=by
  intro p A L B H δ σ x u z Q j e k
  obtain ⟨u',f1,e0,h1⟩:=j.one
  cases e0
  obtain ⟨e1,e2⟩:=Option.filter_eq_some_iff.mp e
  exact ho A L H x u f1 z Q h1.weak e1 fun v fp h7 _=>k v A H (Nx.refl j.ba) (j.kept e2 h7)
end
end Fs
namespace Fs
open PySem L2
section
variable {cl:Ec} {xf:Nat → List Str} {W:WX} {A A' L B:Addr → Prop} {H H':Hp} {δ δ':Sl} {σ:L2.St} {p q b:Bool} {te ta tb tc:TE} {tA:TA} {tt tu:TT}
theorem Rps.at {ds:List D} {vs:List V} {fp:List Addr} {i:Int} {d:D} (h:Rps cl A L H b ds vs fp) (e:atI ds i = some d):∃ v f1,atI vs i = some v ∧ Rp cl A L H b d v f1 ∧ ∀ a ∈ f1,a ∈ fp:=by
  unfold atI at e ⊢
  rw [← h.length]
  cases e1:ixN ds.length i with
  | none=>rw [e1] at e; cases e
  | some j =>
    rw [e1] at e
    exact h.get e
def lkD {α:Type}:List Key → List α → Key → Option α
  | k :: ks,x :: xs,y=>if k = y then some x else lkD ks xs y
  | _,_,_=>none
theorem Zfo:∀ (ks:List Key) (vs:List V) (y:Key),valV (ks.zip vs) y = lkD ks vs y
  | [],vs,y=>by simp [lkD,valV]
  | k :: ks,[],y=>by simp [lkD,valV]
  | k :: ks,v :: vs,y=>by
    rw [List.zip_cons_cons]
    by_cases h:k = y
    · rw [valV_pos (p:=(k,v)) h]; simp [lkD,h]
    · rw [valV_neg (p:=(k,v)) h,Zfo ks vs y]; simp [lkD,h]
theorem Rps.lk:∀ {ks:List Key} {ds:List D} {vs:List V} {fp:List Addr} {y:Key} {d:D},Rps cl A L H b ds vs fp → lkD ks ds y = some d → ∃ v f1,lkD ks vs y = some v ∧ Rp cl A L H b d v f1 ∧ ∀ a ∈ f1,a ∈ fp
  | [],ds,vs,fp,y,d,h,e=>by simp [lkD] at e
  | k :: ks,[],vs,fp,y,d,h,e=>by simp [lkD] at e
  | k :: ks,d0 :: ds,vs,fp,y,d,h,e=>by
    simp only [Rps] at h
    obtain ⟨v,vs',f1,f2,rfl,rfl,h3,h4⟩:=h
    unfold lkD at e ⊢
    by_cases hk:k = y
    · rw [if_pos hk] at e ⊢
      cases e
      exact ⟨v,f1,rfl,h3,fun a ha=>List.mem_append_left _ ha⟩
    · rw [if_neg hk] at e ⊢
      obtain ⟨v2,f3,g1,g2,g3⟩:=Rps.lk h4 e
      exact ⟨v2,f3,g1,g2,fun a ha=>List.mem_append_right _ (g3 a ha)⟩
theorem Rps.lkN:∀ {ks:List Key} {ds:List D} {vs:List V} {fp:List Addr} {y:Key},Rps cl A L H b ds vs fp → lkD ks ds y = none → lkD ks vs y = none
  | [],ds,vs,fp,y,h,e=>by simp [lkD]
  | k :: ks,[],vs,fp,y,h,e=>by simp only [Rps] at h; rw [h.1]; simp [lkD]
  | k :: ks,d0 :: ds,vs,fp,y,h,e=>by
    simp only [Rps] at h
    obtain ⟨v,vs',f1,f2,rfl,rfl,h3,h4⟩:=h
    unfold lkD at e ⊢
    by_cases hk:k = y
    · rw [if_pos hk] at e; cases e
    · rw [if_neg hk] at e ⊢
      exact Rps.lkN h4 e
/-- a subscript,whatever the thing -/
def rIxA (K:PySem.W.Frag):R2:=fun x y H Q=>rIx K x y H Q ∨ ∃ a v,x = .ref a ∧ DGet H a y (some v) ∧ Q v H
def ixD:D → D → Option D
  | .n .lst _ xs,.v (.int i)=>atI xs i
  | .s ns,.v (.int i)=>(atI ns i).map fun n=>D.int n
  | .n .tup _ xs,.v (.int i)=>atI xs i
  | .n (.dct ks) _ xs,.v (.int i)=>lkD ks xs (.inl i)
  | .n (.dct ks) _ xs,.v (.str s)=>lkD ks xs (.inr s)
  | .v (.str s),.v (.int i)=>if s.length ≤ 100000 then (atI s.cps.toList i).map fun c=>D.str ⟨#[c]⟩ else none
  | _,_=>none
theorem pop_ix:POp cl (rIxA cl.K) ixD:=by
  intro A L H x y u w f1 f2 z Q h1 h2 e k
  unfold ixD at e
  split at e
  · rename_i fl xs i
    obtain ⟨rfl,rfl,_⟩:=h2.leafv
    obtain ⟨a,o,vs,fp',rfl,ho,hs,hr,hf⟩:=h1.node
    cases hs
    obtain ⟨v,f3,g1,g2,g3⟩:=hr.at e
    exact .inl (.inl ⟨a,vs,i,v,rfl,rfl,SqL.of ho,g1,k v f3 g2 fun c hc=>List.mem_append_left _ (hf c (g3 c hc))⟩)
  · rename_i ns i
    obtain ⟨rfl,rfl,_⟩:=h2.leafv
    obtain ⟨a,rfl,hs,rfl,_⟩:=h1.scr
    obtain ⟨n,e1,rfl⟩:=Option.map_eq_some_iff.mp e
    refine .inl (.inl ⟨a,ns.map V.int,i,.int n,rfl,rfl,hs,?_,k _ [] (Rp.leaf rfl) (by simp)⟩)
    unfold atI at e1 ⊢
    rw [List.length_map]
    cases e2:ixN ns.length i with
    | none=>rw [e2] at e1; cases e1
    | some j =>
      rw [e2] at e1
      simp only [Option.bind_some] at e1 ⊢
      rw [List.getElem?_map,e1]
      rfl
  · rename_i fl xs i
    obtain ⟨rfl,rfl,_⟩:=h2.leafv
    obtain ⟨a,o,vs,fp',rfl,ho,hs,hr,hf⟩:=h1.node
    cases hs
    obtain ⟨v,f3,g1,g2,g3⟩:=hr.at e
    exact .inl (.inr (.inl ⟨a,vs,i,v,rfl,rfl,SqT.of ho,g1,k v f3 g2 fun c hc=>List.mem_append_left _ (hf c (g3 c hc))⟩))
  · rename_i ks fl xs i
    obtain ⟨rfl,rfl,_⟩:=h2.leafv
    obtain ⟨a,vs,fp',rfl,ho,hl,hr,hf⟩:=h1.nodeD
    obtain ⟨v,f3,g1,g2,g3⟩:=hr.lk e
    refine .inr ⟨a,v,rfl,?_,k v f3 g2 fun c hc=>List.mem_append_left _ (hf c (g3 c hc))⟩
    rw [← g1,← Zfo]
    exact .inl ⟨_,Sum.inl i,ho,rfl,rfl⟩
  · rename_i ks fl xs s
    obtain ⟨rfl,rfl,_⟩:=h2.leafv
    obtain ⟨a,vs,fp',rfl,ho,hl,hr,hf⟩:=h1.nodeD
    obtain ⟨v,f3,g1,g2,g3⟩:=hr.lk e
    refine .inr ⟨a,v,rfl,?_,k v f3 g2 fun c hc=>List.mem_append_left _ (hf c (g3 c hc))⟩
    rw [← g1,← Zfo]
    exact .inl ⟨_,Sum.inr s,ho,rfl,rfl⟩
  · rename_i s i
    obtain ⟨rfl,rfl,_⟩:=h1.leafv
    obtain ⟨rfl,rfl,_⟩:=h2.leafv
    split at e
    · rename_i hl
      obtain ⟨c,e1,rfl⟩:=Option.map_eq_some_iff.mp e
      exact .inl (.inr (.inr ⟨s,i,c,rfl,rfl,sz_of hl,e1,k _ [] (Rp.leaf rfl) (by simp)⟩))
    · cases e
  · cases e
def f2I (g:Int → Int → Option V):D → D → Option D
  | .v (.int i),.v (.int j)=>(g i j).map D.v
  | _,_=>none
theorem ZcF {g:Int → Int → Option V}:∀ x y z,f2I g x y = some z → z.kept = true:=by
  intro x y z e
  unfold f2I at e
  split at e
  · obtain ⟨v,_,rfl⟩:=Option.map_eq_some_iff.mp e; rfl
  · cases e
theorem pop_I0 {g:Int → Int → V} (hg:∀ i j,sc (g i j) = true):POp cl (rI0 g) (f2I fun i j=>some (g i j)):=by
  intro A L H x y u w f1 f2 z Q h1 h2 e k
  unfold f2I at e
  split at e
  · rename_i i j
    cases e
    obtain ⟨rfl,rfl,_⟩:=h1.leafv
    obtain ⟨rfl,rfl,_⟩:=h2.leafv
    exact ⟨i,j,rfl,rfl,k _ [] (Rp.leaf (hg i j)) (by simp)⟩
  · cases e
theorem pop_I {C:Int → Int → Prop} {g:Int → Int → V} {c:Int → Int → Bool} (hc:∀ i j,c i j = true → C i j) (hg:∀ i j,sc (g i j) = true):POp cl (rI C g) (f2I fun i j=>if c i j then some (g i j) else none):=by
  intro A L H x y u w f1 f2 z Q h1 h2 e k
  unfold f2I at e
  split at e
  · rename_i i j
    simp only at e
    split at e
    · rename_i hij
      cases e
      obtain ⟨rfl,rfl,_⟩:=h1.leafv
      obtain ⟨rfl,rfl,_⟩:=h2.leafv
      exact ⟨i,j,rfl,rfl,hc i j hij,k _ [] (Rp.leaf (hg i j)) (by simp)⟩
    · cases e
  · cases e
def cMul (i j:Int):Bool:=decide (i.natAbs < 2 ^ 64) || decide (j.natAbs < 2 ^ 64)
theorem Zo9 (i j:Int) (h:cMul i j = true):CMul i j:=by
  unfold cMul at h
  simp only [Bool.or_eq_true,decide_eq_true_eq] at h
  rcases h with h | h
  · exact .inl ⟨by omega,by omega⟩
  · exact .inr ⟨by omega,by omega⟩
def cDiv (i j:Int):Bool:=decide (0 < j) && decide (j < 1606938044258990275541962092341162602522202993782792835301376)
theorem Zpb (i j:Int) (h:cDiv i j = true):CDivW i j:=by
  unfold cDiv at h
  simp only [Bool.and_eq_true,decide_eq_true_eq] at h
  exact wide_div (b := 201) h.1 (by have e : (2 : Nat) ^ 201 = 3213876088517980551083924184682325205044405987565585670602752 := by decide +kernel
                                    omega) (by decide) (by decide)
def cMod (i j:Int):Bool:=decide (0 < j)
theorem Zpa (i j:Int) (h:cMod i j = true):0 < j:=by unfold cMod at h; simpa using h
def cPow (i j:Int):Bool:=decide (0 ≤ j) && decide (j ≤ 1000000) && decide (i.natAbs < 2 ^ 64)
theorem Zo8 (i j:Int) (h:cPow i j = true):CPow i j:=by
  unfold cPow at h
  simp only [Bool.and_eq_true,decide_eq_true_eq] at h
  exact ⟨h.1.1,h.1.2,h.2⟩
abbrev subD:=f2I fun i j=>some (.int (i - j))
abbrev mulD:=f2I fun i j=>if cMul i j then some (.int (i * j)) else none
abbrev divD:=f2I fun i j=>if cDiv i j then some (.int (i / j)) else none
abbrev modD:=f2I fun i j=>if cMod i j then some (.int (i % j)) else none
abbrev powD:=f2I fun i j=>if cPow i j then some (.int (i ^ j.toNat)) else none
abbrev ltD:=f2I fun i j=>some (.bl (decide (i < j)))
abbrev leD:=f2I fun i j=>some (.bl (decide (i ≤ j)))
abbrev gtD:=f2I fun i j=>some (.bl (decide (j < i)))
abbrev geD:=f2I fun i j=>some (.bl (decide (j ≤ i)))
def addD:D → D → Option D
  | .v (.int i),.v (.int j)=>some (.int (i + j))
  | .v (.str s),.v (.str t)=>if s.length + t.length ≤ 100000 then some (.str (s ++ t)) else none
  | .n .lst _ xs,.n .lst _ ys=>if xs.length + ys.length ≤ 100000 ∧ xs.all D.kept = true ∧ ys.all D.kept = true then some (.n .lst .own (xs ++ ys)) else none
  | .n .tup _ (x :: xs),.n .tup _ (y :: ys)=>if xs.length + ys.length ≤ 100000 ∧ (x :: xs).all D.kept = true ∧ (y :: ys).all D.kept = true then some (.n .tup .shr ((x :: xs) ++ (y :: ys))) else none
  | _,_=>none
theorem Rps.keptS:∀ {ds:List D} {vs:List V} {fp:List Addr},ds.all D.kept = true → Rps cl A L H b ds vs fp → Rps cl A L H false ds vs []
  | [],vs,fp,_,h=>by simp only [Rps] at h ⊢; exact ⟨h.1,trivial⟩
  | d :: ds,vs,fp,hk,h=>by
    simp only [Rps] at h ⊢
    obtain ⟨v,vs',f1,f2,h1,h2,h3,h4⟩:=h
    simp only [List.all_cons,Bool.and_eq_true] at hk
    have h5:=h3.strong hk.1
    obtain ⟨h5,rfl⟩:=h5
    exact ⟨v,vs',[],[],h1,rfl,h5,Rps.keptS hk.2 h4⟩
/-- things found,kept,as temporaries -/
theorem Jt.keptL {ts:List D} {ws:List V} {ds:List D} {vs:List V} {fp:List Addr} (j:Jt p cl A L B H ts ws δ σ) (hk:ds.all D.kept = true) (h:Rps cl A L H b ds vs fp):Jt p cl A L B H ds vs δ σ:=by
  obtain ⟨g,h2,h3,h5⟩:=j.drop0
  exact ⟨⟨[],g,h.keptS hk,h2,by simpa using h3,by simp,h5⟩,j.lb,j.ba,j.ad,j.tb⟩
end
end Fs
namespace Fs
open PySem L2
section
variable {cl:Ec} {xf:Nat → List Str} {W:WX} {A A' L B:Addr → Prop} {H H':Hp} {δ δ':Sl} {σ:L2.St} {p q b:Bool} {te ta tb tc:TE} {tA:TA} {tt tu:TT}
def dAnd (a b:DE):DE:=fun δ=>(a δ).bind fun x δ1=>match x with | .v (.bl true)=>b δ1 | .v (.bl false)=>.ok (.bl false) δ1 | _=>.bad
def dOr (a b:DE):DE:=fun δ=>(a δ).bind fun x δ1=>match x with | .v (.bl true)=>.ok (.bl true) δ1 | .v (.bl false)=>b δ1 | _=>.bad
def notD:D → Option D | .v (.bl c)=>some (.bl !c) | _=>none
theorem se_and {a b:DE} (ha:SE cl xf W p ta a) (hb:SE cl xf W p tb b):SE cl xf W p (tAndV ta tb) (dAnd a b):=by
  refine ⟨fun hp δ=>Out.same_bind (ha.pure hp δ) fun x=>?_,fun A L B H δ σ Q j k=>?_⟩
  · split
    · exact hb.pure hp δ
    · rfl
    · trivial
  · refine ha.run A L B H δ σ _ j (Post.bind (γ:=D) k fun x δ1 vs A1 H1 e1 n1 j1 k1 v ev=>?_)
    subst ev
    obtain ⟨u',f1,e0,h1⟩:=j1.one
    cases e0
    split at k1
    · obtain ⟨rfl,_,_⟩:=h1.leafv
      refine ⟨true,rfl,?_⟩
      rw [if_pos rfl]
      exact hb.run A1 L B H1 δ1 σ Q j1.drop (Post.step k1 n1)
    · obtain ⟨rfl,_,_⟩:=h1.leafv
      exact ⟨false,rfl,k1 _ A1 H1 n1 j1 _ rfl⟩
    · exact k1.elim
/-- one operation of one value that gives a scalar and asks nothing of the heap -/
def d1S (f:D → Option D) (a:DE):DE:=fun δ=>(a δ).bind fun x δ1=>Out.ofO (f x) δ1
theorem se_not {a:DE} (ha:SE cl xf W p ta a):SE cl xf W p (tNotV ta) (d1S notD a):=by
  refine ⟨fun hp δ=>Out.same_bind (ha.pure hp δ) fun x=>Out.same_ofO,fun A L B H δ σ Q j k=>?_⟩
  refine ha.run A L B H δ σ _ j (Post.bind (γ:=D) k fun x δ1 vs A1 H1 e1 n1 j1 k1 v ev=>?_)
  subst ev
  obtain ⟨z,e,k2⟩:=Post.ofO k1
  obtain ⟨u',f1,e0,h1⟩:=j1.one
  cases e0
  unfold notD at e
  split at e
  · rename_i c
    cases e
    obtain ⟨rfl,_,_⟩:=h1.leafv
    exact ⟨c,rfl,k2 _ A1 H1 n1 (j1.leaf rfl) _ rfl⟩
  · cases e
def dtV (a:DE):DT:=fun δ=>(a δ).bind fun x δ1=>match x with | .v (.bl c)=>.ok c δ1 | _=>.bad
theorem sb_v {a:DE} (ha:SE cl xf W p ta a):SB cl xf W p (tB ta) (dtV a):=by
  refine ⟨fun hp δ=>Out.same_bind (ha.pure hp δ) fun x=>?_,fun A L B H δ σ Q j k=>?_⟩
  · split
    · rfl
    · trivial
  · refine ha.run A L B H δ σ _ j (Post.bind (γ:=D) k fun x δ1 vs A1 H1 e1 n1 j1 k1 v ev=>?_)
    subst ev
    obtain ⟨u',f1,e0,h1⟩:=j1.one
    cases e0
    split at k1
    · rename_i c
      obtain ⟨rfl,_,_⟩:=h1.leafv
      exact ⟨c,rfl,k1 [] A1 H1 n1 j1.drop⟩
    · exact k1.elim
def dtAnd (a b:DT):DT:=fun δ=>(a δ).bind fun x δ1=>match x with | true=>b δ1 | false=>.ok false δ1
def dtOr (a b:DT):DT:=fun δ=>(a δ).bind fun x δ1=>match x with | true=>.ok true δ1 | false=>b δ1
def dtNot (a:DT):DT:=fun δ=>(a δ).bind fun x δ1=>.ok (!x) δ1
theorem sb_and {a b:DT} (ha:SB cl xf W p tt a) (hb:SB cl xf W p tu b):SB cl xf W p (tAnd tt tu) (dtAnd a b):=by
  refine ⟨fun hp δ=>Out.same_bind (ha.pure hp δ) fun x=>?_,fun A L B H δ σ Q j k=>?_⟩
  · split
    · exact hb.pure hp δ
    · rfl
  · refine ha.run A L B H δ σ _ j (Post.bind (γ:=D) k fun x δ1 vs A1 H1 e1 n1 j1 k1=>?_)
    cases x with
    | true=>rw [if_pos rfl]; exact hb.run A1 L B H1 δ1 σ Q j1.drop (Post.step k1 n1)
    | false=>exact k1 [] A1 H1 n1 j1.drop
theorem sb_or {a b:DT} (ha:SB cl xf W p tt a) (hb:SB cl xf W p tu b):SB cl xf W p (tOr tt tu) (dtOr a b):=by
  refine ⟨fun hp δ=>Out.same_bind (ha.pure hp δ) fun x=>?_,fun A L B H δ σ Q j k=>?_⟩
  · split
    · rfl
    · exact hb.pure hp δ
  · refine ha.run A L B H δ σ _ j (Post.bind (γ:=D) k fun x δ1 vs A1 H1 e1 n1 j1 k1=>?_)
    cases x with
    | true=>exact k1 [] A1 H1 n1 j1.drop
    | false=>exact hb.run A1 L B H1 δ1 σ Q j1.drop (Post.step k1 n1)
theorem sb_not {a:DT} (ha:SB cl xf W p tt a):SB cl xf W p (tNot tt) (dtNot a):=by
  refine ⟨fun hp δ=>Out.same_bind (ha.pure hp δ) fun x=>rfl,fun A L B H δ σ Q j k=>?_⟩
  exact ha.run A L B H δ σ _ j (Post.bind (γ:=D) k fun x δ1 vs A1 H1 e1 n1 j1 k1=>k1 [] A1 H1 n1 j1.drop)
def dIf (t:DT) (a b:DE):DE:=fun δ=>(t δ).bind fun x δ1=>match x with | true=>a δ1 | false=>b δ1
theorem SB.to {dt:DT} (h:SB cl xf W true tt dt):SB cl xf W p tt dt:=by
  cases p with
  | true=>exact h
  | false =>
    refine ⟨fun z=>(by cases z),fun A L B H δ σ Q j k=>h.run A L A H δ σ Q j.toPure ?_⟩
    have hs:=h.pure rfl δ
    cases e:dt δ with
    | bad=>rw [e] at k; exact k
    | exc c xs s =>
      rw [e] at k hs
      cases (show s = δ from hs)
      exact fun d vs A' H' n x j2=>k d vs A' H' (n.weak j.ba) x (j.ofPure n j2)
    | ok d s =>
      rw [e] at k hs
      cases (show s = δ from hs)
      exact fun vs A' H' n j2=>k vs A' H' (n.weak j.ba) (j.ofPure n j2)
def dCh (f g:D → D → Option D) (a b c:DE):DE:=fun δ=>(both a b δ).bind fun xy δ1=>match f xy.1 xy.2 with
  | some (.v (.bl true))=>(c δ1).bind fun z δ2=>Out.ofO ((g xy.2 z).filter D.kept) δ2
  | some (.v (.bl false))=>.ok (.bl false) δ1
  | _=>.bad
theorem Jt.triple {x y z:D} {ws:List V} (j:Jt p cl A L B H [x,y,z] ws δ σ):∃ u w t f1 f2 f3,ws = [u,w,t] ∧ Rp cl A L H false x u f1 ∧ Rp cl A L H false y w f2 ∧ Rp cl A L H false z t f3:=by
  obtain ⟨f0,g,h1,h2,h3,h4⟩:=j.ex
  simp only [Rps] at h1
  obtain ⟨u,vs',f1,f2,rfl,rfl,h5,w,vs'',f3,f4,rfl,rfl,h6,t,vs3,f5,f6,rfl,rfl,h7,rfl,rfl⟩:=h1
  exact ⟨u,w,t,f1,f3,f5,rfl,h5,h6,h7⟩
theorem se_ch {r r':R2} {f g:D → D → Option D} {a b c:DE} (hf:POp cl r f) (hg:POp cl r' g) (ha:SE cl xf W p ta a) (hb:SE cl xf W p tb b) (hc:SE cl xf W p tc c):SE cl xf W p (tChain r r' ta tb tc) (dCh f g a b c):=by
  refine ⟨fun hp δ=>Out.same_bind (Zma ha hb hp) fun x=>?_,fun A L B H δ σ Q j k=>?_⟩
  · split
    · exact Out.same_bind (hc.pure hp δ) fun x=>Out.same_ofO
    · rfl
    · trivial
  · refine two ha hb j (Post.bind (γ:=D) k fun x δ1 vs A1 H1 e1 n1 j1 k1 u w ev=>?_)
    subst ev
    obtain ⟨x,y⟩:=x
    obtain ⟨u',w',f1,f2,e0,h1,h2⟩:=j1.pair
    cases e0
    split at k1
    · rename_i e2
      refine hf A1 L H1 x y u w f1 f2 _ _ h1.weak h2.weak e2 fun v fp h3 _=>?_
      obtain ⟨rfl,_,_⟩:=h3.leafv
      refine ⟨true,rfl,?_⟩
      rw [if_pos rfl]
      obtain ⟨B',j2,hb',hj⟩:=j1.seq
      refine hc.run A1 L B' H1 δ1 σ _ j2 ?_
      have k2:=Post.step (A':=A1) (H':=H1) (Post.bind (γ:=D) (den0:=fun z=>[x,y,z]) (Q0:=fun z vs H2=>∀ t,vs = [u,w,t] → r' w t H2 Q) k1 fun z δ2 vs A2 H2 e3 n2 j3 k3 t ev=>?_) n1
      · exact Post.seq (ts:=[x,y]) (ws:=[u,w]) k2 (ZfA hc.pure rfl) j1.lb hb' hj (fun a=>rfl) (fun a vs H2 q t et=>q t (by rw [et]; rfl))
      · subst ev
        obtain ⟨o,eo,k4⟩:=Post.ofO k3
        obtain ⟨e5,e6⟩:=Option.filter_eq_some_iff.mp eo
        obtain ⟨u2,w2,t2,g1,g2,g3,e7,h5,h6,h7⟩:=j3.triple
        cases e7
        exact hg A2 L H2 y z w t g2 g3 o Q h6.weak h7.weak e5 fun v fp h8 _=>k4 [v] A2 H2 n2 (j3.kept e6 h8) v rfl
    · rename_i e2
      refine hf A1 L H1 x y u w f1 f2 _ _ h1.weak h2.weak e2 fun v fp h3 _=>?_
      obtain ⟨rfl,_,_⟩:=h3.leafv
      exact ⟨false,rfl,k1 _ A1 H1 n1 (j1.leaf rfl) _ rfl⟩
    · exact k1.elim
mutual
def pd:D → Option PyData
  | .v .non=>some .none
  | .v (.bl b)=>some (.bool b)
  | .v (.int i)=>some (.int i)
  | .v (.str s)=>some (.str s)
  | .n .lst _ xs=>(pds xs).map .list
  | .n .tup _ xs=>(pds xs).map .tuple
  | _=>none
def pds:List D → Option (List PyData)
  | []=>some []
  | d :: ds=>(pd d).bind fun x=>(pds ds).map fun xs=>x :: xs
end
mutual
theorem Rp.dp {K:PySem.W.Frag}:∀ {d:D} {v:V} {fp:List Addr} {b:Bool} {e:PyData},Rp cl A L H b d v fp → pd d = some e → Dp K H v e
  | .v .non,v,fp,b,e,h,he=>by obtain ⟨rfl,_,_⟩:=h.leafv; simp only [pd,Option.some.injEq] at he; subst he; exact .non
  | .v (.bl c),v,fp,b,e,h,he=>by obtain ⟨rfl,_,_⟩:=h.leafv; simp only [pd,Option.some.injEq] at he; subst he; exact .bl c
  | .v (.int i),v,fp,b,e,h,he=>by obtain ⟨rfl,_,_⟩:=h.leafv; simp only [pd,Option.some.injEq] at he; subst he; exact .int i
  | .v (.str i),v,fp,b,e,h,he=>by obtain ⟨rfl,_,_⟩:=h.leafv; simp only [pd,Option.some.injEq] at he; subst he; exact .str i
  | .v (.byt i),v,fp,b,e,h,he=>by simp [pd] at he
  | .v (.flt i),v,fp,b,e,h,he=>by simp [pd] at he
  | .v (.ref i),v,fp,b,e,h,he=>by simp [pd] at he
  | .v (.ty i),v,fp,b,e,h,he=>by simp [pd] at he
  | .n .lst w xs,v,fp,b,e,h,he=>by
    simp only [pd] at he
    obtain ⟨es,h1,rfl⟩:=Option.map_eq_some_iff.mp he
    obtain ⟨a,o,vs,fp',rfl,ho,hs,hr,hf⟩:=h.node
    cases hs
    exact .lst (SqL.of ho) (Rps.dp hr h1)
  | .n .tup w xs,v,fp,b,e,h,he=>by
    simp only [pd] at he
    obtain ⟨es,h1,rfl⟩:=Option.map_eq_some_iff.mp he
    obtain ⟨a,o,vs,fp',rfl,ho,hs,hr,hf⟩:=h.node
    cases hs
    exact .tup (SqT.of ho) (Rps.dp hr h1)
  | .s xs,v,fp,b,e,h,he=>by simp [pd] at he
  | .n (.dct ks) w xs,v,fp,b,e,h,he=>by simp [pd] at he
  | .n (.dcl ks) w xs,v,fp,b,e,h,he=>by simp [pd] at he
  | .n (.obj c fs) w xs,v,fp,b,e,h,he=>by simp [pd] at he
  | .n (.fn c) w xs,v,fp,b,e,h,he=>by simp [pd] at he
  | .n (.code c) w xs,v,fp,b,e,h,he=>by simp [pd] at he
  | .n .cell w xs,v,fp,b,e,h,he=>by simp [pd] at he
theorem Rps.dp {K:PySem.W.Frag}:∀ {ds:List D} {vs:List V} {fp:List Addr} {b:Bool} {es:List PyData},Rps cl A L H b ds vs fp → pds ds = some es → DpAll K H vs es
  | [],vs,fp,b,es,h,he=>by
    simp only [Rps] at h
    simp only [pds,Option.some.injEq] at he
    rw [h.1,← he]
    exact .nil
  | d :: ds,vs,fp,b,es,h,he=>by
    simp only [Rps] at h
    obtain ⟨v,vs',f1,f2,rfl,rfl,h3,h4⟩:=h
    simp only [pds] at he
    obtain ⟨x,e1,e2⟩:=Option.bind_eq_some_iff.mp he
    obtain ⟨xs,e3,rfl⟩:=Option.map_eq_some_iff.mp e2
    exact .cons (Rp.dp h3 e1) (Rps.dp h4 e3)
end
def eqD (x y:D):Option D:=(pd x).bind fun a=>(pd y).bind fun b=>if SeqAt.shaped a = true ∧ SeqAt.shaped b = true then some (.bl (PyData.eqv a b)) else none
def neD (x y:D):Option D:=(pd x).bind fun a=>(pd y).bind fun b=>if SeqAt.shaped a = true ∧ SeqAt.shaped b = true then some (.bl (!PyData.eqv a b)) else none
theorem pop_eq {K:PySem.W.Frag}:POp cl (rEqD K) eqD:=by
  intro A L H x y u w f1 f2 z Q h1 h2 e k
  unfold eqD at e
  obtain ⟨a,e1,e⟩:=Option.bind_eq_some_iff.mp e
  obtain ⟨b,e2,e⟩:=Option.bind_eq_some_iff.mp e
  split at e
  · rename_i hs
    cases e
    exact ⟨a,b,h1.dp e1,h2.dp e2,hs.1,hs.2,k _ [] (Rp.leaf rfl) (by simp)⟩
  · cases e
theorem pop_ne {K:PySem.W.Frag}:POp cl (rNeD K) neD:=by
  intro A L H x y u w f1 f2 z Q h1 h2 e k
  unfold neD at e
  obtain ⟨a,e1,e⟩:=Option.bind_eq_some_iff.mp e
  obtain ⟨b,e2,e⟩:=Option.bind_eq_some_iff.mp e
  split at e
  · rename_i hs
    cases e
    exact ⟨a,b,h1.dp e1,h2.dp e2,hs.1,hs.2,k _ [] (Rp.leaf rfl) (by simp)⟩
  · cases e
theorem ZjF:∀ x y z,eqD x y = some z → z.kept = true:=by
  intro x y z e
  unfold eqD at e
  obtain ⟨a,e1,e⟩:=Option.bind_eq_some_iff.mp e
  obtain ⟨b,e2,e⟩:=Option.bind_eq_some_iff.mp e
  split at e
  · cases e; rfl
  · cases e
theorem Zjj:∀ x y z,neD x y = some z → z.kept = true:=by
  intro x y z e
  unfold neD at e
  obtain ⟨a,e1,e⟩:=Option.bind_eq_some_iff.mp e
  obtain ⟨b,e2,e⟩:=Option.bind_eq_some_iff.mp e
  split at e
  · cases e; rfl
  · cases e
def isND:D → Option D | .v .non=>some (.bl true) | .v _=>some (.bl false) | .s _=>some (.bl false) | .n _ _ _=>some (.bl false)
theorem isN_eq {x:D} {u:V} {f1:List Addr} (h:Rp cl A L H true x u f1):isND x = some (.bl (decide (u = .non))):=by
  match x,h with
  | .v s,h =>
    obtain ⟨rfl,_,_⟩:=h.leafv
    cases u <;> simp [isND]
  | .s ns,h =>
    obtain ⟨a,rfl,_⟩:=h.scr
    simp [isND]
  | .n k w ds,h =>
    obtain ⟨a,o,vs,fp',rfl,_⟩:=h.nodeN
    simp [isND]
theorem pun_isN:PUn cl (fun x H Q=>Q (.bl (decide (x = .non))) H) isND:=by
  intro A L H x u f1 z Q h1 e k
  rw [isN_eq h1] at e
  cases e
  exact k _ [] (Rp.leaf rfl) (by simp)
def notND (x:D):Option D:=(isND x).bind notD
theorem pun_notN:PUn cl (fun x H Q=>Q (.bl (!decide (x = .non))) H) notND:=by
  intro A L H x u f1 z Q h1 e k
  unfold notND at e
  rw [isN_eq h1] at e
  cases e
  exact k _ [] (Rp.leaf rfl) (by simp)
end
end Fs
namespace Fs
open PySem L2
def Kp (ws:Nat → Bool) (σ σ':L2.St):Prop:=σ'.length = σ.length ∧ ∀ i,ws i = false → σ'[i]? = σ[i]?
theorem Kp.refl {ws:Nat → Bool} (σ:L2.St):Kp ws σ σ:=⟨rfl,fun _ _=>rfl⟩
theorem Kp.trans {ws:Nat → Bool} {σ σ' σ'':L2.St} (a:Kp ws σ σ') (b:Kp ws σ' σ''):Kp ws σ σ'':=⟨b.1.trans a.1,fun i h=>(b.2 i h).trans (a.2 i h)⟩
theorem Kp.set {ws:Nat → Bool} {σ:L2.St} {i:Nat} {x:Option V} (h:ws i = true):Kp ws σ (σ.set i x):=⟨List.length_set,fun k hk=>by
  have ne:i ≠ k:=fun e=>by rw [e,hk] at h; cases h
  rw [List.getElem?_set_ne ne]⟩
section
variable (cl:Ec) (xf:Nat → List Str) (W:WX) (ws:Nat → Bool)
def PostS (o:Out Flow) (A L B:Addr → Prop) (H:Hp) (σ:L2.St) (E:Ends):Prop:=match o with
  | .ok .nx δ'=>∀ A' H' σ',Nx A B H A' H' → Kp ws σ σ' → Jt false cl A' L B H' [] [] δ' σ' → E.nx σ' H'
  | .ok .bk δ'=>∀ A' H' σ',Nx A B H A' H' → Kp ws σ σ' → Jt false cl A' L B H' [] [] δ' σ' → E.bk σ' H'
  | .ok .ct δ'=>∀ A' H' σ',Nx A B H A' H' → Kp ws σ σ' → Jt false cl A' L B H' [] [] δ' σ' → E.ct σ' H'
  | .ok (.rt d) δ'=>∀ v A' H' σ',Nx A B H A' H' → Kp ws σ σ' → Jt false cl A' L B H' [d] [v] δ' σ' → E.rt v H'
  | .exc c xs δ'=>∀ d vs A' H' σ',Nx A B H A' H' → Kp ws σ σ' → XAt xf A' H' c vs d → Jt false cl A' L B H' xs vs δ' σ' → W (.ref (cl.c c)) d σ' H'
  | .bad=>False
def SS (ts:TS) (ds:DS):Prop:=∀ A L B H δ σ E,Jt false cl A L B H [] [] δ σ → PostS cl xf W ws (ds δ) A L B H σ E → ts E σ H
/-- a target -/
def SG (g:TG) (tg:D → Sl → Option Sl):Prop:=∀ p A L B H δ δ' σ d v Q,Jt p cl A L B H [d] [v] δ σ → tg d δ = some δ' → (∀ σ',Kp ws σ σ' → Jt p cl A L B H [] [] δ' σ' → Q σ' H) → g v σ H Q
end
section
variable {cl:Ec} {xf:Nat → List Str} {W:WX} {ws:Nat → Bool} {A A' L B:Addr → Prop} {H H':Hp} {δ δ':Sl} {σ σ':L2.St} {p q b:Bool} {te ta tb tc:TE} {tA:TA} {tt tu:TT} {t u:TS}
theorem PostS.step {o:Out Flow} {E:Ends} (h:PostS cl xf W ws o A L B H σ E) (n:Nx A B H A' H') (k:Kp ws σ σ'):PostS cl xf W ws o A' L B H' σ' E:=by
  cases o with
  | bad=>exact h
  | exc c xs s=>exact fun d vs A2 H2 σ2 n2 k2=>h d vs A2 H2 σ2 (n.trans n2) (k.trans k2)
  | ok f s =>
    cases f with
    | nx=>exact fun A2 H2 σ2 n2 k2=>h A2 H2 σ2 (n.trans n2) (k.trans k2)
    | bk=>exact fun A2 H2 σ2 n2 k2=>h A2 H2 σ2 (n.trans n2) (k.trans k2)
    | ct=>exact fun A2 H2 σ2 n2 k2=>h A2 H2 σ2 (n.trans n2) (k.trans k2)
    | rt d=>exact fun v A2 H2 σ2 n2 k2=>h v A2 H2 σ2 (n.trans n2) (k.trans k2)
theorem PostS.under {o:Out Flow} {E:Ends} {B':Addr → Prop} (h:PostS cl xf W ws o A L B H σ E) (hb:∀ a,B a → B' a) (lb:∀ a,L a → B a):PostS cl xf W ws o A L B' H σ E:=by
  cases o with
  | bad=>exact h
  | exc c xs s=>exact fun d vs A2 H2 σ2 n2 k2 x j=>h d vs A2 H2 σ2 (n2.weak hb) k2 x (j.lower hb lb)
  | ok f s =>
    cases f with
    | nx=>exact fun A2 H2 σ2 n2 k2 j=>h A2 H2 σ2 (n2.weak hb) k2 (j.lower hb lb)
    | bk=>exact fun A2 H2 σ2 n2 k2 j=>h A2 H2 σ2 (n2.weak hb) k2 (j.lower hb lb)
    | ct=>exact fun A2 H2 σ2 n2 k2 j=>h A2 H2 σ2 (n2.weak hb) k2 (j.lower hb lb)
    | rt d=>exact fun v A2 H2 σ2 n2 k2 j=>h v A2 H2 σ2 (n2.weak hb) k2 (j.lower hb lb)
/-- a statement that evaluates something first -/
theorem PostS.bind {α:Type} {o:Out α} {f:α → Sl → Out Flow} {E:Ends} {den0:α → List D} {Q0:α → List V → Hp → Prop} (h:PostS cl xf W ws (o.bind f) A L B H σ E)
    (k:∀ a δ1 vs A' H',o = .ok a δ1 → Nx A B H A' H' → Jt false cl A' L B H' (den0 a) vs δ1 σ → PostS cl xf W ws (f a δ1) A L B H σ E → Q0 a vs H'):Post cl xf W false o den0 A L B H σ Q0:=by
  cases o with
  | ok a s=>exact fun vs A' H' n j=>k a s vs A' H' rfl n j h
  | exc c xs s=>exact fun d vs A' H' n x j=>h d vs A' H' σ n (Kp.refl σ) x j
  | bad=>exact h
def dsNext:DS:=fun δ=>.ok .nx δ
def dsSeq (a b:DS):DS:=fun δ=>(a δ).bind fun f δ1=>match f with | .nx=>b δ1 | f=>.ok f δ1
theorem ZnS:SS cl xf W ws tNext dsNext:=fun A L B H δ σ E j k=>k A H σ (Nx.refl j.ba) (Kp.refl σ) j
theorem ss_seq {a b:DS} (ha:SS cl xf W ws t a) (hb:SS cl xf W ws u b):SS cl xf W ws (tSeq t u) (dsSeq a b):=fun A L B H δ σ E j k=>by
  refine ha A L B H δ σ _ j ?_
  unfold dsSeq at k
  cases e:a δ with
  | bad=>rw [e] at k; exact k
  | exc c xs s=>rw [e] at k; exact k
  | ok f s =>
    rw [e] at k
    simp only [Out.bind] at k
    cases f with
    | nx=>exact fun A2 H2 σ2 n2 k2 j2=>hb A2 L B H2 s σ2 E j2 (PostS.step k n2 k2)
    | bk=>exact k
    | ct=>exact k
    | rt d=>exact k
theorem Jt.put {d:D} {v:V} {i:Nat} (j:Jt p cl A L B H [d] [v] δ σ):Jt p cl A L B H [] [] (δ.set i (some d)) (σ.set i (some v)):=by
  by_cases hi:i < δ.length
  · obtain ⟨f,g,h1,h2,h3,h4,h5⟩:=j.ex
    simp only [Rps] at h1
    obtain ⟨u,vs',f1,f2,e,rfl,h6,rfl,rfl⟩:=h1
    cases e
    rw [List.append_nil] at h3 h4
    obtain ⟨g',k1,k2,k3⟩:=h2.put hi h6.weak h3
    refine ⟨⟨[],g',by simp [Rps],k1,by simpa using k2,by simp,fun hp a ha=>?_⟩,j.lb,j.ba,j.ad,j.tb⟩
    rcases List.mem_append.mp (k3 a ha) with q | q
    · exact h4 a q
    · exact h5 hp a q
  · have hl:δ.length = σ.length:=by
      obtain ⟨g,h2,_⟩:=j.drop0
      exact h2.length
    rw [List.set_eq_of_length_le (by omega),List.set_eq_of_length_le (by omega)]
    exact j.drop
theorem Jt.clear {i:Nat} {ts:List D} {vs:List V} (j:Jt p cl A L B H ts vs δ σ):Jt p cl A L B H ts vs (δ.set i none) σ:=by
  obtain ⟨f,g,h1,h2,h3,h4,h5⟩:=j.ex
  have nd:=List.nodup_append.mp h3
  obtain ⟨g',k1,k2,k3⟩:=h2.drop (i:=i) nd.2.1
  exact ⟨⟨f,g',h1,k1,List.nodup_append.mpr ⟨nd.1,k2,fun a ha c hc=>nd.2.2 a ha c (k3 c hc)⟩,h4,fun hp a ha=>h5 hp a (k3 a ha)⟩,j.lb,j.ba,j.ad,j.tb⟩
theorem Jt.blur {i:Nat} {ts:List D} {vs:List V} {x:Option V} (j:Jt p cl A L B H ts vs δ σ) (e:δ[i]? = some none):Jt p cl A L B H ts vs δ (σ.set i x):=by
  obtain ⟨f,g,h1,h2,h3,h4,h5⟩:=j.ex
  exact ⟨⟨f,g,h1,h2.blur e,h3,h4,h5⟩,j.lb,j.ba,j.ad,j.tb⟩
def dsAsg (e:DE) (tg:D → Sl → Option Sl):DS:=fun δ=>(e δ).bind fun d δ1=>match tg d δ1 with | some δ2=>.ok .nx δ2 | none=>.bad
def tgN (i:Nat):D → Sl → Option Sl:=fun d δ=>some (δ.set i (some d))
theorem Zfy {i:Nat} (h:ws i = true):SG cl ws (gName i) (tgN i):=fun p A L B H δ δ' σ d v Q j e k=>by
  cases e
  exact k _ (Kp.set h) j.put
theorem ss_asg {e:DE} {g:TG} {tg:D → Sl → Option Sl} (he:SE cl xf W false te e) (hg:SG cl ws g tg):SS cl xf W ws (tAsg te g) (dsAsg e tg):=fun A L B H δ σ E j k=>by
  refine he.run A L B H δ σ _ j (PostS.bind k fun d δ1 vs A1 H1 e1 n1 j1 k1 v ev=>?_)
  subst ev
  split at k1
  · rename_i δ2 e2
    exact hg false A1 L B H1 δ1 δ2 σ d v _ j1 e2 fun σ' kp j2=>k1 A1 H1 σ' n1 kp j2
  · exact k1.elim
/-- several names -/
def tgs:List (D → Sl → Option Sl) → List D → Sl → Option Sl
  | [],[],δ=>some δ
  | t :: ts,d :: ds,δ=>(t d δ).bind fun δ1=>tgs ts ds δ1
  | _,_,_=>none
def tgT (ts:List (D → Sl → Option Sl)):D → Sl → Option Sl
  | .n .tup .shr ds,δ=>if ds.all D.kept = true ∧ ds.length = ts.length then tgs ts ds δ else none
  | _,_=>none
/-- the targets within -/
def SGs (cl:Ec) (ws:Nat → Bool) (g:TGs) (ts:List (D → Sl → Option Sl)):Prop:=∀ p A L B H δ δ' σ ds vs Q,Jt p cl A L B H [] [] δ σ → Rps cl A L H false ds vs [] → tgs ts ds δ = some δ' → (∀ σ',Kp ws σ σ' → Jt p cl A L B H [] [] δ' σ' → Q σ' H) → g vs σ H Q
theorem Zn0:SGs cl ws gNil []:=fun p A L B H δ δ' σ ds vs Q j h e k=>by
  match ds,e with
  | [],e =>
    simp only [tgs,Option.some.injEq] at e
    subst e
    simp only [Rps] at h
    exact ⟨h.1,k σ (Kp.refl σ) j⟩
theorem ZmS {g:TG} {gs:TGs} {t:D → Sl → Option Sl} {ts:List (D → Sl → Option Sl)} (h1:SG cl ws g t) (h2:SGs cl ws gs ts):SGs cl ws (gCons g gs) (t :: ts):=fun p A L B H δ δ' σ ds vs Q j h e k=>by
  match ds,e with
  | d :: ds,e =>
    simp only [tgs] at e
    obtain ⟨δ1,e1,e2⟩:=Option.bind_eq_some_iff.mp e
    simp only [Rps] at h
    obtain ⟨v,vs',f1,f2,rfl,e3,h3,h4⟩:=h
    have e3:=List.append_eq_nil_iff.mp e3.symm
    obtain ⟨rfl,rfl⟩:=e3
    refine ⟨v,vs',rfl,?_⟩
    have j1:Jt p cl A L B H [d] [v] δ σ:=by
      obtain ⟨g0,k2,k3,k5⟩:=j.drop0
      exact ⟨⟨[],g0,by simp only [Rps]; exact ⟨v,[],[],[],rfl,rfl,h3,rfl,rfl⟩,k2,by simpa using k3,by simp,k5⟩,j.lb,j.ba,j.ad,j.tb⟩
    exact h1 p A L B H δ δ1 σ d v _ j1 e1 fun σ1 kp j2=>h2 p A L B H δ1 δ' σ1 ds vs' Q j2 h4 e2 fun σ2 kp2 j3=>k σ2 (kp.trans kp2) j3
theorem sg_tup {K:PySem.W.Frag} {g:TGs} {ts:List (D → Sl → Option Sl)} {n:Nat} (hn:n = ts.length) (h:SGs cl ws g ts):SG cl ws (gTup K n g) (tgT ts):=fun p A L B H δ δ' σ d v Q j e k=>by
  unfold tgT at e
  split at e
  · rename_i ds
    split at e
    · rename_i hk
      obtain ⟨u,f1,e0,h1⟩:=j.one
      cases e0
      obtain ⟨a,o,vs,fp',rfl,ho,hs,hr,hf⟩:=h1.node
      cases hs
      refine ⟨a,vs,rfl,SqT.of ho,by rw [← hr.length,hn]; exact hk.2,?_⟩
      exact h p A L B H δ δ' σ ds vs Q j.drop (hr.keptS hk.1) e k
    · cases e
  · cases e
def dsRet (e:DE):DS:=fun δ=>(e δ).bind fun d δ1=>.ok (.rt d) δ1
theorem ss_ret {e:DE} (he:SE cl xf W false te e):SS cl xf W ws (tRet te) (dsRet e):=fun A L B H δ σ E j k=>by
  refine he.run A L B H δ σ _ j (PostS.bind k fun d δ1 vs A1 H1 e1 n1 j1 k1 v ev=>?_)
  subst ev
  exact k1 v A1 H1 σ n1 (Kp.refl σ) j1
def dsRetN:DS:=fun δ=>.ok (.rt .non) δ
/-- return x: the thing is handed out as it is -/
def D.free:D → Bool | .n _ .bor _=>false | _=>true
theorem Rp.free {d:D} {v:V} {fp:List Addr} (h:Rp cl A L H b d v fp) (hf:d.free = true):Rp cl A L H false d v fp:=by
  match d,h with
  | .v x,h=>simp only [Rp] at h ⊢; exact h
  | .s x,h=>simp only [Rp] at h ⊢; exact h
  | .n k .shr ds,h=>simp only [Rp] at h ⊢; exact h
  | .n k .own ds,h=>simp only [Rp] at h ⊢; exact h
  | .n k .bor ds,h=>simp [D.free] at hf
def dMv (i:Nat):DE:=fun δ=>match (δ[i]?).join with
  | some d=>if d.free then .ok d (δ.set i none) else .bad
  | none=>.bad
theorem se_mv {i:Nat}:SE cl xf W false (tVar i) (dMv i):=by
  refine ⟨fun z=>(by cases z),fun A L B H δ σ Q j k=>?_⟩
  unfold dMv at k
  split at k
  · rename_i d e
    split at k
    · rename_i hf
      obtain ⟨f,g,h1,h2,h3,h4,h5⟩:=j.ex
      simp only [Rps] at h1
      obtain ⟨_,rfl⟩:=h1
      obtain ⟨v,f1,f2,k1,k2,k3,k4,k5⟩:=h2.take (join_some e) (by simpa using h3)
      refine ⟨v,k1,k [v] A H (Nx.refl j.ba) ⟨⟨f1,f2,?_,k3,k4,fun a ha=>h5 rfl a ((k5 a).mp (List.mem_append_left _ ha)),fun _ a ha=>h5 rfl a ((k5 a).mp (List.mem_append_right _ ha))⟩,j.lb,j.ba,j.ad,j.tb⟩ v rfl⟩
      simp only [Rps]
      exact ⟨v,[],f1,[],rfl,by simp,k2.free hf,rfl,rfl⟩
    · exact k.elim
  · exact k.elim
/-- a name's thing,from now on shared -/
def dFz (i:Nat):DE:=fun δ=>match (δ[i]?).join with
  | some d=>if d.free then .ok (frz d) (δ.set i (some (frz d))) else .bad
  | none=>.bad
theorem ZdS {i:Nat} {v:V} (h:σ[i]? = some (some v)):σ.set i (some v) = σ:=by
  obtain ⟨hl,e⟩:=List.getElem?_eq_some_iff.mp h
  rw [← e]
  exact List.set_getElem_self hl
theorem se_fz {i:Nat}:SE cl xf W false (tVar i) (dFz i):=by
  refine ⟨fun z=>(by cases z),fun A L B H δ σ Q j k=>?_⟩
  unfold dFz at k
  split at k
  · rename_i d e
    split at k
    · rename_i hf
      obtain ⟨f,g,h1,h2,h3,h4,h5⟩:=j.ex
      simp only [Rps] at h1
      obtain ⟨_,rfl⟩:=h1
      obtain ⟨v,f1,f2,k1,k2,k3,k4,k5⟩:=h2.take (join_some e) (by simpa using h3)
      have j1:Jt false cl A L B H [d] [v] (δ.set i none) σ:=⟨⟨f1,f2,by simp only [Rps]; exact ⟨v,[],f1,[],rfl,by simp,k2.free hf,rfl,rfl⟩,k3,k4,fun a ha=>h5 rfl a ((k5 a).mp (List.mem_append_left _ ha)),fun _ a ha=>h5 rfl a ((k5 a).mp (List.mem_append_right _ ha))⟩,j.lb,j.ba,j.ad,j.tb⟩
      have hk:=j1.freezeK
      obtain ⟨A1,n1,j2⟩:=j1.freeze
      simp only [frzs] at j2 hk
      have j3:=j2.put (i:=i)
      rw [ZdS k1,List.set_set] at j3
      obtain ⟨u,f3,e0,h6⟩:=j2.one
      cases e0
      exact ⟨v,k1,k [v] A1 H n1 (j3.kept (by simpa using hk) h6) v rfl⟩
    · exact k.elim
  · exact k.elim
def dsDrop (e:DE):DS:=fun δ=>(e δ).bind fun _ δ1=>.ok .nx δ1
theorem ZnU {e:DE} (he:SE cl xf W false te e):SS cl xf W ws (tDrop te) (dsDrop e):=fun A L B H δ σ E j k=>by
  refine he.run A L B H δ σ _ j (PostS.bind k fun d δ1 vs A1 H1 e1 n1 j1 k1 v ev=>?_)
  exact k1 A1 H1 σ n1 (Kp.refl σ) j1.drop
def dsIf (c:DT) (a b:DS):DS:=fun δ=>(c δ).bind fun x δ1=>match x with | true=>a δ1 | false=>b δ1
theorem ss_if {c:DT} {a b:DS} (hc:SB cl xf W false tt c) (ha:SS cl xf W ws t a) (hb:SS cl xf W ws u b):SS cl xf W ws (tIfS tt t u) (dsIf c a b):=fun A L B H δ σ E j k=>by
  refine hc.run A L B H δ σ _ j (PostS.bind k fun x δ1 vs A1 H1 e1 n1 j1 k1=>?_)
  cases x with
  | true=>rw [if_pos rfl]; exact ha A1 L B H1 δ1 σ E j1.drop (PostS.step k1 n1 (Kp.refl σ))
  | false=>exact hb A1 L B H1 δ1 σ E j1.drop (PostS.step k1 n1 (Kp.refl σ))
def dsBrk:DS:=fun δ=>.ok .bk δ
def dsCnt:DS:=fun δ=>.ok .ct δ
/-- J gives these things in turn,now and as long as what is under B stands -/
def ItOk (cl:Ec) (L B:Addr → Prop) (J:It) (its:List D) (A:Addr → Prop) (H:Hp):Prop:=∀ A1 H1,Nx A B H A1 H1 → (∀ i,i < its.length → J.go i H1) ∧ (∀ i,its.length ≤ i → J.stop i H1) ∧
  ∀ i x H2 d,its[i]? = some d → J.yld i H1 x H2 → ∀ p B1 δ σ,(∀ a,B a → B1 a) → Jt p cl A1 L B1 H1 [] [] δ σ → ∃ A2,Nx A1 B1 H1 A2 H2 ∧ Jt p cl A2 L B1 H2 [d] [x] δ σ
theorem ItOk.step {J:It} {its:List D} (h:ItOk cl L B J its A H) (n:Nx A B H A' H'):ItOk cl L B J its A' H':=fun A1 H1 n1=>h A1 H1 (n.trans n1)
structure SI (cl:Ec) (xf:Nat → List Str) (W:WX) (p:Bool) (wi:TI) (di:DA):Prop where
  pure:p = true → ∀ δ,(di δ).same δ
  run:∀ A L B H δ σ R,Jt p cl A L B H [] [] δ σ → (match di δ with
    | .ok its δ'=>∀ J A' H' B',Nx A B H A' H' → (∀ a,B a → B' a) → Jt p cl A' L B' H' [] [] δ' σ → ItOk cl L B' J its A' H' → R J H'
    | .exc c xs δ'=>PostX cl xf W p c xs δ' A L B H σ
    | .bad=>False) → wi σ H R
def loop (tg:D → Sl → Option Sl) (body:DS):List D → Sl → Out Flow
  | [],δ=>.ok .nx δ
  | x :: xs,δ=>match tg x δ with
    | none=>.bad
    | some δ1=>(body δ1).bind fun f δ2=>match f with
      | .nx=>loop tg body xs δ2
      | .ct=>loop tg body xs δ2
      | .bk=>.ok .nx δ2
      | .rt d=>.ok (.rt d) δ2
def dsFor (di:DA) (tg:D → Sl → Option Sl) (body:DS):DS:=fun δ=>(di δ).bind fun its δ1=>loop tg body its δ1
theorem ss_for {wi:TI} {di:DA} {g:TG} {tg:D → Sl → Option Sl} {body:DS} (hi:SI cl xf W false wi di) (hg:SG cl ws g tg) (hb:SS cl xf W ws t body):SS cl xf W ws (tFor wi g t) (dsFor di tg body):=fun A L B H δ σ E j k=>by
  refine hi.run A L B H δ σ _ j ?_
  unfold dsFor at k
  cases e:di δ with
  | bad=>rw [e] at k; exact k
  | exc c xs s=>rw [e] at k; exact fun d vs A' H' n x j=>k d vs A' H' σ n (Kp.refl σ) x j
  | ok its δ1 =>
    rw [e] at k
    simp only [Out.bind] at k
    intro J A1 H1 B1 n1 hb1 j1 hit
    have k0:PostS cl xf W ws (loop tg body its δ1) A1 L B1 H1 σ E:=(PostS.step k n1 (Kp.refl σ)).under hb1 j.lb
    refine ⟨fun i m σi Hi=>∃ Ai δi,m = its.length - i ∧ i ≤ its.length ∧ ItOk cl L B1 J its Ai Hi ∧ Jt false cl Ai L B1 Hi [] [] δi σi ∧ PostS cl xf W ws (loop tg body (its.drop i) δi) Ai L B1 Hi σi E,⟨its.length,A1,δ1,by simp,Nat.zero_le _,hit,j1,by rw [List.drop_zero]; exact k0⟩,?_⟩
    rintro i m σi Hi ⟨Ai,δi,rfl,hi',hit',ji,ki⟩
    have tf:=hit' Ai Hi (Nx.refl ji.ba)
    by_cases hlt:i < its.length
    · refine .inr ⟨tf.1 i hlt,fun σ2 H2=>∃ A2 δ2,ItOk cl L B1 J its A2 H2 ∧ Jt false cl A2 L B1 H2 [] [] δ2 σ2 ∧ PostS cl xf W ws (loop tg body (its.drop (i + 1)) δ2) A2 L B1 H2 σ2 E,fun σ2 H2 ⟨A2,δ2,h1,h2,h3⟩=>⟨its.length - (i + 1),by omega,A2,δ2,rfl,hlt,h1,h2,h3⟩,fun x H2 hy=>?_⟩
      have ed:its.drop i = its[i] :: its.drop (i + 1):=List.drop_eq_getElem_cons hlt
      rw [ed] at ki
      unfold loop at ki
      obtain ⟨A2,n2,j2⟩:=tf.2.2 i x H2 its[i] (List.getElem?_eq_getElem hlt) hy false B1 δi σi (fun _ h=>h) ji
      split at ki
      · exact ki.elim
      · rename_i δ2 e2
        refine hg false A2 L B1 H2 δi δ2 σi its[i] x _ j2 e2 fun σ2 kp2 j3=>?_
        refine hb A2 L B1 H2 δ2 σ2 _ j3 ?_
        have ki2:=PostS.step ki n2 kp2
        cases e3:body δ2 with
        | bad=>rw [e3] at ki2; exact ki2
        | exc c xs s=>rw [e3] at ki2; exact ki2
        | ok f s =>
          rw [e3] at ki2
          simp only [Out.bind] at ki2
          cases f with
          | nx=>exact fun A3 H3 σ3 n3 kp3 j4=>⟨A3,s,(hit'.step n2).step n3,j4,PostS.step ki2 n3 kp3⟩
          | ct=>exact fun A3 H3 σ3 n3 kp3 j4=>⟨A3,s,(hit'.step n2).step n3,j4,PostS.step ki2 n3 kp3⟩
          | bk=>exact ki2
          | rt d=>exact ki2
    · have ed:its.drop i = []:=List.drop_eq_nil_of_le (by omega)
      rw [ed] at ki
      exact .inl ⟨tf.2.1 i (by omega),ki Ai Hi σi (Nx.refl ji.ba) (Kp.refl σi) ji⟩
end
end Fs
namespace Fs
open PySem L2
section
variable {cl:Ec} {xf:Nat → List Str} {W:WX} {ws:Nat → Bool} {A A' L B:Addr → Prop} {H H':Hp} {δ δ':Sl} {σ σ':L2.St} {p q b:Bool} {te ta tb tc:TE} {tA:TA} {tt tu:TT} {t u:TS} {ts:List D} {vs:List V}
theorem Jt.seq2 (j:Jt p cl A L B H ts vs δ σ):∃ B',Jt p cl A L B' H [] [] δ σ ∧ (∀ a,B a → B' a) ∧
    ∀ A2 H2 us xs δ2 σ2,(p = true → δ2 = δ ∧ σ2 = σ) → Nx A B' H A2 H2 → Jt p cl A2 L B' H2 us xs δ2 σ2 → Jt p cl A2 L B H2 (ts ++ us) (vs ++ xs) δ2 σ2:=by
  cases p with
  | true =>
    refine ⟨A,j.drop.toPure,j.ba,fun A2 H2 us xs δ2 σ2 e n j2=>?_⟩
    obtain ⟨rfl,rfl⟩:=e rfl
    exact j.backP (f:=[]) n j2
  | false =>
    obtain ⟨f,h1,h2,h3,h4⟩:=j.hide
    exact ⟨_,h4,fun a h=>.inl h,fun A2 H2 us xs δ2 σ2 _ n j2=>Jt.back j h1 h2 h3 j.lb n j2⟩
/-- an owned thing in hand,looked at -/
theorem Jt.look {k:Kd} {ds:List D} {v:V} {ws:List V} (j:Jt p cl A L B H (.n k .own ds :: ts) (v :: ws) δ σ) (hk:ts.all D.kept = true) :
    ∃ a o us f,v = .ref a ∧ H a = some o ∧ Shape cl k a us o ∧ Rps cl A L H false ds us f ∧ Rps cl A L H false ts ws [] ∧ f.Nodup ∧
    ∀ k' us' o' ds' f',Shape cl k' a us' o' → k'.mut = true → Rps cl A L H false ds' us' f' → f'.Nodup → (∀ c ∈ f',c ∈ f) → Nx A B H A (upd H a o') ∧ Jt p cl A L B (upd H a o') [.n k' .own ds'] [.ref a] δ σ:=by
  obtain ⟨f,g,h1,h2,h3,h4,h5⟩:=j.ex
  simp only [Rps,Rp] at h1
  obtain ⟨v0,vs',f1,f2,e,rfl,⟨a,o,us,rfl,ho,hs,hA,fp',rfl,hr⟩,h6⟩:=h1
  cases e
  have e2:=ZgV hk h6
  subst e2
  obtain ⟨hs,hm⟩:=hs.own
  have nd:=List.nodup_append.mp h3
  have nd2:=List.nodup_cons.mp (List.nodup_append.mp nd.1).1
  refine ⟨a,o,us,fp',rfl,ho,hs,hr,h6,nd2.2,fun k' us' o' ds' f' s' m' r' n' c'=>?_⟩
  have nB:¬ B a:=h4 a (by simp)
  have nf:∀ c ∈ f',c ≠ a:=fun c hc e=>by subst e; exact nd2.1 (c' c hc)
  have ng:∀ c ∈ g,c ≠ a:=fun c hc e=>by subst e; exact nd.2.2 c (by simp) c hc rfl
  have st:∀ c u,H c = some u → ¬ A c → NT u → upd H a o' c = some u ∧ ¬ A c:=fun c u h n _=>⟨by rw [upd_ne (show c ≠ a from fun e=>n (by rw [e]; exact hA))]; exact h,n⟩
  refine ⟨⟨fun c h=>.inl h,fun c u h n t=>(st c u h n t).1,fun c h=>⟨upd_ne (show c ≠ a from fun e=>nB (by rw [← e]; exact h)),j.ba c h⟩,fun c h=>?_⟩,⟨⟨a :: f',g,?_,h2.step st (fun c hc=>⟨upd_ne (ng c hc),(h2.inA c hc).1⟩) (fun c hc=>⟨upd_ne (show c ≠ a from fun e=>nB (by rw [← e]; exact j.lb c hc)),hc⟩),?_,?_,h5⟩,j.lb,j.ba,fun c h=>?_,Tb.put j.tb ho hs hm⟩⟩
  · by_cases e:c = a
    · subst e; rw [upd_same] at h; cases h
    · rw [upd_ne e] at h; exact h
  · simp only [Rps,Rp]
    exact ⟨.ref a,[],a :: f',[],rfl,by simp,⟨a,o',us',rfl,upd_same,.inl ⟨s',fun _=>m'⟩,hA,f',rfl,r'.step st (fun c hc=>⟨upd_ne (nf c hc),(r'.inA c hc).1⟩) (by simp)⟩,rfl,rfl⟩
  · rw [List.cons_append]
    refine List.nodup_cons.mpr ⟨fun q=>?_,List.nodup_append.mpr ⟨n',nd.2.1,fun c hc d hd=>nd.2.2 c (by simp [c' c hc]) d hd⟩⟩
    rcases List.mem_append.mp q with q | q
    · exact nf a q rfl
    · exact ng a q rfl
  · intro c hc
    rcases List.mem_cons.mp hc with rfl | hc
    · exact nB
    · exact h4 c (by simp [c' c hc])
  · by_cases e:c = a
    · subst e; rw [upd_same]; simp
    · rw [upd_ne e]; exact j.ad c h
/-- temporaries behind the first are frozen -/
theorem Jt.freezeTail {d:D} {v:V} {ws:List V} (j:Jt p cl A L B H (d :: ts) (v :: ws) δ σ):∃ A',Nx A B H A' H ∧ Jt p cl A' L B H (d :: frzs ts) (v :: ws) δ σ:=by
  obtain ⟨f,g,h1,h2,h3,h4,h5⟩:=j.ex
  simp only [Rps] at h1
  obtain ⟨v0,vs',f1,f2,e,rfl,h6,h7⟩:=h1
  cases e
  have nd:=List.nodup_append.mp h3
  have nd2:=List.nodup_append.mp nd.1
  refine ⟨fun a=>A a ∧ a ∉ f2,⟨fun a h=>.inl h.1,fun a o h _ _=>h,fun a h=>⟨rfl,j.ba a h,fun q=>h4 a (List.mem_append_right _ q) h⟩,fun a h=>h⟩,⟨⟨f1,g,?_,?_,?_,fun a ha=>h4 a (List.mem_append_left _ ha),h5⟩,j.lb,fun a h=>⟨j.ba a h,fun q=>h4 a (List.mem_append_right _ q) h⟩,fun a h=>j.ad a h.1,j.tb.sub fun a h=>h.1⟩⟩
  · simp only [Rps]
    exact ⟨v,ws,f1,[],rfl,by simp,h6.step (fun a o h n _=>⟨h,fun q=>n q.1⟩) (fun a ha=>⟨rfl,(h6.inA a ha).1,fun q=>nd2.2.2 a ha a q rfl⟩) (by simp),h7.frz (fun a o _ n q=>n q.1) (fun a ha q=>q.2 ha)⟩
  · exact h2.step (fun a o h n _=>⟨h,fun q=>n q.1⟩) (fun a ha=>⟨rfl,(h2.inA a ha).1,fun q=>nd.2.2 a (List.mem_append_right _ q) a ha rfl⟩) (fun a h=>⟨rfl,h⟩)
  · exact List.nodup_append.mpr ⟨nd2.1,nd.2.1,fun a ha c hc=>nd.2.2 a (List.mem_append_left _ ha) c hc⟩
theorem Jt.tailK {d:D} {v:V} {ws:List V} (j:Jt p cl A L B H (d :: ts) (v :: ws) δ σ):(frzs ts).all D.kept = true:=by
  obtain ⟨f,g,h1,h2,h3,h4,h5⟩:=j.ex
  simp only [Rps] at h1
  obtain ⟨v0,vs',f1,f2,e,rfl,h6,h7⟩:=h1
  exact ZfQ h7
/-- a list in hand grows -/
theorem Jt.push {acc:List D} {y:D} {v w:V} (j:Jt p cl A L B H [.n .lst .own acc,y] [v,w] δ σ):∃ D0 us A',v = .ref D0 ∧ H D0 = some (.lst us) ∧ us.length = acc.length ∧ Nx A B H A' (upd H D0 (.lst (us ++ [w]))) ∧ Jt p cl A' L B (upd H D0 (.lst (us ++ [w]))) [.n .lst .own (acc ++ [frz y])] [.ref D0] δ σ:=by
  have hk:=j.tailK
  obtain ⟨A1,n1,j1⟩:=j.freezeTail
  obtain ⟨a,o,us,f,rfl,ho,hs,hr,ht,nf,hm⟩:=j1.look hk
  cases hs
  have h:=hm .lst (us ++ [w]) (.lst (us ++ [w])) (acc ++ [frz y]) (f ++ []) rfl rfl (hr.append (by simpa [frzs] using ht)) (by simpa using nf) (by simp)
  exact ⟨a,us,A1,rfl,ho,hr.length.symm,n1.trans h.1,h.2⟩
def wipeD (δ:Sl):List Nat → Sl
  | []=>δ
  | v :: vs=>(wipeD δ vs).set v none
theorem ZcA (δ:Sl):∀ vs:List Nat,(wipeD δ vs).length = δ.length
  | []=>rfl
  | v :: vs=>by unfold wipeD; rw [List.length_set,ZcA δ vs]
theorem ZcO (δ:Sl) (i:Nat):∀ vs:List Nat,(wipeD δ vs)[i]? = if i ∈ vs then (if i < δ.length then some none else none) else δ[i]?
  | []=>by simp [wipeD]
  | v :: vs=>by
    unfold wipeD
    by_cases e:v = i
    · subst e
      rw [if_pos (List.mem_cons_self)]
      by_cases h:v < δ.length
      · rw [if_pos h,List.getElem?_set_self (by rw [ZcA]; exact h)]
      · rw [if_neg h]
        exact List.getElem?_eq_none_iff.mpr (by rw [List.length_set,ZcA]; omega)
    · rw [List.getElem?_set_ne e,ZcO δ i vs]
      by_cases h:i ∈ vs
      · rw [if_pos h,if_pos (List.mem_cons_of_mem _ h)]
      · rw [if_neg h,if_neg (fun q=>(List.mem_cons.mp q).elim (fun z=>e z.symm) h)]
theorem Zeo (σ:L2.St) (i:Nat):∀ vs:List Nat,(wipe σ vs)[i]? = if i ∈ vs then (if i < σ.length then some none else none) else σ[i]?
  | []=>by simp [wipe]
  | v :: vs=>by
    unfold wipe
    by_cases e:v = i
    · subst e
      rw [if_pos (List.mem_cons_self)]
      by_cases h:v < σ.length
      · rw [if_pos h,List.getElem?_set_self (by rw [wipe_length]; exact h)]
      · rw [if_neg h]
        exact List.getElem?_eq_none_iff.mpr (by rw [List.length_set,wipe_length]; omega)
    · rw [List.getElem?_set_ne e,Zeo σ i vs]
      by_cases h:i ∈ vs
      · rw [if_pos h,if_pos (List.mem_cons_of_mem _ h)]
      · rw [if_neg h,if_neg (fun q=>(List.mem_cons.mp q).elim (fun z=>e z.symm) h)]
theorem ZeW (δ:Sl) (vs:List Nat):wipeD (wipeD δ vs) vs = wipeD δ vs:=List.ext_getElem? fun i=>by
  rw [ZcO,ZcO,ZcA]
  split <;> rfl
theorem Zfu (σ:L2.St) (vs:List Nat):wipe (wipe σ vs) vs = wipe σ vs:=List.ext_getElem? fun i=>by
  rw [Zeo,Zeo,wipe_length]
  split <;> rfl
theorem Zh6 {vs:List Nat} (k:Kp (fun i=>vs.contains i) σ σ'):wipe σ' vs = wipe σ vs:=List.ext_getElem? fun i=>by
  rw [Zeo,Zeo,k.1]
  split
  · rfl
  · rename_i h
    exact k.2 i (by simpa using h)
theorem Jt.wipe (j:Jt p cl A L B H ts vs δ σ):∀ ns:List Nat,Jt p cl A L B H ts vs (wipeD δ ns) (L2.wipe σ ns)
  | []=>j
  | n :: ns=>by
    have h:=(j.wipe ns).clear (i:=n)
    unfold wipeD L2.wipe
    by_cases hl:n < (wipeD δ ns).length
    · exact h.blur (by rw [List.getElem?_set_self hl])
    · have e:(L2.wipe σ ns).length ≤ n:=by
        obtain ⟨g,h2,_⟩:=(j.wipe ns).drop0
        have:=h2.length
        omega
      rw [List.set_eq_of_length_le e]
      exact h
/-- a target touches these slots alone -/
def TgIn (vs:List Nat) (tg:D → Sl → Option Sl):Prop:=∀ d δ δ',tg d δ = some δ' → wipeD δ' vs = wipeD δ vs
theorem ZV {i:Nat} {vs:List Nat} (h:i ∈ vs):TgIn vs (tgN i):=fun d δ δ' e=>by
  cases e
  refine List.ext_getElem? fun k=>?_
  rw [ZcO,ZcO,List.length_set]
  split
  · rfl
  · rename_i hk
    exact List.getElem?_set_ne (fun e=>hk (by rw [← e]; exact h))
def noX {α:Type}:Out α → Out α
  | .ok a s=>.ok a s
  | _=>.bad
theorem noX_ok {α:Type} {a:α} {s:Sl}:noX (.ok a s) = .ok a s:=rfl
theorem Zg5 {α β:Type} {a:α} {s:Sl} {f:α → Sl → Out β}:(Out.ok a s).bind f = f a s:=rfl
def comp (vs:List Nat) (tg:D → Sl → Option Sl) (tst:DT) (elt:DE):List D → List D → Sl → Out (List D)
  | [],acc,δ=>.ok acc δ
  | x :: xs,acc,δ=>match tg x δ with
    | none=>.bad
    | some δ1=>(noX (tst δ1)).bind fun b δ2=>match b with
      | true=>(noX (elt δ2)).bind fun y δ3=>if acc.length < 100000 then comp vs tg tst elt xs (acc ++ [frz y]) (wipeD δ3 vs) else .bad
      | false=>comp vs tg tst elt xs acc (wipeD δ2 vs)
/-- [elt for tg in its if tst]; keep: the state stays (a pure one) -/
def dComp (keep:Bool) (vs:List Nat) (di:DA) (tg:D → Sl → Option Sl) (tst:DT) (elt:DE):DE:=fun δ=>(di δ).bind fun its δ1=>(comp vs tg tst elt its [] (wipeD δ1 vs)).bind fun acc δ2=>.ok (.n .lst .own acc) (if keep then δ1 else δ2)
abbrev W0:WX:=fun _ _ _ _=>False
theorem Jt.unwipe:∀ {ns:List Nat} {σ:L2.St},wipeD δ ns = δ → Jt p cl A L B H ts vs δ (L2.wipe σ ns) → Jt p cl A L B H ts vs δ σ:=by
  intro ns
  have key:∀ (ms:List Nat) (σ:L2.St),(∀ n ∈ ms,n ∈ ns) → wipeD δ ns = δ → Jt p cl A L B H ts vs δ (L2.wipe σ ms) → Jt p cl A L B H ts vs δ σ:=by
    intro ms
    induction ms with
    | nil=>intro σ _ _ j; exact j
    | cons n ms ih =>
      intro σ hm hw j
      refine ih σ (fun k hk=>hm k (List.mem_cons_of_mem _ hk)) hw ?_
      unfold L2.wipe at j
      by_cases hl:n < (L2.wipe σ ms).length
      · have hd:δ[n]? = some none:=by
          have e:=ZcO δ n ns
          rw [hw,if_pos (hm n List.mem_cons_self)] at e
          rw [e,if_pos]
          obtain ⟨g,h2,_⟩:=j.drop0
          have:=h2.length
          rw [List.length_set] at this
          omega
        have j2:=j.blur (x:=(L2.wipe σ ms)[n]) hd
        rw [List.set_set,List.set_getElem_self hl] at j2
        exact j2
      · rw [List.set_eq_of_length_le (by omega)] at j
        exact j
  intro σ hw j
  exact key ns σ (fun _ h=>h) hw j
theorem Post.w0 {α:Type} {o:Out α} {den:α → List D} {Q:α → List V → Hp → Prop} (hb:noX o ≠ .bad) (h:∀ a s,o = .ok a s → ∀ vs A' H',Nx A B H A' H' → Jt p cl A' L B H' (den a) vs s σ → Q a vs H'):Post cl xf W0 p o den A L B H σ Q:=by
  cases o with
  | ok a s=>exact h a s rfl
  | exc c xs s=>exact absurd rfl hb
  | bad=>exact absurd rfl hb
theorem Ze8 {ns:List Nat} {tg:D → Sl → Option Sl} {tst:DT} {elt:DE}:∀ (its acc:List D) (δ:Sl) (c:Nat) (xs:List D) (s:Sl),comp ns tg tst elt its acc δ ≠ .exc c xs s:=by
  intro its
  induction its with
  | nil=>intro acc δ c xs s h; cases h
  | cons x its ih =>
    intro acc δ c xs s h
    unfold comp at h
    split at h
    · cases h
    · rename_i δ2 _
      cases h3:tst δ2 with
      | bad=>rw [h3] at h; cases h
      | exc c2 xs2 s2=>rw [h3] at h; cases h
      | ok b s2 =>
        rw [h3,noX_ok,Zg5] at h
        cases b with
        | false=>exact ih _ _ _ _ _ h
        | true =>
          simp only at h
          cases h4:elt s2 with
          | bad=>rw [h4] at h; cases h
          | exc c3 xs3 s3=>rw [h4] at h; cases h
          | ok y s3 =>
            rw [h4,noX_ok,Zg5] at h
            split at h
            · exact ih _ _ _ _ _ h
            · cases h
/-- the walk of a comprehension,its source told at this state alone -/
theorem Zl7 {wi:TI} {δ1:Sl} {its:List D} {g:TG} {tg:D → Sl → Option Sl} {tst:DT} {elt:DE} {ns:List Nat} (hloc:∀ R:It → Hp → Prop,(∀ J A' H' B',Nx A B H A' H' → (∀ a,B a → B' a) → Jt p cl A' L B' H' [] [] δ1 σ → ItOk cl L B' J its A' H' → R J H') → wi σ H R) (lb:∀ a,L a → B a) (hg:SG cl (fun i=>ns.contains i) g tg) (hin:TgIn ns tg) (ht:SB cl xf W0 p tt tst) (he:SE cl xf W0 p te elt)
    {Q:VK} (k:match comp ns tg tst elt its [] (wipeD δ1 ns) with
        | .ok acc δ2=>∀ D0 A' H',Nx A B H A' H' → Jt p cl A' L B H' [.n .lst .own acc] [.ref D0] δ2 (L2.wipe σ ns) → wipeD δ2 ns = δ2 → Q (.ref D0) H'
        | _=>False):tLc wi g tt te ns σ H Q:=by
  refine hloc _ ?_
  intro J A1 H1 B1 n1 hb1 j1 hit D0 hD
  obtain ⟨n2,j2⟩:=(j1.wipe ns).alloc (k:=.lst) (o:=.lst []) hD rfl
  let Fin:Out (List D) → Prop:=fun o=>match o with
    | .ok acc δ2=>∀ A' H',Nx A1 B1 H1 A' H' → Jt p cl A' L B1 H' [.n .lst .own acc] [.ref D0] δ2 (L2.wipe σ ns) → wipeD δ2 ns = δ2 → Q (.ref D0) H'
    | _=>False
  have k0:Fin (comp ns tg tst elt its [] (wipeD δ1 ns)):=by
    revert k
    cases comp ns tg tst elt its [] (wipeD δ1 ns) with
    | bad=>exact id
    | exc c xs s=>exact id
    | ok acc δ2=>exact fun k A' H' n' j' w'=>k D0 A' H' (n1.trans (n'.weak hb1)) (j'.lower hb1 lb) w'
  refine ⟨fun i m Hi=>∃ Ai acc δi,m = its.length - i ∧ i ≤ its.length ∧ ItOk cl L B1 J its Ai Hi ∧ Nx A1 B1 H1 Ai Hi ∧ wipeD δi ns = δi ∧ Jt p cl Ai L B1 Hi [.n .lst .own acc] [.ref D0] δi (L2.wipe σ ns) ∧ Fin (comp ns tg tst elt (its.drop i) acc δi),
    ⟨its.length,_,[],_,by simp,Nat.zero_le _,hit.step n2,n2,ZeW _ _,j2,by rw [List.drop_zero]; exact k0⟩,?_⟩
  rintro i m Hi ⟨Ai,acc,δi,rfl,hi',hit',ni,wi',ji,ki⟩
  have tf:=hit' Ai Hi (Nx.refl ji.ba)
  by_cases hlt:i < its.length
  · refine .inr ⟨tf.1 i hlt,fun H2=>∃ A2 acc2 δ2,ItOk cl L B1 J its A2 H2 ∧ Nx A1 B1 H1 A2 H2 ∧ wipeD δ2 ns = δ2 ∧ Jt p cl A2 L B1 H2 [.n .lst .own acc2] [.ref D0] δ2 (L2.wipe σ ns) ∧ Fin (comp ns tg tst elt (its.drop (i + 1)) acc2 δ2),
      fun H2 ⟨A2,acc2,δ2,h1,h2,h3,h4,h5⟩=>⟨its.length - (i + 1),by omega,A2,acc2,δ2,rfl,hlt,h1,h2,h3,h4,h5⟩,fun x H2 hy=>?_⟩
    have ed:its.drop i = its[i] :: its.drop (i + 1):=List.drop_eq_getElem_cons hlt
    rw [ed] at ki
    unfold comp at ki
    obtain ⟨B2,j3,hb2,hj⟩:=ji.seq2
    obtain ⟨A2,n3,j4⟩:=tf.2.2 i x H2 its[i] (List.getElem?_eq_getElem hlt) hy p B2 δi _ hb2 j3
    cases etg:tg its[i] δi with
    | none=>rw [etg] at ki; exact ki.elim
    | some δ2 =>
      rw [etg] at ki
      simp only at ki
      refine hg p A2 L B2 H2 δi δ2 _ its[i] x _ j4 etg fun σ2 kp2 j5=>⟨(Zh6 kp2).trans (Zfu _ _),?_⟩
      have hw2:wipeD δ2 ns = δi:=(hin _ _ _ etg).trans wi'
      have hb3:noX (tst δ2) ≠ .bad:=fun z=>by rw [z] at ki; exact ki
      refine ht.run A2 L B2 H2 δ2 σ2 _ j5 (Post.w0 hb3 fun b δ3 e3 vs3 A3 H3 n4 j6=>?_)
      rw [e3,noX_ok,Zg5] at ki
      have hs3:p = true → δ3 = δ2:=fun hp=>by have:=ht.pure hp δ2; rw [e3] at this; exact this
      cases b with
      | false =>
        rw [if_neg (by simp)]
        simp only at ki
        have j7:=j6.drop.wipe ns
        rw [(Zh6 kp2).trans (Zfu _ _)] at j7
        have n5:=n3.trans n4
        have j8:=hj A3 H3 [] [] _ _ (fun hp=>⟨by rw [hs3 hp]; exact hw2,rfl⟩) n5 j7
        exact ⟨A3,acc,wipeD δ3 ns,(hit'.step (n5.weak hb2)),ni.trans (n5.weak hb2),ZeW _ _,j8,ki⟩
      | true =>
        rw [if_pos rfl]
        simp only at ki
        have hb4:noX (elt δ3) ≠ .bad:=fun z=>by rw [z] at ki; exact ki
        refine he.run A3 L B2 H3 δ3 σ2 _ j6.drop (Post.w0 hb4 fun y δ4 e4 vs4 A4 H4 n5 j7 v ev=>?_)
        subst ev
        rw [e4,noX_ok,Zg5] at ki
        have hs4:p = true → δ4 = δ3:=fun hp=>by have:=he.pure hp δ3; rw [e4] at this; exact this
        have j8:=j7.wipe ns
        rw [(Zh6 kp2).trans (Zfu _ _)] at j8
        have n6:=(n3.trans n4).trans n5
        have j9:=hj A4 H4 [y] [v] _ _ (fun hp=>⟨by rw [hs4 hp,hs3 hp]; exact hw2,rfl⟩) n6 j8
        obtain ⟨a,us,A5,ea,h1,h2,n7,j10⟩:=j9.push
        cases ea
        split at ki
        · rename_i hl
          exact ⟨us,h1,by rw [h2]; exact sz_lt hl,A5,acc ++ [frz y],wipeD δ4 ns,(hit'.step (n6.weak hb2)).step n7,(ni.trans (n6.weak hb2)).trans n7,ZeW _ _,j10,ki⟩
        · exact ki.elim
  · have ed:its.drop i = []:=List.drop_eq_nil_of_le (by omega)
    rw [ed] at ki
    exact .inl ⟨tf.2.1 i (by omega),ki Ai Hi ni ji wi'⟩
theorem ZjJ {wi:TI} {di:DA} {g:TG} {tg:D → Sl → Option Sl} {tst:DT} {elt:DE} {ns:List Nat} (hi:SI cl xf W p wi di) (hg:SG cl (fun i=>ns.contains i) g tg) (hin:TgIn ns tg) (ht:SB cl xf W0 p tt tst) (he:SE cl xf W0 p te elt)
    {Q:VK} (j:Jt p cl A L B H [] [] δ σ) (k:match di δ with
      | .ok its δ1=>(match comp ns tg tst elt its [] (wipeD δ1 ns) with
        | .ok acc δ2=>∀ D0 A' H',Nx A B H A' H' → Jt p cl A' L B H' [.n .lst .own acc] [.ref D0] δ2 (L2.wipe σ ns) → wipeD δ2 ns = δ2 → Q (.ref D0) H'
        | _=>False)
      | .exc c xs δ'=>PostX cl xf W p c xs δ' A L B H σ
      | .bad=>False):tLc wi g tt te ns σ H Q:=by
  unfold tLc
  refine hi.run A L B H δ σ _ j ?_
  cases e:di δ with
  | bad=>rw [e] at k; exact k
  | exc c xs s=>rw [e] at k; exact k
  | ok its δ1 =>
    rw [e] at k
    simp only at k
    intro J A1 H1 B1 n1 hb1 j1 hit
    exact Zl7 (wi:=fun _ _ R=>R J H1) (A:=A) (B:=B) (H:=H) (δ1:=δ1) (its:=its) (fun R h=>h J A1 H1 B1 n1 hb1 j1 hit) j.lb hg hin ht he k
theorem Jt.ofPure2 {d:List D} {v:List V} {δ2:Sl} {σ2:L2.St} (j0:Jt p cl A L B H [] [] δ σ) (x:Nx A A H A' H') (j:Jt true cl A' L A H' d v δ2 σ2):Jt p cl A' L B H' d v δ σ:=by
  obtain ⟨f0,g,h1,h2,h3,h4,h5⟩:=j0.ex
  obtain ⟨f2,g2,k1,k2,k3,k4,k5⟩:=j.ex
  have nd2:=List.nodup_append.mp k3
  have nd:=List.nodup_append.mp h3
  have gA:∀ a ∈ g,A a:=fun a ha=>(h2.inA a ha).1
  refine ⟨⟨f2,g,k1,h2.step x.both (fun a ha=>x.prot a (gA a ha)) (fun a h=>⟨(x.prot a (j0.ba a (j0.lb a h))).1,h⟩),List.nodup_append.mpr ⟨nd2.1,nd.2.1,fun a ha c hc e=>?_⟩,fun a ha q=>k4 a ha (j0.ba a q),fun hp a ha=>h5 hp a ha⟩,j0.lb,fun a h=>(x.prot a (j0.ba a h)).2,j.ad,j.tb⟩
  subst e
  exact k4 a ha (gA a hc)
theorem Zk8 {wi:TI} {di:DA} {g:TG} {tg:D → Sl → Option Sl} {tst:DT} {elt:DE} {ns:List Nat} (hi:SI cl xf W false wi di) (hg:SG cl (fun i=>ns.contains i) g tg) (hin:TgIn ns tg) (ht:SB cl xf W0 false tt tst) (he:SE cl xf W0 false te elt) :
    SE cl xf W false (tLc wi g tt te ns) (dComp false ns di tg tst elt):=by
  refine ⟨fun z=>(by cases z),fun A L B H δ σ Q j k=>ZjJ hi hg hin ht he j ?_⟩
  unfold dComp at k
  cases e:di δ with
  | bad=>rw [e] at k; exact k
  | exc c xs s=>rw [e] at k; exact k
  | ok its δ1 =>
    rw [e] at k
    simp only [Out.bind] at k ⊢
    revert k
    cases e2:comp ns tg tst elt its [] (wipeD δ1 ns) with
    | bad=>exact id
    | exc c xs s=>exact fun k=>absurd e2 (Ze8 _ _ _ _ _ _)
    | ok acc δ2=>exact fun k D0 A' H' n' j' w'=>k [.ref D0] A' H' n' (j'.unwipe w') _ rfl
theorem Zi3 {wi:TI} {di:DA} {g:TG} {tg:D → Sl → Option Sl} {tst:DT} {elt:DE} {ns:List Nat} (hi:SI cl xf W true wi di) (hg:SG cl (fun i=>ns.contains i) g tg) (hin:TgIn ns tg) (ht:SB cl xf W0 true tt tst) (he:SE cl xf W0 true te elt) :
    SE cl xf W true (tLc wi g tt te ns) (dComp true ns di tg tst elt):=by
  refine ⟨fun _ δ=>Out.same_bind (hi.pure rfl δ) fun its=>?_,fun A L B H δ σ Q j k=>ZjJ hi hg hin ht he j.toPure ?_⟩
  · cases e2:comp ns tg tst elt its [] (wipeD δ ns) with
    | bad=>trivial
    | exc c xs s =>
      exact absurd e2 (Ze8 _ _ _ _ _ _)
    | ok acc δ2=>rfl
  · unfold dComp at k
    have hs:=hi.pure rfl δ
    cases e:di δ with
    | bad=>rw [e] at k; exact k
    | exc c xs s =>
      rw [e] at k hs
      cases (show s = δ from hs)
      exact fun d vs A' H' n x j2=>k d vs A' H' (n.weak j.ba) x (j.ofPure n j2)
    | ok its δ1 =>
      rw [e] at k hs
      cases (show δ1 = δ from hs)
      simp only [Out.bind] at k ⊢
      revert k
      cases e2:comp ns tg tst elt its [] (wipeD δ ns) with
      | bad=>exact id
      | exc c xs s=>exact fun k=>absurd e2 (Ze8 _ _ _ _ _ _)
      | ok acc δ2=>exact fun k D0 A' H' n' j' w'=>k [.ref D0] A' H' (n'.weak j.ba) (j.ofPure2 n' j') _ rfl
end
end Fs
set_option maxHeartbeats 2000000
namespace Fs
open PySem PySem.Spec PyProof.Rows L2
/-- room for calls,and no repr under way -/
structure RoomG (k:Nat) (A:Around):Prop where
  r:Room k A
  g:A.guards = some []
theorem RoomG.mono {j k:Nat} {A:Around} (x:RoomG k A) (h:j ≤ k):RoomG j A:=⟨x.r.mono h,x.g⟩
theorem RoomG.units {k:Nat} {A:Around} (x:RoomG k A):A.units + 64 < cLine:=x.r.units
theorem RoomG.un {k:Nat} {A:Around} (x:RoomG k A):A.units + 16 * k + 200 < cLine:=x.r.un
theorem RoomG.make {k:Nat} {A:Around} (x:RoomG (k + 1) A) (C:Addr) (us:List Value) (kw:List (Str × Value)):RoomG k (A.under (.builtin "type.__call__" ⟨.ref C :: us,kw⟩)):=⟨x.r.make C us kw,by
  have e:(Code.builtin "type.__call__" ⟨.ref C :: us,kw⟩).guards = []:=rfl
  simp [Around.under,e,pushGuards,x.g]⟩
theorem huG {k:Nat} {A:Around} (x:RoomG k A):A.units + 1 < cLine:=by have:=x.r.un; omega
/-- the promise -/
structure FnG (P:Program) (w:World) (K:PySem.W.Frag) (mg:Str → Option Value) (base:Heap) (CX:CXT) (k:Nat) (f:Addr) (fd:FuncData) (ps:List Str) (sp:Sp):Prop where
  len:∀ xs H Q E,sp xs H Q E → xs.length = ps.length
  go:∀ A outer s H args us xs Q E,RoomG k A → Env0 P w K mg base A outer s H → BindsTo s fd args (ps.zip us) → Vals xs us → sp xs H Q E → codeAny (model P w) A (.call (.ref f) args) (CR CX outer P w H s Q E) s
theorem FnOk.g {P:Program} {w:World} {K:PySem.W.Frag} {mg:Str → Option Value} {base:Heap} {CX:CXT} {k:Nat} {f:Addr} {fd:FuncData} {ps:List Str} {sp:Sp} (F:FnOk P w K mg base CX k f fd ps sp):FnG P w K mg base CX k f fd ps sp :=
  ⟨F.len,fun A outer s H args us xs Q E x e b v q=>F.run A outer s H args us xs Q E x.r e b v q⟩
/-- a def's rule -/
theorem fnG {P:Program} {w:World} {K:PySem.W.Frag} {mg:Str → Option Value} {base:Heap} {x qual:Str} {params:Arguments} {body:List Stmt} {scope:Scope} {dvs:List V} {kws:List (Str × V)} {f:Addr} {fd:FuncData} {CX:CXT} {N ps:List Str} {k:Nat} {sp:Sp} (D:FunD K x qual params body scope dvs kws f fd) (S:FnScope N ps scope) (ln:∀ xs H Q E,sp xs H Q E → xs.length = ps.length)
    (bd:∀ cdv A outer s H xs Q E,RoomG k (A.deeper (envOfC qual scope s.heap.objs.size f cdv)) → sp xs H Q E → ∃ t,PSs (cxOf CX P w K mg base N qual scope f cdv A outer s H E) body t ∧ t { nx:=fun _ G=>Q .non G,rt:=Q } (start N xs) H):FnG P w K mg base CX (k + 1) f fd ps sp:=by
  obtain ⟨oc,od,dV,kV,doc,pm,an,cdv,ct,osl,rfl,lk,hcd,_,_⟩:=D.ex
  refine ⟨ln,fun A outer s H args us xs Q E room at0 bnd rel want=>?_⟩
  have inK:K.In s.heap:=at0.mod.kin.keeps fun c u z=>(at0.bs c u z).1
  have noL:s.heap.NoLimit:=at0.mod.nolimit.keeps fun c u z=>(at0.bs c u z).1
  have kinds:∀ y ∈ ps.zip us,scope.names.lookup y.1 = some .local ∨ (scope.names.lookup y.1 = some .cell ∧ ((cellsFrom (s.heap.objs.size + 1) scope.names []).lookup y.1).isSome = true):=by
    rintro ⟨n,v⟩ hy
    rcases S.par n (List.of_mem_zip hy).1 with z | z
    · left; exact z
    · right; exact ⟨z,PySem.W.cellsFrom_some _ _ _ (.inl z)⟩
  refine codeAny_call_function room.r.depth (inK _ _ lk) rfl S.co S.gen rfl (PySem.W.codeRec_of inK hcd) (bnd _ _ _ _ (wpAny_newFunctionEnv_cells S.kind kinds fun env he s1 cal=>?_))
  subst he
  obtain ⟨t,pt,wt⟩:=bd cdv A outer s H xs Q E ⟨room.r.deeper _,room.g⟩ want
  have J:=inv_start (CX:=CX) (P:=P) (w:=w) (mg:=mg) (base:=base) (qual:=qual) (f:=f) (cd:=cdv) (E:=E) S room.r.hd at0 (ln _ _ _ _ want) rel cal
  refine ⟨noL.keeps cal.toInCall.keep,codeAny_func (wpAny_mono (pt.run [] s1 (start N xs) H _ J wt) (fun fl s' got=>?_) fun _ _ z=>z)⟩
  cases fl with
  | ret u=>obtain ⟨v,τ,G,J',rv,q⟩:=got; exact ⟨v,G,J'.os,J'.bare,J'.base,J'.hok,rv,q⟩
  | next=>obtain ⟨τ,G,J',q⟩:=got; exact ⟨.non,G,J'.os,J'.bare,J'.base,J'.hok,rfl,q⟩
  | brk=>obtain ⟨_,_,_,q⟩:=got; cases q
  | cont=>obtain ⟨_,_,_,q⟩:=got; cases q
section
variable {X:Cx} {CX:CXT} {k:Nat} {f C:Addr} {fd:FuncData} {ps:List Str} {sp:Sp} {E:L2.St → XK} {x m:Str} {p pos apos:Pos} {e o:Expr} {es:List Expr} {ta:TE} {t:TA}
theorem runG {pins:List (Addr × Obj)} {σ:L2.St} {H:Hp} {s:Shared} {Q:VK} {us:List Value} {xs:List V} (F:FnG X.prog X.w X.K X.mg X.base CX k f fd ps sp) (room:RoomG k X.A) (hb:Binds X.K fd ps []) (hx:PassesAt CX X σ (E σ)) (I:Inv X pins σ H s) (rel:Vals xs us) (want:sp xs H Q (E σ)) :
    wpAny (model X.prog X.w) X.A (call (.ref f) us) (EP X pins σ Q) X.xe s:=by
  have n:(us ++ []).length = ps.length:=by rw [List.append_nil,← rel.length]; exact F.len _ _ _ _ want
  have b0:=hb s us I.kIn n
  rw [List.append_nil] at b0
  refine wpAny_call (codeAny_mono (F.go X.A X.stack s H ⟨us,[]⟩ us xs Q (E σ) room I.env0 b0 rel want) fun res s2 got=>?_)
  match res,got with
  | .error u,got=>exact hx pins H s u s2 I got
  | .ok (.ret u),got=>exact I.after got
  | .ok .next,got=>exact got.elim
  | .ok .brk,got=>exact got.elim
  | .ok .cont,got=>exact got.elim
theorem pe_callG (F:FnG X.prog X.w X.K X.mg X.base CX k f fd ps sp) (room:RoomG k X.A) (hg:Gl X x) (hm:X.mg x = some (.ref f)) (hk:PySem.W.keepIn X.K (.ref f) = true) (hb:Binds X.K fd ps []) (hx:∀ σ,PassesAt CX X σ (E σ)) (ha:L2.PA X (e :: es) t) (hdb:(x == ("__debug__":Str)) = false:=by decide)
    (he:starEach (e :: es) X.env = (false,eval e X.env) :: starEach es X.env:=by rfl) (hpl:(backTo pos (starEach es X.env)).any (·.1) = false:=by rfl):PE X (.Call (.Name x p) (e :: es) [] pos) (tCallS sp E t):=⟨fun pins s σ H Q I h=>by
  refine wpAny_Call_Name_kw (ld_glob I hg hm (PySem.W.callWith_K (h₀:=X.base) I.ok.mod.kin hk (thn (ha.run pos pins s σ H _ I h) fun args s2 fin=>?_) he hpl) hdb)
  obtain ⟨xs,G,J,rel,want⟩:=fin
  exact ⟨J.kIn,runG F room hb (hx σ) J rel want⟩⟩
end
end Fs
namespace Fs
open PySem PySem.Spec PyProof.Rows L2
def ioF:List Bool → Sl → Sl
  | [],_=>[]
  | b :: bs,[]=>none :: ioF bs []
  | b :: bs,o :: δ=>(if b then o else none) :: ioF bs δ
def runF (N:Nat) (io:List Bool) (ds:DS):List D → Out D:=fun args=>if args.length = io.length then (match ds (args.map some ++ List.replicate (N - args.length) none) with
  | .ok .nx δ'=>.ok .non (ioF io δ')
  | .ok (.rt d) δ'=>.ok d (ioF io δ')
  | .ok .bk _=>.bad
  | .ok .ct _=>.bad
  | .exc c xs δ'=>.exc c xs (ioF io δ')
  | .bad=>.bad) else .bad
/-- the promise -/
def spF (cl:Ec) (xf:Nat → List Str) (np:Nat) (F:List D → Out D):Sp:=fun vs H Q E=>∃ A L B ds,Jt false cl A L B H [] [] (ds.map some) (vs.map some) ∧ vs.length = np ∧ match F ds with
  | .ok d ios=>∀ v A' H',Nx A B H A' H' → Jt false cl A' L B H' [d] [v] ios (vs.map some) → Q v H'
  | .exc c xs ios=>∀ dx us A' H',Nx A B H A' H' → XAt xf A' H' c us dx → Jt false cl A' L B H' xs us ios (vs.map some) → E (.ref (cl.c c)) dx H'
  | .bad=>False
section
variable {cl:Ec} {xf:Nat → List Str} {W:WX} {ws:Nat → Bool} {A A' L B:Addr → Prop} {H H':Hp} {δ δ':Sl} {σ σ':L2.St} {p q b:Bool} {te ta tb tc:TE} {tA:TA} {tt tu:TT} {t u:TS} {ts:List D} {vs:List V}
theorem Rpo.nones:∀ (n:Nat),Rpo cl A L H (List.replicate n none) (List.replicate n none) []
  | 0=>by simp [Rpo]
  | n + 1=>by rw [List.replicate_succ,List.replicate_succ]; simp only [Rpo]; exact ⟨none,_,rfl,Rpo.nones n⟩
theorem Rpo.append:∀ {δ δ2:Sl} {σ σ2:L2.St} {g g2:List Addr},Rpo cl A L H δ σ g → Rpo cl A L H δ2 σ2 g2 → Rpo cl A L H (δ ++ δ2) (σ ++ σ2) (g ++ g2)
  | [],δ2,σ,σ2,g,g2,h,h2=>by simp only [Rpo] at h; rw [h.1,h.2]; exact h2
  | none :: δ,δ2,σ,σ2,g,g2,h,h2=>by
    simp only [Rpo,List.cons_append] at h ⊢
    obtain ⟨x,σ',rfl,h3⟩:=h
    exact ⟨x,σ' ++ σ2,rfl,h3.append h2⟩
  | some d :: δ,δ2,σ,σ2,g,g2,h,h2=>by
    simp only [Rpo,List.cons_append] at h ⊢
    obtain ⟨v,σ',f1,f2,rfl,rfl,h3,h4⟩:=h
    exact ⟨v,σ' ++ σ2,f1,f2 ++ g2,rfl,by rw [List.append_assoc],h3,h4.append h2⟩
/-- at the end of a def: what the caller lent for changing -/
theorem Rpo.io:∀ {io:List Bool} {δ:Sl} {σ σ0:L2.St} {g:List Addr},Rpo cl A L H δ σ g → g.Nodup → io.length = σ0.length → io.length ≤ δ.length → (∀ (i:Nat),io[i]? = some true → σ[i]? = σ0[i]?) → ∃ g',Rpo cl A L H (ioF io δ) σ0 g' ∧ g'.Nodup ∧ ∀ a ∈ g',a ∈ g
  | [],δ,σ,σ0,g,h,nd,hl,_,_=>by
    have:σ0 = []:=List.length_eq_zero_iff.mp hl.symm
    subst this
    exact ⟨[],by simp [ioF,Rpo],List.nodup_nil,by simp⟩
  | b :: bs,[],σ,σ0,g,h,nd,hl,hl2,_=>by simp at hl2
  | b :: bs,o :: δ,σ,[],g,h,nd,hl,_,_=>by simp at hl
  | b :: bs,o :: δ,σ,x0 :: σ0,g,h,nd,hl,hl2,hs=>by
    simp only [List.length_cons,Nat.add_right_cancel_iff] at hl
    simp only [List.length_cons,Nat.add_le_add_iff_right] at hl2
    cases o with
    | none =>
      simp only [Rpo] at h
      obtain ⟨x,σ',rfl,h2⟩:=h
      obtain ⟨g',k1,k2,k3⟩:=Rpo.io (io:=bs) h2 nd hl hl2 (fun i hi=>by simpa using hs (i + 1) (by simpa using hi))
      exact ⟨g',by simp only [ioF,ite_self,Rpo]; exact ⟨x0,σ0,rfl,k1⟩,k2,k3⟩
    | some d =>
      simp only [Rpo] at h
      obtain ⟨v,σ',f1,f2,rfl,rfl,h3,h4⟩:=h
      have nd2:=List.nodup_append.mp nd
      obtain ⟨g',k1,k2,k3⟩:=Rpo.io (io:=bs) h4 nd2.2.1 hl hl2 (fun i hi=>by simpa using hs (i + 1) (by simpa using hi))
      cases b with
      | false=>exact ⟨g',by simp only [ioF,Bool.false_eq_true,if_false,Rpo]; exact ⟨x0,σ0,rfl,k1⟩,k2,fun a ha=>List.mem_append_right _ (k3 a ha)⟩
      | true =>
        have e0:some v = x0:=by simpa using hs 0 (by simp)
        subst e0
        refine ⟨f1 ++ g',by simp only [ioF,if_true,Rpo]; exact ⟨v,σ0,f1,g',rfl,rfl,h3,k1⟩,List.nodup_append.mpr ⟨nd2.1,k2,fun a ha c hc=>nd2.2.2 a ha c (k3 c hc)⟩,fun a ha=>?_⟩
        rcases List.mem_append.mp ha with ha | ha
        · exact List.mem_append_left _ ha
        · exact List.mem_append_right _ (k3 a ha)
theorem Jt.io {io:List Bool} {σ0:L2.St} (j:Jt false cl A L B H ts vs δ σ) (hl:io.length = σ0.length) (hl2:io.length ≤ δ.length) (hs:∀ (i:Nat),io[i]? = some true → σ[i]? = σ0[i]?):Jt false cl A L B H ts vs (ioF io δ) σ0:=by
  obtain ⟨f,g,h1,h2,h3,h4,h5⟩:=j.ex
  have nd:=List.nodup_append.mp h3
  obtain ⟨g',k1,k2,k3⟩:=h2.io nd.2.1 hl hl2 hs
  exact ⟨⟨f,g',h1,k1,List.nodup_append.mpr ⟨nd.1,k2,fun a ha c hc=>nd.2.2 a ha c (k3 c hc)⟩,h4,fun hp a ha=>h5 hp a (k3 a ha)⟩,j.lb,j.ba,j.ad,j.tb⟩
theorem Jt.slots (j:Jt p cl A L B H ts vs δ σ):δ.length = σ.length:=by
  obtain ⟨g,h2,_,_⟩:=j.drop0
  exact h2.length
/-- a block and what it makes of the state -/
def PRSs (cl:Ec) (xf:Nat → List Str) (X:Cx) (W:WX) (ws:Nat → Bool) (sts:List Stmt) (ds:DS):Prop:=∃ t,PSs X sts t ∧ SS cl xf W ws t ds
theorem fn_ok {P:Program} {w:World} {K:PySem.W.Frag} {mg:Str → Option Value} {base:Heap} {x qual:Str} {params:Arguments} {body:List Stmt} {scope:Scope} {dvs:List V} {kws:List (Str × V)} {f:Addr} {fd:FuncData} {N ps:List Str} {k:Nat} {ds:DS} {io:List Bool}
    (Fd:FunD K x qual params body scope dvs kws f fd) (S:FnScope N ps scope) (hp:ps.length = io.length) (hN:ps.length ≤ N.length) (hio:∀ (i:Nat),io[i]? = some true → ws i = false)
    (hb:∀ (cdv:Value) (A:Around) (outer:List Env) (s:Shared) (H:Hp) (E:XK),RoomG k (A.deeper (envOfC qual scope s.heap.objs.size f cdv)) →
      PRSs cl xf (cxOf (L2.CX P w) P w K mg base N qual scope f cdv A outer s H E) (fun c d _ H'=>E c d H') ws body ds) :
    FnG P w K mg base (L2.CX P w) (k + 1) f fd ps (spF cl xf io.length (runF N.length io ds)):=by
  refine fnG Fd S (fun vs H Q E h=>?_) (fun cdv A outer s H vs Q E hr h=>?_)
  · obtain ⟨_,_,_,_,_,h,_⟩:=h
    rw [h,hp]
  · obtain ⟨t,ht,hs⟩:=hb cdv A outer s H E hr
    refine ⟨t,ht,?_⟩
    obtain ⟨A0,L0,B0,args,j,hl,k0⟩:=h
    have hla:args.length = vs.length:=by have:=j.slots; simpa using this
    have j0:Jt false cl A0 L0 B0 H [] [] (args.map some ++ List.replicate (N.length - args.length) none) (L2.start N vs):=by
      obtain ⟨f,g,h1,h2,h3,h4,h5⟩:=j.ex
      refine ⟨⟨f,g ++ [],h1,?_,by simpa using h3,h4,by simpa using h5⟩,j.lb,j.ba,j.ad,j.tb⟩
      unfold L2.start
      rw [hla]
      exact h2.append (Rpo.nones _)
    refine hs A0 L0 B0 H _ _ _ j0 ?_
    unfold runF at k0
    rw [if_pos (by rw [hla,hl])] at k0
    have hlen0:(L2.start N vs).length = N.length:=by unfold L2.start; simp; omega
    have hio2:∀ σ':L2.St,Kp ws (L2.start N vs) σ' → ∀ (i:Nat),io[i]? = some true → σ'[i]? = (vs.map some)[i]?:=fun σ' kp i hi=>by
      have hi2:i < io.length:=(List.getElem?_eq_some_iff.mp hi).1
      rw [kp.2 i (hio i hi)]
      unfold L2.start
      rw [List.getElem?_append_left (by simp; omega)]
    revert k0
    cases e:ds (args.map some ++ List.replicate (N.length - args.length) none) with
    | bad=>exact id
    | exc c xs δ' =>
      intro k0 d us A' H' σ' n' kp x j'
      have hlσ:δ'.length = N.length:=by rw [j'.slots,kp.1,hlen0]
      exact k0 d us A' H' n' x (j'.io (by simp; omega) (by omega) (hio2 σ' kp))
    | ok fl δ' =>
      cases fl with
      | bk=>exact fun k0=>k0.elim
      | ct=>exact fun k0=>k0.elim
      | nx =>
        intro k0 A' H' σ' n' kp j'
        have hlσ:δ'.length = N.length:=by rw [j'.slots,kp.1,hlen0]
        exact k0 .non A' H' n' ((j'.io (by simp; omega) (by omega) (hio2 σ' kp)).leaf rfl)
      | rt d =>
        intro k0 v A' H' σ' n' kp j'
        have hlσ:δ'.length = N.length:=by rw [j'.slots,kp.1,hlen0]
        exact k0 v A' H' n' (j'.io (by simp; omega) (by omega) (hio2 σ' kp))
structure SC (cl:Ec) (xf:Nat → List Str) (W:WX) (ta:TA) (da:DA):Prop where
  pure:∀ δ,(da δ).same δ
  run:∀ A L H δ σ g (R:List V → Hp → Prop),Rpo cl A L H δ σ g → g.Nodup → (∀ a,L a → A a) → Ad cl A H → (match da δ with
    | .ok ds _=>∀ us A' H' f,Nx A A H A' H' → Rps cl A' (fun a=>L a ∨ a ∈ g) H' true ds us f → f.Nodup → (∀ a ∈ f,¬ A a) → Ad cl A' H' → R us H'
    | .exc c xs δ'=>PostX cl xf W true c xs δ' A L A H σ
    | .bad=>False) → ta σ H R
theorem sc_nil:SC cl xf W tNil daNil:=⟨fun δ=>rfl,fun A L H δ σ g R h nd la ad k=>k [] A H [] (Nx.refl fun _ h=>h) (by simp [Rps]) List.nodup_nil (by simp) ad⟩
theorem Jt.pure0 {g:List Addr} (h:Rpo cl A L H δ σ g) (nd:g.Nodup) (la:∀ a,L a → A a) (ad:Ad cl A H):Jt true cl A L A H [] [] δ σ:=⟨⟨[],g,by simp [Rps],h,by simpa using nd,by simp,by simp⟩,la,fun _ h=>h,ad.1,ad.2⟩
theorem sc_val {a:DE} {r:DA} (ha:SE cl xf W true te a) (hr:SC cl xf W tA r):SC cl xf W (tCons te tA) (daCons a r):=by
  refine ⟨fun δ=>Out.same_bind (ha.pure rfl δ) fun x=>Out.same_bind (hr.pure δ) fun xs=>rfl,fun A L H δ σ g R h nd la ad k=>?_⟩
  have j:=Jt.pure0 h nd la ad
  have hs:=ha.pure rfl δ
  unfold daCons at k
  refine ha.run A L A H δ σ _ j ?_
  cases e:a δ with
  | bad=>rw [e] at k; exact k.elim
  | exc c xs s=>rw [e] at k; exact k
  | ok x s =>
    rw [e] at k hs
    cases (show s = δ from hs)
    simp only [Out.bind] at k
    intro vs A1 H1 n1 j1 v ev
    subst ev
    obtain ⟨fx,g1,h1,h2,h3,h4,_⟩:=j1.ex
    simp only [Rps] at h1
    obtain ⟨v0,vs0,f1,f2,e0,rfl,h6,rfl,rfl⟩:=h1
    cases e0
    rw [List.append_nil] at h3 h4
    have gA:∀ a ∈ g,A a:=fun a ha=>(h.inA a ha).1
    have hg:=h.step (A':=A1) (L':=L) (H':=H1) n1.both (fun a ha=>n1.prot a (gA a ha)) (fun a hl=>⟨(n1.prot a (la a hl)).1,hl⟩)
    refine hr.run A1 L H1 δ σ g _ hg nd (fun a hl=>(n1.prot a (la a hl)).2) j1.adt ?_
    have hs2:=hr.pure δ
    cases e2:r δ with
    | bad=>rw [e2] at k; exact k.elim
    | exc c xs s =>
      rw [e2] at k hs2
      cases (show s = δ from hs2)
      intro d us A2 H2 n2 x2 j2
      exact k d us A2 H2 (n1.trans (n2.weak fun a ha=>(n1.prot a ha).2)) x2 (j.ofPure2 (n1.trans (n2.weak fun a ha=>(n1.prot a ha).2)) (j2.lower (fun a ha=>(n1.prot a ha).2) la))
    | ok xs s =>
      rw [e2] at k
      simp only [Out.bind] at k
      intro us A2 H2 f n2 r2 nf hf ad2
      have n3:Nx A A H A2 H2:=n1.trans (n2.weak fun a ha=>(n1.prot a ha).2)
      refine k (v :: us) A2 H2 (f1 ++ f) n3 ?_ ?_ ?_ ad2
      · simp only [Rps]
        refine ⟨v,us,f1,f,rfl,rfl,(h6.step n2.both (fun a ha=>n2.prot a (h6.inA a ha).1) (by simp)).weak,r2⟩
      · exact List.nodup_append.mpr ⟨(List.nodup_append.mp h3).1,nf,fun a ha c hc e=>by subst e; exact hf a hc (h6.inA a ha).1⟩
      · intro a ha
        rcases List.mem_append.mp ha with ha | ha
        · exact h4 a ha
        · exact fun q=>hf a ha (n1.prot a q).2
/-- a thing lent -/
def daLend (a:PP) (r:DA):DA:=fun δ=>match a δ with
  | some d=>(r δ).bind fun xs δ2=>.ok (lend d :: xs) δ2
  | none=>.bad
theorem Zla {a:PP} {r:DA} (ha:SP cl te a) (hr:SC cl xf W tA r):SC cl xf W (tCons te tA) (daLend a r):=by
  refine ⟨fun δ=>?_,fun A L H δ σ g R h nd la ad k=>?_⟩
  · unfold daLend
    split
    · exact Out.same_bind (hr.pure δ) fun xs=>rfl
    · trivial
  · unfold daLend at k
    cases e:a δ with
    | none=>rw [e] at k; exact k.elim
    | some d =>
      rw [e] at k
      simp only at k
      refine ha A L H δ σ g d _ h e fun v fp h1 n1=>?_
      refine hr.run A L H δ σ g _ h nd la ad ?_
      cases e2:r δ with
      | bad=>rw [e2] at k; exact k.elim
      | exc c xs s=>rw [e2] at k; exact k
      | ok xs s =>
        rw [e2] at k
        simp only [Out.bind] at k
        intro us A2 H2 f n2 r2 nf hf ad2
        refine k (v :: us) A2 H2 f n2 ?_ nf hf ad2
        simp only [Rps]
        have h2:=(h1.lend (L':=fun a=>L a ∨ a ∈ g) (fun a ha=>.inr (n1 a ha)) (fun a hl=>.inl hl))
        refine ⟨v,us,[],f,rfl,rfl,h2.step n2.both (by simp) (fun _ a hl=>⟨?_,hl⟩),r2⟩
        rcases hl with hl | hl
        · exact (n2.prot a (la a hl)).1
        · exact (n2.prot a (h.inA a hl).1).1
theorem Rps.rpo:∀ {ds:List D} {us:List V} {f:List Addr},Rps cl A L H true ds us f → Rpo cl A L H (ds.map some) (us.map some) f
  | [],us,f,h=>by simp only [Rps] at h; rw [h.1,h.2]; simp [Rpo]
  | d :: ds,us,f,h=>by
    simp only [Rps] at h
    obtain ⟨v,vs',f1,f2,rfl,rfl,h3,h4⟩:=h
    simp only [List.map_cons,Rpo]
    exact ⟨v,_,f1,f2,rfl,rfl,h3,Rps.rpo h4⟩
/-- a call of a promised def -/
def dCall (F:List D → Out D) (r:DA):DE:=fun δ=>(r δ).bind fun ds δ1=>match F ds with
  | .ok d _=>.ok d δ1
  | .exc c xs _=>.exc c xs δ1
  | .bad=>.bad
theorem Zi4 {r:DA} {F:List D → Out D} {np:Nat} {sp:Sp} (hsp:∀ vs H Q E,spF cl xf np F vs H Q E → sp vs H Q E) (hr:SC cl xf W tA r) (hn:∀ δ ds s,r δ = .ok ds s → ds.length = np):SE cl xf W true (tCallS sp (WE W) tA) (dCall F r):=by
  refine ⟨fun _ δ=>Out.same_bind (hr.pure δ) fun ds=>?_,fun A L B H δ σ Q j k=>?_⟩
  · split <;> first | rfl | trivial
  · obtain ⟨g,hg,nd,_⟩:=j.drop0
    refine hr.run A L H δ σ g _ hg nd (fun a h=>j.ba a (j.lb a h)) j.adt ?_
    unfold dCall at k
    have hs:=hr.pure δ
    cases e:r δ with
    | bad=>rw [e] at k; exact k.elim
    | exc c xs s =>
      rw [e] at k hs
      cases (show s = δ from hs)
      exact fun d us A2 H2 n2 x2 j2=>k d us A2 H2 (n2.weak j.ba) x2 (j.ofPure2 n2 j2)
    | ok ds s =>
      rw [e] at k hs
      cases (show s = δ from hs)
      simp only [Out.bind] at k
      intro us A1 H1 f n1 r1 nf hf ad1
      have gA:∀ a ∈ g,A a:=fun a ha=>(hg.inA a ha).1
      have LgA:∀ a,(L a ∨ a ∈ g) → A a:=fun a h=>h.elim (fun h=>j.ba a (j.lb a h)) (gA a)
      let Bc:Addr → Prop:=fun a=>A1 a ∧ a ∉ f
      have jc:Jt false cl A1 Bc Bc H1 [] [] (ds.map some) (us.map some):=by
        refine ⟨⟨[],f,by simp [Rps],(r1.step (L':=Bc) (fun a o h n _=>⟨h,n⟩) (fun a ha=>⟨rfl,(r1.inA a ha).1⟩) (fun _ a hl=>⟨rfl,(n1.prot a (LgA a hl)).2,fun q=>hf a q (LgA a hl)⟩)).rpo,by simpa using nf,by simp,fun _ a ha q=>q.2 ha⟩,fun _ h=>h,fun a h=>h.1,ad1.1,ad1.2⟩
      refine hsp _ _ _ _ ⟨A1,Bc,Bc,ds,jc,by rw [← r1.length]; exact hn δ ds δ e,?_⟩
      have fin:∀ (d:List D) (v:List V) A2 H2 δ2 σ2,Nx A1 Bc H1 A2 H2 → Jt false cl A2 Bc Bc H2 d v δ2 σ2 → Nx A B H A2 H2 ∧ Jt true cl A2 L B H2 d v δ σ:=by
        intro d v A2 H2 δ2 σ2 n2 j2
        have n3:Nx A A H A2 H2:=n1.trans (n2.weak fun a ha=>⟨(n1.prot a ha).2,fun q=>hf a q ha⟩)
        obtain ⟨f2,g2,k1,k2,k3,k4,k5⟩:=j2.ex
        refine ⟨n3.weak j.ba,j.ofPure2 n3 (δ2:=[]) (σ2:=[]) ⟨⟨f2,[],k1.step (L':=L) (fun a o h n _=>⟨h,n⟩) (fun a ha=>⟨rfl,(k1.inA a ha).1⟩) (by simp),by simp [Rpo],by simpa using (List.nodup_append.mp k3).1,fun a ha q=>k4 a ha ⟨(n1.prot a q).2,fun z=>hf a z q⟩,by simp⟩,fun a h=>j.ba a (j.lb a h),fun a h=>(n3.prot a h).2,j2.ad,j2.tb⟩⟩
      cases e2:F ds with
      | bad=>rw [e2] at k; exact k.elim
      | exc c xs ios =>
        rw [e2] at k
        intro dx ws A2 H2 n2 x2 j2
        obtain ⟨n3,j3⟩:=fin _ _ _ _ _ _ n2 j2
        exact k dx ws A2 H2 n3 x2 j3
      | ok d ios =>
        rw [e2] at k
        intro v A2 H2 n2 j2
        obtain ⟨n3,j3⟩:=fin _ _ _ _ _ _ n2 j2
        exact k [v] A2 H2 n3 j3 v rfl
theorem Zif {r:DA} {F:List D → Out D} {np:Nat} (hr:SC cl xf W tA r) (hn:∀ δ ds s,r δ = .ok ds s → ds.length = np):SE cl xf W true (tCallS (spF cl xf np F) (WE W) tA) (dCall F r):=Zi4 (fun _ _ _ _ h=>h) hr hn
end
end Fs
namespace Fs
open PySem PySem.Spec PyProof.Rows L2
/-- an argument: a value,a name that is lent,a name that is lent for changing -/
inductive AK | v (e:DE) | l (i:Nat) | o (i:Nat)
def dArgs:List AK → Sl → Out (List D)
  | [],δ=>.ok [] δ
  | .v e :: ks,δ=>(e δ).bind fun x δ1=>(dArgs ks δ1).bind fun xs δ2=>.ok (x :: xs) δ2
  | .l i :: ks,δ=>if (δ[i]?).join.isSome then dArgs ks δ else .bad
  | .o i :: ks,δ=>if (δ[i]?).join.isSome then dArgs ks δ else .bad
/-- the values in the arguments' order -/
def WV (σ:L2.St):List AK → List V → List V → Prop
  | [],tv,vs=>tv = [] ∧ vs = []
  | .v _ :: ks,tv,vs=>∃ t tv' vs',tv = t :: tv' ∧ vs = t :: vs' ∧ WV σ ks tv' vs'
  | .l i :: ks,tv,vs=>∃ v vs',σ[i]? = some (some v) ∧ vs = v :: vs' ∧ WV σ ks tv vs'
  | .o i :: ks,tv,vs=>∃ v vs',σ[i]? = some (some v) ∧ vs = v :: vs' ∧ WV σ ks tv vs'
def tk:List AK → List D → Sl → Option (List (Option D × Nat) × Sl)
  | [],[],δ=>some ([],δ)
  | .v _ :: ks,t :: ts,δ=>(tk ks ts δ).map fun r=>((some t,0) :: r.1,r.2)
  | .l i :: ks,ts,δ=>(tk ks ts δ).map fun r=>((none,i) :: r.1,r.2)
  | .o i :: ks,ts,δ=>((δ[i]?).join).bind fun d=>if d.free then (tk ks ts (δ.set i none)).map fun r=>((some d,0) :: r.1,r.2) else none
  | _,_,_=>none
def res (δ:Sl):List (Option D × Nat) → Option (List D)
  | []=>some []
  | (some d,_) :: r=>(res δ r).map fun ds=>d :: ds
  | (none,i) :: r=>((δ[i]?).join).bind fun d=>(res δ r).map fun ds=>lend d :: ds
def putB:List AK → Sl → Sl → Option Sl
  | [],[],δ=>some δ
  | .o i :: ks,some d :: ios,δ=>if d.free then putB ks ios (δ.set i (some d)) else none
  | _ :: ks,_ :: ios,δ=>putB ks ios δ
  | _,_,_=>none
section
variable {cl:Ec} {xf:Nat → List Str} {W:WX} {ws:Nat → Bool} {A A' L L' B:Addr → Prop} {H H':Hp} {δ δ':Sl} {σ σ':L2.St} {p q b:Bool} {te ta tb tc:TE} {tA:TA} {tt tu:TT} {t u:TS} {ts:List D} {vs:List V}
def SQ (cl:Ec) (xf:Nat → List Str) (W:WX) (ta:TA) (ks:List AK):Prop:=∀ A L B H δ σ R,Jt false cl A L B H [] [] δ σ → (match dArgs ks δ with
  | .ok ts δ1=>∀ tv vs A' H',Nx A B H A' H' → Jt false cl A' L B H' ts tv δ1 σ → WV σ ks tv vs → R vs H'
  | .exc c xs δ'=>PostX cl xf W false c xs δ' A L B H σ
  | .bad=>False) → ta σ H R
theorem sq_nil:SQ cl xf W tNil []:=fun A L B H δ σ R j k=>k [] [] A H (Nx.refl j.ba) j ⟨rfl,rfl⟩
theorem sq_val {a:DE} {ks:List AK} (ha:SE cl xf W false te a) (hr:SQ cl xf W tA ks):SQ cl xf W (tCons te tA) (.v a :: ks):=fun A L B H δ σ R j k=>by
  unfold dArgs at k
  refine ha.run A L B H δ σ _ j ?_
  cases e:a δ with
  | bad=>rw [e] at k; exact k.elim
  | exc c xs s=>rw [e] at k; exact k
  | ok x s =>
    rw [e] at k
    simp only [Out.bind] at k
    intro vs A1 H1 n1 j1 v ev
    subst ev
    obtain ⟨B',j2,hb,hj⟩:=j1.seq
    refine hr A1 L B' H1 s σ _ j2 ?_
    cases e2:dArgs ks s with
    | bad=>rw [e2] at k; exact k.elim
    | exc c xs s2=>rw [e2] at k; exact (PostX.step (show PostX cl xf W false c xs s2 A L B H σ from k) n1).under hb j1.lb
    | ok xs s2 =>
      rw [e2] at k
      simp only [Out.bind] at k
      intro tv us A2 H2 n2 j3 w
      exact k (v :: tv) (v :: us) A2 H2 (n1.trans (n2.weak hb)) (hj A2 H2 _ _ _ (by simp) n2 j3) ⟨v,tv,us,rfl,rfl,w⟩
theorem Zho {i:Nat} (j:Jt p cl A L B H ts vs δ σ) (h:(δ[i]?).join.isSome = true):∃ v,σ[i]? = some (some v):=by
  obtain ⟨d,e⟩:=Option.isSome_iff_exists.mp h
  obtain ⟨g,h2,_⟩:=j.drop0
  obtain ⟨v,f1,g1,_⟩:=h2.get (join_some e)
  exact ⟨v,g1⟩
theorem sq_l {i:Nat} {ks:List AK} (hr:SQ cl xf W tA ks):SQ cl xf W (tCons (tVar i) tA) (.l i :: ks):=fun A L B H δ σ R j k=>by
  unfold dArgs at k
  by_cases h:(δ[i]?).join.isSome = true
  · rw [if_pos h] at k
    obtain ⟨v,hv⟩:=Zho j h
    refine ⟨v,hv,hr A L B H δ σ _ j ?_⟩
    cases e2:dArgs ks δ with
    | bad=>rw [e2] at k; exact k.elim
    | exc c xs s2=>rw [e2] at k; exact k
    | ok xs s2 =>
      rw [e2] at k
      intro tv us A2 H2 n2 j3 w
      exact k tv (v :: us) A2 H2 n2 j3 ⟨v,us,hv,rfl,w⟩
  · rw [if_neg h] at k
    exact k.elim
theorem sq_o {i:Nat} {ks:List AK} (hr:SQ cl xf W tA ks):SQ cl xf W (tCons (tVar i) tA) (.o i :: ks):=fun A L B H δ σ R j k=>by
  unfold dArgs at k
  by_cases h:(δ[i]?).join.isSome = true
  · rw [if_pos h] at k
    obtain ⟨v,hv⟩:=Zho j h
    refine ⟨v,hv,hr A L B H δ σ _ j ?_⟩
    cases e2:dArgs ks δ with
    | bad=>rw [e2] at k; exact k.elim
    | exc c xs s2=>rw [e2] at k; exact k
    | ok xs s2 =>
      rw [e2] at k
      intro tv us A2 H2 n2 j3 w
      exact k tv (v :: us) A2 H2 n2 j3 ⟨v,us,hv,rfl,w⟩
  · rw [if_neg h] at k
    exact k.elim
/-- the things in hand,and places that are lent -/
def PA (cl:Ec) (A L:Addr → Prop) (H:Hp) (σ:L2.St):List (Option D × Nat) → List V → List Addr → Prop
  | [],vs,f=>vs = [] ∧ f = []
  | (some d,_) :: r,vs,f=>∃ v vs' f1 f2,vs = v :: vs' ∧ f = f1 ++ f2 ∧ Rp cl A L H false d v f1 ∧ PA cl A L H σ r vs' f2
  | (none,i) :: r,vs,f=>∃ v vs',vs = v :: vs' ∧ σ[i]? = some (some v) ∧ PA cl A L H σ r vs' f
theorem Zln {α:Type} {a b c:List α}:(a ++ (b ++ c)).Nodup → (b ++ (a ++ c)).Nodup:=fun h=>by
  have h1:=List.nodup_append.mp h
  have h2:=List.nodup_append.mp h1.2.1
  refine List.nodup_append.mpr ⟨h2.1,List.nodup_append.mpr ⟨h1.1,h2.2.1,fun x hx y hy=>h1.2.2 x hx y (List.mem_append_right _ hy)⟩,fun x hx y hy e=>?_⟩
  subst e
  rcases List.mem_append.mp hy with hy | hy
  · exact h1.2.2 x hy x (List.mem_append_left _ hx) rfl
  · exact h2.2.2 x hx x hy rfl
theorem tk_ok:∀ {ks:List AK} {ts:List D} {tv vs:List V} {δ δr:Sl} {f g:List Addr} {es:List (Option D × Nat)},Rps cl A L H false ts tv f → Rpo cl A L H δ σ g → (f ++ g).Nodup → WV σ ks tv vs → tk ks ts δ = some (es,δr) →
    ∃ f' gr,PA cl A L H σ es vs f' ∧ Rpo cl A L H δr σ gr ∧ (f' ++ gr).Nodup ∧ ∀ a ∈ f' ++ gr,a ∈ f ++ g
  | [],[],tv,vs,δ,δr,f,g,es,h1,h2,nd,w,e=>by
    simp only [tk,Option.some.injEq,Prod.mk.injEq] at e
    obtain ⟨rfl,rfl⟩:=e
    simp only [Rps] at h1
    simp only [WV] at w
    obtain ⟨_,rfl⟩:=h1
    exact ⟨[],g,by simp only [PA]; exact ⟨w.2,trivial⟩,h2,nd,fun a ha=>ha⟩
  | [],t :: ts,tv,vs,δ,δr,f,g,es,h1,h2,nd,w,e=>by simp [tk] at e
  | .v x :: ks,[],tv,vs,δ,δr,f,g,es,h1,h2,nd,w,e=>by simp [tk] at e
  | .v x :: ks,t :: ts,tv,vs,δ,δr,f,g,es,h1,h2,nd,w,e=>by
    simp only [tk] at e
    obtain ⟨⟨es',δr'⟩,e1,e2⟩:=Option.map_eq_some_iff.mp e
    simp only [Prod.mk.injEq] at e2
    obtain ⟨rfl,rfl⟩:=e2
    simp only [Rps] at h1
    obtain ⟨v,tv',f1,f2,rfl,rfl,h3,h4⟩:=h1
    simp only [WV] at w
    obtain ⟨t0,tv0,vs',e3,rfl,w⟩:=w
    cases e3
    rw [List.append_assoc] at nd
    have nd2:=List.nodup_append.mp nd
    obtain ⟨f',gr,k1,k2,k3,k4⟩:=tk_ok h4 h2 nd2.2.1 w e1
    refine ⟨f1 ++ f',gr,by simp only [PA]; exact ⟨v,vs',f1,f',rfl,rfl,h3,k1⟩,k2,?_,fun a ha=>?_⟩
    · rw [List.append_assoc]
      exact List.nodup_append.mpr ⟨nd2.1,k3,fun a ha c hc=>nd2.2.2 a ha c (k4 c hc)⟩
    · rw [List.append_assoc] at ha ⊢
      rcases List.mem_append.mp ha with ha | ha
      · exact List.mem_append_left _ ha
      · exact List.mem_append_right _ (k4 a ha)
  | .l i :: ks,ts,tv,vs,δ,δr,f,g,es,h1,h2,nd,w,e=>by
    simp only [tk] at e
    obtain ⟨⟨es',δr'⟩,e1,e2⟩:=Option.map_eq_some_iff.mp e
    simp only [Prod.mk.injEq] at e2
    obtain ⟨rfl,rfl⟩:=e2
    simp only [WV] at w
    obtain ⟨v,vs',e3,rfl,w⟩:=w
    obtain ⟨f',gr,k1,k2,k3,k4⟩:=tk_ok h1 h2 nd w e1
    exact ⟨f',gr,by simp only [PA]; exact ⟨v,vs',rfl,e3,k1⟩,k2,k3,k4⟩
  | .o i :: ks,ts,tv,vs,δ,δr,f,g,es,h1,h2,nd,w,e=>by
    simp only [tk] at e
    obtain ⟨d,e0,e⟩:=Option.bind_eq_some_iff.mp e
    split at e
    · rename_i hf
      obtain ⟨⟨es',δr'⟩,e1,e2⟩:=Option.map_eq_some_iff.mp e
      simp only [Prod.mk.injEq] at e2
      obtain ⟨rfl,rfl⟩:=e2
      simp only [WV] at w
      obtain ⟨v,vs',e3,rfl,w⟩:=w
      have nd1:=List.nodup_append.mp nd
      obtain ⟨v2,g1,g2,q1,q2,q3,q4,q5⟩:=h2.take (join_some e0) nd1.2.1
      rw [e3] at q1
      cases q1
      have q4':=List.nodup_append.mp q4
      have nd2:(f ++ g2).Nodup:=List.nodup_append.mpr ⟨nd1.1,q4'.2.1,fun a ha c hc=>nd1.2.2 a ha c ((q5 c).mp (List.mem_append_right _ hc))⟩
      obtain ⟨f',gr,k1,k2,k3,k4⟩:=tk_ok h1 q3 nd2 w e1
      refine ⟨g1 ++ f',gr,by simp only [PA]; exact ⟨v,vs',g1,f',rfl,rfl,q2.free hf,k1⟩,k2,?_,fun a ha=>?_⟩
      · rw [List.append_assoc]
        refine List.nodup_append.mpr ⟨q4'.1,k3,fun a ha c hc e=>?_⟩
        subst e
        rcases List.mem_append.mp (k4 a hc) with z | z
        · exact nd1.2.2 a z a ((q5 a).mp (List.mem_append_left _ ha)) rfl
        · exact q4'.2.2 a ha a z rfl
      · rw [List.append_assoc] at ha
        rcases List.mem_append.mp ha with ha | ha
        · exact List.mem_append_right _ ((q5 a).mp (List.mem_append_left _ ha))
        · rcases List.mem_append.mp (k4 a ha) with z | z
          · exact List.mem_append_left _ z
          · exact List.mem_append_right _ ((q5 a).mp (List.mem_append_right _ z))
    · cases e
theorem res_ok:∀ {es:List (Option D × Nat)} {vs:List V} {f gr:List Addr} {δr:Sl} {ds:List D},PA cl A L H σ es vs f → Rpo cl A L H δr σ gr → res δr es = some ds → Rps cl A (fun a=>L a ∨ a ∈ gr) H true ds vs f
  | [],vs,f,gr,δr,ds,h,h2,e=>by
    simp only [res,Option.some.injEq] at e
    subst e
    simp only [PA] at h
    simp only [Rps]
    exact h
  | (some d,n) :: es,vs,f,gr,δr,ds,h,h2,e=>by
    simp only [res] at e
    obtain ⟨ds',e1,rfl⟩:=Option.map_eq_some_iff.mp e
    simp only [PA] at h
    obtain ⟨v,vs',f1,f2,rfl,rfl,h3,h4⟩:=h
    simp only [Rps]
    exact ⟨v,vs',f1,f2,rfl,rfl,(h3.step (fun a o q n _=>⟨q,n⟩) (fun a ha=>⟨rfl,(h3.inA a ha).1⟩) (by simp)).weak,res_ok h4 h2 e1⟩
  | (none,i) :: es,vs,f,gr,δr,ds,h,h2,e=>by
    simp only [res] at e
    obtain ⟨d,e0,e⟩:=Option.bind_eq_some_iff.mp e
    obtain ⟨ds',e1,rfl⟩:=Option.map_eq_some_iff.mp e
    simp only [PA] at h
    obtain ⟨v,vs',rfl,e2,h4⟩:=h
    obtain ⟨v2,f1,g1,g2,g3⟩:=h2.get (join_some e0)
    rw [e2] at g1
    cases g1
    simp only [Rps]
    exact ⟨v,vs',[],f,rfl,rfl,g2.lend (fun a ha=>.inr (g3 a ha)) (fun a hl=>.inl hl),res_ok h4 h2 e1⟩
theorem ZfF:∀ {ks:List AK} {tv vs:List V} {ios δr δ2:Sl} {gi gr:List Addr},WV σ ks tv vs → Rpo cl A L' H ios (vs.map some) gi → Rpo cl A L H δr σ gr → (gi ++ gr).Nodup → putB ks ios δr = some δ2 → ∃ g2,Rpo cl A L H δ2 σ g2 ∧ g2.Nodup ∧ ∀ a ∈ g2,a ∈ gi ++ gr
  | [],tv,vs,[],δr,δ2,gi,gr,w,h1,h2,nd,e=>by
    simp only [putB,Option.some.injEq] at e
    subst e
    exact ⟨gr,h2,(List.nodup_append.mp nd).2.1,fun a ha=>List.mem_append_right _ ha⟩
  | [],tv,vs,_ :: _,δr,δ2,gi,gr,w,h1,h2,nd,e=>by simp [putB] at e
  | .v x :: ks,tv,vs,[],δr,δ2,gi,gr,w,h1,h2,nd,e=>by simp [putB] at e
  | .l i :: ks,tv,vs,[],δr,δ2,gi,gr,w,h1,h2,nd,e=>by simp [putB] at e
  | .o i :: ks,tv,vs,[],δr,δ2,gi,gr,w,h1,h2,nd,e=>by simp [putB] at e
  | .v x :: ks,tv,vs,o :: ios,δr,δ2,gi,gr,w,h1,h2,nd,e=>by
    simp only [putB] at e
    simp only [WV] at w
    obtain ⟨t0,tv0,vs',rfl,rfl,w⟩:=w
    obtain ⟨g',q1,q2⟩:∃ g',Rpo cl A L' H ios (vs'.map some) g' ∧ (g' ++ gr).Nodup ∧ ∀ a ∈ g',a ∈ gi:=by
      cases o with
      | none=>simp only [List.map_cons,Rpo] at h1; obtain ⟨x,σ',e,h⟩:=h1; cases e; exact ⟨gi,h,nd,fun a ha=>ha⟩
      | some d =>
        simp only [List.map_cons,Rpo] at h1
        obtain ⟨v,σ',f1,f2,e,rfl,h3,h4⟩:=h1
        cases e
        rw [List.append_assoc] at nd
        exact ⟨f2,h4,(List.nodup_append.mp nd).2.1,fun a ha=>List.mem_append_right _ ha⟩
    obtain ⟨g2,k1,k2,k3⟩:=ZfF w q1 h2 q2.1 e
    exact ⟨g2,k1,k2,fun a ha=>(List.mem_append.mp (k3 a ha)).elim (fun z=>List.mem_append_left _ (q2.2 a z)) (fun z=>List.mem_append_right _ z)⟩
  | .l i :: ks,tv,vs,o :: ios,δr,δ2,gi,gr,w,h1,h2,nd,e=>by
    simp only [putB] at e
    simp only [WV] at w
    obtain ⟨v0,vs',e0,rfl,w⟩:=w
    obtain ⟨g',q1,q2⟩:∃ g',Rpo cl A L' H ios (vs'.map some) g' ∧ (g' ++ gr).Nodup ∧ ∀ a ∈ g',a ∈ gi:=by
      cases o with
      | none=>simp only [List.map_cons,Rpo] at h1; obtain ⟨x,σ',e,h⟩:=h1; cases e; exact ⟨gi,h,nd,fun a ha=>ha⟩
      | some d =>
        simp only [List.map_cons,Rpo] at h1
        obtain ⟨v,σ',f1,f2,e,rfl,h3,h4⟩:=h1
        cases e
        rw [List.append_assoc] at nd
        exact ⟨f2,h4,(List.nodup_append.mp nd).2.1,fun a ha=>List.mem_append_right _ ha⟩
    obtain ⟨g2,k1,k2,k3⟩:=ZfF w q1 h2 q2.1 e
    exact ⟨g2,k1,k2,fun a ha=>(List.mem_append.mp (k3 a ha)).elim (fun z=>List.mem_append_left _ (q2.2 a z)) (fun z=>List.mem_append_right _ z)⟩
  | .o i :: ks,tv,vs,none :: ios,δr,δ2,gi,gr,w,h1,h2,nd,e=>by
    simp only [putB] at e
    simp only [WV] at w
    obtain ⟨v0,vs',e0,rfl,w⟩:=w
    simp only [List.map_cons,Rpo] at h1
    obtain ⟨x,σ',e3,h⟩:=h1
    cases e3
    exact ZfF w h h2 nd e
  | .o i :: ks,tv,vs,some d :: ios,δr,δ2,gi,gr,w,h1,h2,nd,e=>by
    simp only [putB] at e
    by_cases hfr:d.free = true
    case neg=>rw [if_neg hfr] at e; cases e
    rw [if_pos hfr] at e
    simp only [WV] at w
    obtain ⟨v0,vs',e0,rfl,w⟩:=w
    simp only [List.map_cons,Rpo] at h1
    obtain ⟨v,σ',f1,f2,e3,rfl,h3,h4⟩:=h1
    cases e3
    have h3f:=h3.free hfr
    replace h3:=(h3f.step (L':=L) (fun a o q n _=>⟨q,n⟩) (fun a ha=>⟨rfl,(h3f.inA a ha).1⟩) (by simp)).weak (b:=true)
    rw [List.append_assoc] at nd
    have nd1:=List.nodup_append.mp nd
    have nd2:=List.nodup_append.mp nd1.2.1
    have hlen:i < δr.length:=by rw [h2.length]; exact (List.getElem?_eq_some_iff.mp e0).1
    obtain ⟨g3,q1,q2,q3⟩:=h2.put hlen h3 (List.nodup_append.mpr ⟨nd1.1,nd2.2.1,fun a ha c hc=>nd1.2.2 a ha c (List.mem_append_right _ hc)⟩)
    rw [ZdS e0] at q1
    have nd3:(f2 ++ g3).Nodup:=List.nodup_append.mpr ⟨nd2.1,q2,fun a ha c hc e=>by
      subst e
      rcases List.mem_append.mp (q3 a hc) with z | z
      · exact nd1.2.2 a z a (List.mem_append_left _ ha) rfl
      · exact nd2.2.2 a ha a z rfl⟩
    obtain ⟨g2,k1,k2,k3⟩:=ZfF w h4 q1 nd3 e
    refine ⟨g2,k1,k2,fun a ha=>?_⟩
    rw [List.append_assoc]
    rcases List.mem_append.mp (k3 a ha) with z | z
    · exact List.mem_append_right _ (List.mem_append_left _ z)
    · rcases List.mem_append.mp (q3 a z) with z | z
      · exact List.mem_append_left _ z
      · exact List.mem_append_right _ (List.mem_append_right _ z)
def Zd (F:List D → Out D) (ks:List AK):DE:=fun δ=>(dArgs ks δ).bind fun ts δ1=>match tk ks ts δ1 with
  | none=>.bad
  | some r=>match res r.2 r.1 with
    | none=>.bad
    | some ds=>match F ds with
      | .ok d ios=>(match putB ks ios r.2 with | some δ2=>.ok d δ2 | none=>.bad)
      | .exc c xs ios=>(match putB ks ios r.2 with | some δ2=>.exc c xs δ2 | none=>.bad)
      | .bad=>.bad
theorem WV.len:∀ {ks:List AK} {tv vs:List V},WV σ ks tv vs → vs.length = ks.length
  | [],tv,vs,w=>by simp only [WV] at w; simp [w.2]
  | .v x :: ks,tv,vs,w=>by simp only [WV] at w; obtain ⟨_,_,vs',_,rfl,w⟩:=w; simp [WV.len w]
  | .l i :: ks,tv,vs,w=>by simp only [WV] at w; obtain ⟨_,vs',_,rfl,w⟩:=w; simp [WV.len w]
  | .o i :: ks,tv,vs,w=>by simp only [WV] at w; obtain ⟨_,vs',_,rfl,w⟩:=w; simp [WV.len w]
/-- a call that asks something of the state first -/
def dG (g:Sl → Bool) (e:DE):DE:=fun δ=>if g δ then e δ else .bad
def SQg (cl:Ec) (xf:Nat → List Str) (W:WX) (g:Sl → Bool) (ta:TA) (ks:List AK):Prop:=∀ A L B H δ σ R,g δ = true → Jt false cl A L B H [] [] δ σ → (match dArgs ks δ with
  | .ok ts δ1=>∀ tv vs A' H',Nx A B H A' H' → Jt false cl A' L B H' ts tv δ1 σ → WV σ ks tv vs → R vs H'
  | .exc c xs δ'=>PostX cl xf W false c xs δ' A L B H σ
  | .bad=>False) → ta σ H R
theorem Zkc {ks:List AK} {F:List D → Out D} {np:Nat} {g:Sl → Bool} {sp:Sp} (hsp:∀ vs H Q E,spF cl xf np F vs H Q E → sp vs H Q E) (hr:SQg cl xf W g tA ks) (hn:ks.length = np):SE cl xf W false (tCallS sp (WE W) tA) (dG g (Zd F ks)):=by
  refine ⟨fun z=>(by cases z),fun A L B H δ σ Q j k=>?_⟩
  unfold dG at k
  by_cases hgd:g δ = true
  case neg=>rw [if_neg hgd] at k; exact k.elim
  rw [if_pos hgd] at k
  refine hr A L B H δ σ _ hgd j ?_
  unfold Zd at k
  cases e:dArgs ks δ with
  | bad=>rw [e] at k; exact k.elim
  | exc c xs s=>rw [e] at k; exact k
  | ok ts s =>
    rw [e] at k
    simp only [Out.bind] at k
    intro tv vs A1 H1 n1 j1 w
    cases e1:tk ks ts s with
    | none=>rw [e1] at k; exact k.elim
    | some r =>
      obtain ⟨es,δr⟩:=r
      rw [e1] at k
      simp only at k
      cases e2:res δr es with
      | none=>rw [e2] at k; exact k.elim
      | some ds =>
        rw [e2] at k
        simp only at k
        obtain ⟨f0,g0,h1,h2,h3,h4,h5⟩:=j1.ex
        obtain ⟨f,gr,q1,q2,q3,q4⟩:=tk_ok h1 h2 h3 w e1
        have r1:=res_ok q1 q2 e2
        have nB:∀ a ∈ f ++ gr,¬ B a:=fun a ha=>(List.mem_append.mp (q4 a ha)).elim (h4 a) (h5 rfl a)
        have nd:=List.nodup_append.mp q3
        have grA:∀ a ∈ gr,A1 a:=fun a ha=>(q2.inA a ha).1
        let Bc:Addr → Prop:=fun a=>A1 a ∧ a ∉ f
        have grB:∀ a ∈ gr,Bc a:=fun a ha=>⟨grA a ha,fun z=>nd.2.2 a z a ha rfl⟩
        have bB:∀ a,B a → Bc a:=fun a h=>⟨j1.ba a h,fun z=>nB a (List.mem_append_left _ z) h⟩
        have jc:Jt false cl A1 Bc Bc H1 [] [] (ds.map some) (vs.map some):=by
          refine ⟨⟨[],f,by simp [Rps],(r1.step (L':=Bc) (fun a o h n _=>⟨h,n⟩) (fun a ha=>⟨rfl,(r1.inA a ha).1⟩) (fun _ a hl=>⟨rfl,hl.elim (fun h=>bB a (j1.lb a h)) (grB a)⟩)).rpo,by simpa using nd.1,by simp,fun _ a ha q=>q.2 ha⟩,fun _ h=>h,fun a h=>h.1,j1.ad,j1.tb⟩
        refine hsp _ _ _ _ ⟨A1,Bc,Bc,ds,jc,by rw [w.len,hn],?_⟩
        have fin:∀ (d:List D) (v:List V) A2 H2 ios δ2,Nx A1 Bc H1 A2 H2 → Jt false cl A2 Bc Bc H2 d v ios (vs.map some) → putB ks ios δr = some δ2 → Nx A B H A2 H2 ∧ Jt false cl A2 L B H2 d v δ2 σ:=by
          intro d v A2 H2 ios δ2 n2 j2 ep
          obtain ⟨f2,gi,k1,k2,k3,k4,k5⟩:=j2.ex
          have k3':=List.nodup_append.mp k3
          have hgr:=q2.step (A':=A2) (L':=L) (H':=H2) n2.both (fun a ha=>n2.prot a (grB a ha)) (fun a hl=>⟨(n2.prot a (bB a (j1.lb a hl))).1,hl⟩)
          have ndg:(gi ++ gr).Nodup:=List.nodup_append.mpr ⟨k3'.2.1,nd.2.1,fun a ha c hc e=>by subst e; exact k5 rfl a ha (grB a hc)⟩
          obtain ⟨g2,m1,m2,m3⟩:=ZfF w k2 hgr ndg ep
          refine ⟨n1.trans (n2.weak bB),⟨⟨f2,g2,k1.step (L':=L) (fun a o h n _=>⟨h,n⟩) (fun a ha=>⟨rfl,(k1.inA a ha).1⟩) (by simp),m1,List.nodup_append.mpr ⟨k3'.1,m2,fun a ha c hc e=>?_⟩,fun a ha q=>k4 a ha (bB a q),fun _ a ha q=>?_⟩,j1.lb,fun a h=>(n2.prot a (bB a h)).2,j2.ad,j2.tb⟩⟩
          · subst e
            rcases List.mem_append.mp (m3 a hc) with z | z
            · exact k3'.2.2 a ha a z rfl
            · exact k4 a ha (grB a z)
          · rcases List.mem_append.mp (m3 a ha) with z | z
            · exact k5 rfl a z (bB a q)
            · exact nB a (List.mem_append_right _ z) q
        cases e3:F ds with
        | bad=>rw [e3] at k; exact k.elim
        | exc c xs ios =>
          rw [e3] at k
          simp only at k
          intro dx us A2 H2 n2 x2 j2
          cases e4:putB ks ios δr with
          | none=>rw [e4] at k; exact k.elim
          | some δ2 =>
            rw [e4] at k
            obtain ⟨n3,j3⟩:=fin _ _ _ _ _ _ n2 j2 e4
            exact k dx us A2 H2 n3 x2 j3
        | ok d ios =>
          rw [e3] at k
          simp only at k
          intro v A2 H2 n2 j2
          cases e4:putB ks ios δr with
          | none=>rw [e4] at k; exact k.elim
          | some δ2 =>
            rw [e4] at k
            obtain ⟨n3,j3⟩:=fin _ _ _ _ _ _ n2 j2 e4
            exact k [v] A2 H2 n3 j3 v rfl
theorem Zk9 {ks:List AK} {F:List D → Out D} {np:Nat} (hr:SQ cl xf W tA ks) (hn:ks.length = np):SE cl xf W false (tCallS (spF cl xf np F) (WE W) tA) (Zd F ks):=by
  have h:=Zkc (g:=fun _=>true) (sp:=spF cl xf np F) (fun _ _ _ _ h=>h) (fun A L B H δ σ R _=>hr A L B H δ σ R) hn
  exact ⟨fun z=>(by cases z),fun A L B H δ σ Q j k=>h.run A L B H δ σ Q j k⟩
end
end Fs
namespace Fs
open PySem PySem.Spec PyProof.Rows L2
section
variable {cl:Ec} {xf:Nat → List Str} {W:WX} {ws:Nat → Bool} {A A' L B:Addr → Prop} {H H':Hp} {δ δ':Sl} {σ σ':L2.St} {p q b:Bool} {te ta tb tc:TE} {tA:TA} {tt tu:TT} {t u:TS} {ts:List D} {vs:List V}
def GOp (cl:Ec) (r:R2) (f:D → D → Option D):Prop:=∀ p A L B H ts ws δ σ x y u w f1 f2 z Q,Jt p cl A L B H ts ws δ σ → Rp cl A L H true x u f1 → Rp cl A L H true y w f2 → f x y = some z → (∀ v A' H',Nx A B H A' H' → Jt p cl A' L B H' [z] [v] δ σ → Q v H') → r u w H Q
def GUn (cl:Ec) (r:V → Hp → VK → Prop) (f:D → Option D):Prop:=∀ p A L B H ts ws δ σ x u f1 z Q,Jt p cl A L B H ts ws δ σ → Rp cl A L H true x u f1 → f x = some z → (∀ v A' H',Nx A B H A' H' → Jt p cl A' L B H' [z] [v] δ σ → Q v H') → r u H Q
theorem POp.g {r:R2} {f:D → D → Option D} (ho:POp cl r f):GOp cl r (fun x y=>(f x y).filter D.kept):=by
  intro p A L B H ts ws δ σ x y u w f1 f2 z Q j h1 h2 e k
  obtain ⟨e1,e2⟩:=Option.filter_eq_some_iff.mp e
  exact ho A L H x y u w f1 f2 z Q h1 h2 e1 fun v fp h7 _=>k v A H (Nx.refl j.ba) (j.kept e2 h7)
theorem POp.gs {r:R2} {f:D → D → Option D} (ho:POp cl r f) (hk:∀ x y z,f x y = some z → z.kept = true):GOp cl r f:=by
  intro p A L B H ts ws δ σ x y u w f1 f2 z Q j h1 h2 e k
  exact ho A L H x y u w f1 f2 z Q h1 h2 e fun v fp h7 _=>k v A H (Nx.refl j.ba) (j.kept (hk x y z e) h7)
theorem PUn.g {r:V → Hp → VK → Prop} {f:D → Option D} (ho:PUn cl r f) (hk:∀ x z,f x = some z → z.kept = true):GUn cl r f:=by
  intro p A L B H ts ws δ σ x u f1 z Q j h1 e k
  exact ho A L H x u f1 z Q h1 e fun v fp h7 _=>k v A H (Nx.refl j.ba) (j.kept (hk x z e) h7)
theorem GOp.r {r:R2} {f:D → D → Option D} (ho:GOp cl r f):ROp cl r f:=by
  intro p A L B H δ σ x y u w z Q j e k
  obtain ⟨u',w',f1,f2,e0,h1,h2⟩:=j.pair
  cases e0
  exact ho p A L B H _ _ δ σ x y u w f1 f2 z Q j h1.weak h2.weak e k
theorem GUn.r {r:V → Hp → VK → Prop} {f:D → Option D} (ho:GUn cl r f):RUn cl r f:=by
  intro p A L B H δ σ x u z Q j e k
  obtain ⟨u',f1,e0,h1⟩:=j.one
  cases e0
  exact ho p A L B H _ _ δ σ x u f1 z Q j h1.weak e k
def dPP (f:D → D → Option D) (a b:PP):DE:=fun δ=>Out.ofO ((a δ).bind fun x=>(b δ).bind fun y=>f x y) δ
def dP1 (f:D → Option D) (a:PP):DE:=fun δ=>Out.ofO ((a δ).bind f) δ
def dPD (f:D → D → Option D) (a:PP) (b:DE):DE:=fun δ=>match a δ with
  | some x=>(b δ).bind fun y δ2=>Out.ofO (f x y) δ2
  | none=>.bad
def dDP (f:D → D → Option D) (a:DE) (b:PP):DE:=fun δ=>(a δ).bind fun x δ1=>Out.ofO ((b δ1).bind fun y=>f x y) δ1
theorem se_1d {r:V → Hp → VK → Prop} {f:D → Option D} {a:DE} (ho:GUn cl r f) (ha:SE cl xf W p ta a):SE cl xf W p (tUn r ta) (d1 f a):=se_run ho.r ha
def rLenA (K:PySem.W.Frag):V → Hp → VK → Prop:=fun x H Q=>(∃ x' n,[x] = [x'] ∧ LenV K x' H n ∧ Q (.int n) H) ∨ ∃ a kvs,[x] = [V.ref a] ∧ L2.Rd H a (.dK kvs) ∧ Q (.int kvs.length) H
/-- len of a dict,locked or not -/
theorem Zl8 {X:Cx}:CallR X (.builtin "len") (fun xs H Q=>∃ a kvs,xs = [V.ref a] ∧ L2.Rd H a (.dK kvs) ∧ Q (.int kvs.length) H):=fun pins s σ H xs us Q J rv=>by
  rintro ⟨a,kvs,rfl,rd,q⟩
  obtain ⟨u,rfl,e⟩:=vals1 rv
  cases e
  exact d_len J rd fun t _ J2=>⟨V.int kvs.length,_,J2,⟨t,rfl⟩,q⟩
def lenD:D → Option D
  | .v (.str s)=>if s.length ≤ 100000 then some (.int s.length) else none
  | .n .lst _ xs=>some (.int xs.length)
  | .s ns=>some (.int ns.length)
  | .n .tup _ xs=>some (.int xs.length)
  | .n (.dct ks) _ xs=>some (.int xs.length)
  | _=>none
theorem ZlB:∀ x z,lenD x = some z → z.kept = true:=by
  intro x z e
  unfold lenD at e
  split at e
  · split at e
    · cases e; rfl
    · cases e
  all_goals (cases e; try rfl)
theorem pun_len:PUn cl (rLenA cl.K) lenD:=by
  intro A L H x u f1 z Q h1 e k
  unfold lenD at e
  split at e
  · rename_i s
    split at e
    · rename_i hl
      cases e
      obtain ⟨rfl,rfl,_⟩:=h1.leafv
      exact .inl ⟨_,s.length,rfl,⟨sz_of hl,rfl⟩,k _ [] (Rp.leaf rfl) (by simp)⟩
    · cases e
  · rename_i w xs
    cases e
    obtain ⟨a,o,vs,fp',rfl,ho,hs,hr,hf⟩:=h1.node
    cases hs
    exact .inl ⟨_,xs.length,rfl,.inl ⟨vs,SqL.of ho,hr.length⟩,k _ [] (Rp.leaf rfl) (by simp)⟩
  · rename_i ns
    cases e
    obtain ⟨a,rfl,hs,rfl,_⟩:=h1.scr
    exact .inl ⟨_,ns.length,rfl,.inl ⟨ns.map V.int,hs,by simp⟩,k _ [] (Rp.leaf rfl) (by simp)⟩
  · rename_i w xs
    cases e
    obtain ⟨a,o,vs,fp',rfl,ho,hs,hr,hf⟩:=h1.node
    cases hs
    exact .inl ⟨_,xs.length,rfl,.inr ⟨vs,SqT.of ho,hr.length⟩,k _ [] (Rp.leaf rfl) (by simp)⟩
  · rename_i ks w xs
    cases e
    obtain ⟨a,vs,fp',rfl,ho,hl,hr,hf⟩:=h1.nodeD
    have e1:(ks.zip vs).length = xs.length:=by rw [List.length_zip,hl,Nat.min_self,hr.length]
    exact .inr ⟨a,_,rfl,ho,by rw [e1]; exact k _ [] (Rp.leaf rfl) (by simp)⟩
  · cases e
def tyD:D → Option String
  | .v .non=>some "NoneType"
  | .v (.bl _)=>some "bool"
  | .v (.int _)=>some "int"
  | .v (.str _)=>some "str"
  | .n .lst _ _=>some "list"
  | .n .tup _ _=>some "tuple"
  | .n (.dct _) _ _=>some "dict"
  | _=>none
theorem Rp.ty {K:PySem.W.Frag} {x:D} {v:V} {fp:List Addr} {s:String} (h:Rp cl A L H true x v fp) (e:tyD x = some s):TyX K H v (.type s):=by
  unfold tyD at e
  split at e
  · obtain ⟨rfl,_,_⟩:=h.leafv; cases e; exact .base .non
  · obtain ⟨rfl,_,_⟩:=h.leafv; cases e; exact .base (.bl _)
  · obtain ⟨rfl,_,_⟩:=h.leafv; cases e; exact .base (.int _)
  · obtain ⟨rfl,_,_⟩:=h.leafv; cases e; exact .base (.str _)
  · obtain ⟨a,o,vs,fp',rfl,ho,hs,_⟩:=h.node; cases hs; cases e; exact .base (.lst ho)
  · obtain ⟨a,o,vs,fp',rfl,ho,hs,_⟩:=h.node; cases hs; cases e; exact .base (.tup ho)
  · obtain ⟨a,vs,fp',rfl,ho,_⟩:=h.nodeD
    cases e
    rcases ho with ho | ⟨ob,ho⟩
    · exact .base (.dK ho)
    · exact .fDict ho
  · cases e
/-- isinstance's answer for the built-in classes met here -/
def isTy (s c:String):Bool:=s == c || (s == "bool" && c == "int")
def isiD (c:String) (x:D):Option D:=(tyD x).map fun s=>.bl (isTy s c)
def Zh7:List String:=["NoneType","bool","int","str","list","tuple","dict"]
theorem ZkW {x:D} {s:String} (e:tyD x = some s):s ∈ Zh7:=by
  unfold tyD at e
  split at e <;> first | (cases e; decide) | cases e
theorem Zix:∀ c ∈ ["bool","int","str","list","tuple","dict"],∀ s ∈ Zh7,kitB s c = some (isTy s c):=by decide +kernel
theorem Zod {K:PySem.W.Frag} {c:String} (hc:c ∈ ["bool","int","str","list","tuple","dict"]):PUn cl (fun x H Q=>rIsi K [x,.ty c] H Q) (isiD c):=by
  intro A L H x u f1 z Q h1 e k
  unfold isiD at e
  obtain ⟨s,e1,rfl⟩:=Option.map_eq_some_iff.mp e
  exact ⟨u,.ty c,.type s,.type c,isTy s c,rfl,.ty c,h1.ty e1,kit_ty (Zix c hc s (ZkW e1)),k _ [] (Rp.leaf rfl) (by simp)⟩
theorem ZlO {c:String}:∀ x z,isiD c x = some z → z.kept = true:=by
  intro x z e
  unfold isiD at e
  obtain ⟨s,e1,rfl⟩:=Option.map_eq_some_iff.mp e
  rfl
abbrev maxD:=f2I fun i j=>some (.int (if j > i then j else i))
abbrev minD:=f2I fun i j=>some (.int (if j < i then j else i))
theorem pop_2 {g:Int → Int → V} {r:R2} (hr:∀ i j H Q,Q (g i j) H → r (.int i) (.int j) H Q) (hg:∀ i j,sc (g i j) = true):POp cl r (f2I fun i j=>some (g i j)):=by
  intro A L H x y u w f1 f2 z Q h1 h2 e k
  unfold f2I at e
  split at e
  · rename_i i j
    cases e
    obtain ⟨rfl,rfl,_⟩:=h1.leafv
    obtain ⟨rfl,rfl,_⟩:=h2.leafv
    exact hr i j H Q (k _ [] (Rp.leaf (hg i j)) (by simp))
  · cases e
def rIntA:V → Hp → VK → Prop:=fun x H Q=>((∃ i,[x] = [V.int i] ∧ Q (.int i) H) ∨ ∃ k,[x] = [V.bl k] ∧ Q (.int (if k then 1 else 0)) H) ∨ ∃ a n,[x] = [V.str a] ∧ PySem.intText? a = some n ∧ a.length ≤ 640 ∧ Q (.int n) H
def intD:D → Option D
  | .v (.int i)=>some (.int i)
  | .v (.bl k)=>some (.int (if k then 1 else 0))
  | .v (.str s)=>if s.length ≤ 640 then (PySem.intText? s).map fun n=>D.int n else none
  | _=>none
theorem pun_int:PUn cl rIntA intD:=by
  intro A L H x u f1 z Q h1 e k
  unfold intD at e
  split at e
  · cases e; obtain ⟨rfl,rfl,_⟩:=h1.leafv; exact .inl (.inl ⟨_,rfl,k _ [] (Rp.leaf rfl) (by simp)⟩)
  · cases e; obtain ⟨rfl,rfl,_⟩:=h1.leafv; exact .inl (.inr ⟨_,rfl,k _ [] (Rp.leaf rfl) (by simp)⟩)
  · split at e
    · rename_i hl
      obtain ⟨n,e1,rfl⟩:=Option.map_eq_some_iff.mp e
      obtain ⟨rfl,rfl,_⟩:=h1.leafv
      exact .inr ⟨_,n,rfl,e1,hl,k _ [] (Rp.leaf rfl) (by simp)⟩
    · cases e
  · cases e
theorem ZlS:∀ x z,intD x = some z → z.kept = true:=by
  intro x z e
  unfold intD at e
  split at e
  · cases e; rfl
  · cases e; rfl
  · split at e
    · obtain ⟨n,_,rfl⟩:=Option.map_eq_some_iff.mp e; rfl
    · cases e
  · cases e
def allB:List D → Option Bool
  | []=>some true
  | .v (.bl b) :: ds=>(allB ds).map fun c=>b && c
  | _=>none
theorem Zmg:∀ {ds:List D} {vs:List V} {fp:List Addr} {c:Bool},Rps cl A L H true ds vs fp → allB ds = some c → ∃ bs:List Bool,vs = bs.map V.bl ∧ c = bs.all id
  | [],vs,fp,c,h,e=>by
    simp only [Rps] at h
    simp only [allB,Option.some.injEq] at e
    exact ⟨[],by simp [h.1],by simp [← e]⟩
  | .v (.bl x) :: ds,vs,fp,c,h,e=>by
    simp only [Rps] at h
    obtain ⟨v,vs',f1,f2,rfl,rfl,h3,h4⟩:=h
    simp only [allB] at e
    obtain ⟨c',e1,rfl⟩:=Option.map_eq_some_iff.mp e
    obtain ⟨bs,rfl,rfl⟩:=Zmg h4 e1
    obtain ⟨rfl,_,_⟩:=h3.leafv
    exact ⟨x :: bs,by simp,by simp⟩
  | .v .non :: ds,vs,fp,c,h,e=>by simp [allB] at e
  | .v (.int _) :: ds,vs,fp,c,h,e=>by simp [allB] at e
  | .v (.str _) :: ds,vs,fp,c,h,e=>by simp [allB] at e
  | .v (.byt _) :: ds,vs,fp,c,h,e=>by simp [allB] at e
  | .v (.flt _) :: ds,vs,fp,c,h,e=>by simp [allB] at e
  | .v (.ref _) :: ds,vs,fp,c,h,e=>by simp [allB] at e
  | .v (.ty _) :: ds,vs,fp,c,h,e=>by simp [allB] at e
  | .s _ :: ds,vs,fp,c,h,e=>by simp [allB] at e
  | .n _ _ _ :: ds,vs,fp,c,h,e=>by simp [allB] at e
def allD:D → Option D | .n .lst _ xs=>(allB xs).map fun c=>.bl c | _=>none
theorem pun_all {K:PySem.W.Frag}:PUn cl (fun x H Q=>rAll K [x] H Q) allD:=by
  intro A L H x u f1 z Q h1 e k
  unfold allD at e
  split at e
  · obtain ⟨c,e1,rfl⟩:=Option.map_eq_some_iff.mp e
    obtain ⟨a,o,vs,fp',rfl,ho,hs,hr,hf⟩:=h1.node
    cases hs
    obtain ⟨bs,rfl,rfl⟩:=Zmg hr e1
    exact ⟨a,bs,rfl,SqL.of ho,k _ [] (Rp.leaf rfl) (by simp)⟩
  · cases e
theorem Zmf:∀ x z,allD x = some z → z.kept = true:=by
  intro x z e
  unfold allD at e
  split at e
  · obtain ⟨c,_,rfl⟩:=Option.map_eq_some_iff.mp e; rfl
  · cases e
def txts:List D → Option (List Str)
  | []=>some []
  | .v (.str s) :: ds=>(txts ds).map fun r=>s :: r
  | _=>none
theorem ZkY:∀ {ds:List D} {vs:List V} {fp:List Addr} {ss:List Str},Rps cl A L H true ds vs fp → txts ds = some ss → vs = ss.map V.str
  | [],vs,fp,ss,h,e=>by
    simp only [Rps] at h
    simp only [txts,Option.some.injEq] at e
    simp [h.1,← e]
  | .v (.str x) :: ds,vs,fp,c,h,e=>by
    simp only [Rps] at h
    obtain ⟨v,vs',f1,f2,rfl,rfl,h3,h4⟩:=h
    simp only [txts] at e
    obtain ⟨c',e1,rfl⟩:=Option.map_eq_some_iff.mp e
    obtain ⟨rfl,_,_⟩:=h3.leafv
    rw [ZkY h4 e1]
    rfl
  | .v .non :: ds,vs,fp,c,h,e=>by simp [txts] at e
  | .v (.int _) :: ds,vs,fp,c,h,e=>by simp [txts] at e
  | .v (.bl _) :: ds,vs,fp,c,h,e=>by simp [txts] at e
  | .v (.byt _) :: ds,vs,fp,c,h,e=>by simp [txts] at e
  | .v (.flt _) :: ds,vs,fp,c,h,e=>by simp [txts] at e
  | .v (.ref _) :: ds,vs,fp,c,h,e=>by simp [txts] at e
  | .v (.ty _) :: ds,vs,fp,c,h,e=>by simp [txts] at e
  | .s _ :: ds,vs,fp,c,h,e=>by simp [txts] at e
  | .n _ _ _ :: ds,vs,fp,c,h,e=>by simp [txts] at e
def joinD (a:Str):D → Option D
  | .n .lst _ xs=>(txts xs).bind fun ss=>if (ss.map (·.length)).sum + ss.length * a.length ≤ 100000 then some (.str (Txt.join a ss)) else none
  | _=>none
theorem pun_join {K:PySem.W.Frag} {a:Str}:PUn cl (fun y H Q=>∃ a' p,∃ ys:List Str,V.str a = .str a' ∧ [y] = [V.ref p] ∧ (SqL K H p (ys.map V.str) ∨ SqT K H p (ys.map V.str)) ∧ (ys.map (·.length)).sum + ys.length * a'.length ≤ 16777216 ∧ Q (.str (Txt.join a' ys)) H) (joinD a):=by
  intro A L H x u f1 z Q h1 e k
  unfold joinD at e
  split at e
  · obtain ⟨ss,e1,e⟩:=Option.bind_eq_some_iff.mp e
    split at e
    · rename_i hl
      cases e
      obtain ⟨p,o,vs,fp',rfl,ho,hs,hr,hf⟩:=h1.node
      cases hs
      have:=ZkY hr e1
      subst this
      exact ⟨a,p,ss,rfl,rfl,.inl (SqL.of ho),Nat.le_trans hl (by decide),k _ [] (Rp.leaf rfl) (by simp)⟩
    · cases e
  · cases e
theorem Zkn {a:Str}:∀ x z,joinD a x = some z → z.kept = true:=by
  intro x z e
  unfold joinD at e
  split at e
  · obtain ⟨ss,_,e⟩:=Option.bind_eq_some_iff.mp e
    split at e
    · cases e; rfl
    · cases e
  · cases e
theorem ZlP:∀ x z,isND x = some z → z.kept = true:=by
  intro x z e; unfold isND at e; split at e <;> (cases e; rfl)
theorem Zki:∀ x z,notND x = some z → z.kept = true:=by
  intro x z e
  unfold notND isND at e
  split at e <;> (simp [notD] at e; subst e; rfl)
end
end Fs
namespace Fs
open PySem PySem.Spec PyProof.Rows L2
section
variable {cl:Ec} {xf:Nat → List Str} {W:WX} {ws:Nat → Bool} {A A' L B:Addr → Prop} {H H':Hp} {δ δ':Sl} {σ σ':L2.St} {p q b:Bool} {te ta tb tc:TE} {tA:TA} {tt tu:TT} {t u:TS} {ts:List D} {vs:List V}
theorem ZlJ {K:PySem.W.Frag} {a:Addr} {us:List V} {ds:List D} {fp:List Addr} (lb:∀ a,L a → B a) (hst:∀ A1 H1,Nx A B H A1 H1 → SqL K H1 a us) (hr:Rps cl A L H b ds us fp) (hk:ds.all D.kept = true):ItOk cl L B (Itl K a) ds A H:=by
  intro A1 H1 n1
  have hs:=hst A1 H1 n1
  have hl:=hr.length
  refine ⟨fun i hi=>⟨us,us[i]'(by omega),hs,List.getElem?_eq_getElem (by omega)⟩,fun i hi=>⟨us,hs,by omega⟩,fun i x H2 d e hy p B1 δ σ hb j=>?_⟩
  obtain ⟨rfl,hy⟩:=hy
  obtain ⟨v,f1,g1,g2,_⟩:=(hr.keptS hk).get e
  rw [hy us hs] at g1
  cases g1
  have hkd:d.kept = true:=List.all_eq_true.mp hk d (List.mem_of_getElem? e)
  have g3:=(g2.strong hkd)
  obtain ⟨g3,rfl⟩:=g3
  exact ⟨A1,Nx.refl j.ba,j.kept hkd (g3.step (L':=L) n1.both (by simp) (by simp))⟩
theorem it_tup {K:PySem.W.Frag} {a:Addr} {us:List V} {ds:List D} {fp:List Addr} (lb:∀ a,L a → B a) (hst:∀ A1 H1,Nx A B H A1 H1 → SqT K H1 a us) (hr:Rps cl A L H b ds us fp) (hk:ds.all D.kept = true):ItOk cl L B (Itt K a) ds A H:=by
  intro A1 H1 n1
  have hs:=hst A1 H1 n1
  have hl:=hr.length
  refine ⟨fun i hi=>⟨us,us[i]'(by omega),hs,List.getElem?_eq_getElem (by omega)⟩,fun i hi=>⟨us,hs,by omega⟩,fun i x H2 d e hy p B1 δ σ hb j=>?_⟩
  obtain ⟨rfl,hy⟩:=hy
  obtain ⟨v,f1,g1,g2,_⟩:=(hr.keptS hk).get e
  rw [hy us hs] at g1
  cases g1
  have hkd:d.kept = true:=List.all_eq_true.mp hk d (List.mem_of_getElem? e)
  have g3:=(g2.strong hkd)
  obtain ⟨g3,rfl⟩:=g3
  exact ⟨A1,Nx.refl j.ba,j.kept hkd (g3.step (L':=L) n1.both (by simp) (by simp))⟩
theorem Rps.ints:∀ {ns:List Int},Rps cl A L H b (ns.map D.int) (ns.map V.int) []
  | []=>by simp [Rps]
  | n :: ns=>by simp only [List.map_cons,Rps]; exact ⟨_,_,[],[],rfl,rfl,Rp.leaf rfl,Rps.ints⟩
theorem it_scr {a:Addr} {ns:List Int} (h:(∃ ob,H a = some (.frz ob (.lst (ns.map V.int))) ∧ ¬ A a) ∨ cl.Wr a (ns.map V.int)) (lb:∀ a,L a → B a:=by assumption):ItOk cl L B (Itl cl.K a) (ns.map D.int) A H:=by
  refine ZlJ lb (fun A1 H1 n=>?_) (Rps.ints (b:=true)) (by simp [List.all_eq_true,D.kept])
  rcases h with ⟨ob,h1,h2⟩ | h
  · exact .inl (.inr ⟨ob,n.keep a _ h1 h2 NT.frz⟩)
  · exact .inr h
def diP (f:D → Option (List D)) (a:PP):DA:=fun δ=>Out.ofO ((a δ).bind f) δ
/-- a node that stands as long as B does -/
theorem Rp.stands {k:Kd} {w:Fl} {ds:List D} {v:V} {fp:List Addr} (lb:∀ a,L a → B a) (hw:w = .own → ∀ a ∈ fp,B a) (h:Rp cl A L H true (.n k w ds) v fp) (hk:∀ ks,k ≠ .dct ks:=by intro _ z; cases z):∃ a o us fp',v = .ref a ∧ Shape cl k a us o ∧ (∀ A1 H1,Nx A B H A1 H1 → H1 a = some o) ∧ Rps cl A L H true ds us fp':=by
  have sh:∀ {a us o},Shp cl w k a us o → Shape cl k a us o:=fun h=>by
    rcases h with ⟨h,_⟩ | ⟨_,ks,_,e,_⟩
    · exact h
    · exact absurd e (hk ks)
  cases w with
  | shr =>
    simp only [Rp] at h
    obtain ⟨a,o,vs,h1,h2,h3,h4,h5,h6⟩:=h
    exact ⟨a,o,vs,[],h1,sh h3,fun A1 H1 n=>n.keep a o h2 h4 h3.nt,h6.weak⟩
  | own =>
    simp only [Rp] at h
    obtain ⟨a,o,vs,h1,h2,h3,h4,fp',h5,h6⟩:=h
    exact ⟨a,o,vs,fp',h1,sh h3,fun A1 H1 n=>(n.prot a (hw rfl a (by rw [h5]; exact List.mem_cons_self))).1.trans h2,h6.weak⟩
  | bor =>
    simp only [Rp] at h
    obtain ⟨a,o,vs,h1,h2,h3,h4,h5,h6,h7⟩:=h
    exact ⟨a,o,vs,[],h1,sh h3,fun A1 H1 n=>(n.prot a (lb a h5)).1.trans h2,h7⟩
/-- range(n) -/
def itR:D → Option (List D)
  | .v (.int n)=>if n.natAbs < 2 ^ 62 then some ((List.range n.toNat).map fun (k:Nat)=>D.int (k:Int)) else none
  | _=>none
def diD (f:D → Option (List D)) (a:DE):DA:=fun δ=>(a δ).bind fun d δ1=>Out.ofO (f d) δ1
theorem Zes {lo:Int} {n:Nat}:ItOk cl L B (Itr lo n) ((List.range n).map fun (k:Nat)=>D.int (lo + (k:Int))) A H:=by
  intro A1 H1 n1
  refine ⟨fun i hi=>by simpa [Itr] using hi,fun i hi=>by simpa [Itr] using hi,fun i x H2 d e hy p B1 δ σ hb j=>?_⟩
  obtain ⟨rfl,rfl⟩:=hy
  have ed:d = D.int (lo + (i:Int)):=by
    rw [List.getElem?_map] at e
    obtain ⟨k,hk,rfl⟩:=Option.map_eq_some_iff.mp e
    obtain ⟨_,hk⟩:=List.getElem?_eq_some_iff.mp hk
    rw [List.getElem_range] at hk
    rw [hk]
  subst ed
  exact ⟨A1,Nx.refl j.ba,j.leaf rfl⟩
theorem Zk7 {a:DE} (ha:SE cl xf W p ta a):SI cl xf W p (iRng1 (tCons ta tNil)) (diD itR a):=by
  refine ⟨fun hp δ=>Out.same_bind (ha.pure hp δ) fun x=>Out.same_ofO,fun A L B H δ σ R j k=>?_⟩
  unfold diD at k
  refine ha.run A L B H δ σ _ j ?_
  cases e:a δ with
  | bad=>rw [e] at k; exact k
  | exc c xs s=>rw [e] at k; exact k
  | ok d s =>
    rw [e] at k
    simp only [Out.bind] at k
    intro us A1 H1 n1 j1 v ev
    subst ev
    cases e2:itR d with
    | none=>rw [e2] at k; exact k.elim
    | some its =>
      rw [e2] at k
      unfold itR at e2
      split at e2
      · rename_i n
        split at e2
        · rename_i hn
          cases e2
          obtain ⟨v',f1,e0,h1⟩:=j1.one
          cases e0
          obtain ⟨rfl,_,_⟩:=h1.leafv
          refine ⟨n,rfl,by omega,by omega,k _ A1 H1 B n1 (fun _ h=>h) j1.drop ?_⟩
          have h:=Zes (cl:=cl) (L:=L) (B:=B) (A:=A1) (H:=H1) (lo:=0) (n:=n.toNat)
          simpa using h
        · cases e2
      · cases e2
/-- append to a name's list -/
def dApp (i:Nat) (a:DE):DE:=fun δ=>match (δ[i]?).join with
  | some (.n .lst _ _)=>(a δ).bind fun y δ1=>(match (δ1[i]?).join with
    | some (.n .lst .own xs)=>if xs.length < 100000 then .ok .non (δ1.set i (some (.n .lst .own (xs ++ [frz y])))) else .bad
    | _=>.bad)
  | _=>.bad
theorem Jt.take {i:Nat} {d:D} (j:Jt false cl A L B H ts vs δ σ) (e:(δ[i]?).join = some d) (hf:d.free = true):∃ v,σ[i]? = some (some v) ∧ Jt false cl A L B H (d :: ts) (v :: vs) (δ.set i none) σ:=by
  obtain ⟨f,g,h1,h2,h3,h4,h5⟩:=j.ex
  have nd:=List.nodup_append.mp h3
  obtain ⟨v,f1,f2,k1,k2,k3,k4,k5⟩:=h2.take (join_some e) nd.2.1
  have k4':=List.nodup_append.mp k4
  refine ⟨v,k1,⟨⟨f1 ++ f,f2,by simp only [Rps]; exact ⟨v,vs,f1,f,rfl,rfl,k2.free hf,h1⟩,k3,?_,fun a ha=>?_,fun _ a ha=>h5 rfl a ((k5 a).mp (List.mem_append_right _ ha))⟩,j.lb,j.ba,j.ad,j.tb⟩⟩
  · rw [List.append_assoc]
    refine Zln (List.nodup_append.mpr ⟨nd.1,k4,fun a ha c hc=>nd.2.2 a ha c ((k5 c).mp hc)⟩)
  · rcases List.mem_append.mp ha with ha | ha
    · exact h5 rfl a ((k5 a).mp (List.mem_append_left _ ha))
    · exact h4 a ha
theorem se_app {K:PySem.W.Frag} {i:Nat} {a:DE} (ha:SE cl xf W false ta a):SE cl xf W false (tBM K "list" rAppend (tVar i) (tCons ta tNil)) (dApp i a):=by
  refine ⟨fun z=>(by cases z),fun A L B H δ σ Q j k=>?_⟩
  unfold dApp at k
  split at k
  · rename_i w0 xs0 e0
    obtain ⟨g,hg,_,_⟩:=j.drop0
    obtain ⟨v0,f0,q1,q2,_⟩:=hg.get (join_some e0)
    obtain ⟨a0,o0,us0,fp0,rfl,ho0,hs0,_⟩:=q2.node
    cases hs0
    refine ⟨_,q1,.inl ⟨rfl,_,SqL.of ho0⟩,ha.run A L B H δ σ _ j (Post.bind (γ:=D) k fun y δ1 vs A1 H1 e1 n1 j1 k1 w ev=>?_)⟩
    subst ev
    split at k1
    · rename_i xs e2
      split at k1
      · rename_i hl
        obtain ⟨v,hv,j2⟩:=j1.take e2 rfl
        rw [q1] at hv
        cases hv
        obtain ⟨D0,us,A2,ev,hD,hlen,n2,j3⟩:=j2.push
        cases ev
        have j4:=j3.put (i:=i)
        rw [ZdS q1,List.set_set] at j4
        exact ⟨a0,us,w,rfl,rfl,hD,by rw [hlen]; exact sz_lt hl,k1 _ A2 _ (n1.trans n2) (j4.leaf rfl) _ rfl⟩
      · exact k1.elim
    · exact k1.elim
  · exact k.elim
/-- x[k] = e,x a name's list -/
def dsSetL (i:Nat) (ix:DE) (e:DE):DS:=fun δ=>(e δ).bind fun y δ1=>if (δ1[i]?).join.isSome then (ix δ1).bind fun k δ2=>(match (δ2[i]?).join,k with
  | some (.n .lst .own xs),.v (.int n)=>(match ixN xs.length n with | some m=>.ok .nx (δ2.set i (some (.n .lst .own (xs.set m (frz y))))) | none=>.bad)
  | _,_=>.bad) else .bad
theorem Rps.set:∀ {ds:List D} {us:List V} {f:List Addr} {m:Nat} {d:D} {v:V},Rps cl A L H false ds us f → Rp cl A L H false d v [] → f.Nodup → ∃ f',Rps cl A L H false (ds.set m d) (us.set m v) f' ∧ f'.Nodup ∧ ∀ a ∈ f',a ∈ f
  | [],us,f,m,d,v,h,hd,nd=>by simp only [Rps] at h; rw [h.1,h.2]; exact ⟨[],by simp [Rps],List.nodup_nil,by simp⟩
  | d0 :: ds,us,f,m,d,v,h,hd,nd=>by
    simp only [Rps] at h
    obtain ⟨v0,us',f1,f2,rfl,rfl,h3,h4⟩:=h
    have nd':=List.nodup_append.mp nd
    cases m with
    | zero=>exact ⟨f2,by simp only [List.set_cons_zero,Rps]; exact ⟨v,us',[],f2,rfl,rfl,hd,h4⟩,nd'.2.1,fun a ha=>List.mem_append_right _ ha⟩
    | succ m =>
      obtain ⟨f',k1,k2,k3⟩:=Rps.set (m:=m) h4 hd nd'.2.1
      refine ⟨f1 ++ f',by simp only [List.set_cons_succ,Rps]; exact ⟨v0,_,f1,f',rfl,rfl,h3,k1⟩,List.nodup_append.mpr ⟨nd'.1,k2,fun a ha c hc=>nd'.2.2 a ha c (k3 c hc)⟩,fun a ha=>?_⟩
      rcases List.mem_append.mp ha with ha | ha
      · exact List.mem_append_left _ ha
      · exact List.mem_append_right _ (k3 a ha)
theorem PostS.seq {α:Type} {ts:List D} {ws':List V} {o:Out α} {f:α → Sl → Out Flow} {E:Ends} {den0:α → List D} {Q0:α → List V → Hp → Prop} {B':Addr → Prop} (h:PostS cl xf W ws (o.bind f) A L B H σ E) (lb:∀ a,L a → B a) (hb:∀ a,B a → B' a)
    (hj:∀ A2 H2 us xs δ2,(false = true → δ2 = δ) → Nx A B' H A2 H2 → Jt false cl A2 L B' H2 us xs δ2 σ → Jt false cl A2 L B H2 (ts ++ us) (ws' ++ xs) δ2 σ)
    (k:∀ a δ1 vs A' H',o = .ok a δ1 → Nx A B H A' H' → Jt false cl A' L B H' (ts ++ den0 a) (ws' ++ vs) δ1 σ → PostS cl xf W ws (f a δ1) A L B H σ E → Q0 a vs H'):Post cl xf W false o den0 A L B' H σ Q0:=by
  cases o with
  | ok a s=>exact fun vs A' H' n j=>k a s vs A' H' rfl (n.weak hb) (hj A' H' _ _ _ (by simp) n j) h
  | exc c xs s=>exact fun d vs A' H' n x j=>h d vs A' H' σ (n.weak hb) (Kp.refl σ) x (j.lower hb lb)
  | bad=>exact h
end
end Fs
namespace Fs
open PySem PySem.Spec PyProof.Rows L2
section
variable (cl:Ec) (xf:Nat → List Str) (X:Cx) (W:WX) (ws:Nat → Bool)
def Rd (p:Bool) (e:Expr) (de:DE):Prop:=∃ te,PE X e te ∧ SE cl xf W p te de
def Rk (e:Expr) (pp:PP):Prop:=∃ te,PE X e te ∧ SP cl te pp
def Rt (p:Bool) (e:Expr) (dt:DT):Prop:=∃ tt,L2.PT X e tt ∧ SB cl xf W p tt dt
def Rw (p:Bool) (e:Expr) (dt:DT):Prop:=∃ tt,PW X e tt ∧ SB cl xf W p tt dt
def Ra (p:Bool) (es:List Expr) (da:DA):Prop:=∃ ta,L2.PA X es ta ∧ SA cl xf W p ta da
def Rc (es:List Expr) (da:DA):Prop:=∃ ta,L2.PA X es ta ∧ SC cl xf W ta da
def Rq (es:List Expr) (ks:List AK):Prop:=∃ ta,L2.PA X es ta ∧ SQ cl xf W ta ks
def Ri (p:Bool) (tg e:Expr) (di:DA):Prop:=∃ wi,PI X tg e wi ∧ SI cl xf W p wi di
def Rg (tg:Expr) (t:D → Sl → Option Sl):Prop:=∃ g,PG X tg g ∧ SG cl ws g t
def Rgs (tg:List Expr) (t:List (D → Sl → Option Sl)):Prop:=∃ g,PGs X tg g ∧ SGs cl ws g t
def Rs (st:Stmt) (ds:DS):Prop:=∃ t,PS X st t ∧ SS cl xf W ws t ds
def Rb (sts:List Stmt) (ds:DS):Prop:=∃ t,PSs X sts t ∧ SS cl xf W ws t ds
/-- an operation on two expressions,on one,as the text says it -/
def B2 (e a b:Expr) (r:R2):Prop:=∀ ta tb,PE X a ta → PE X b tb → PE X e (tOp r ta tb)
def B1 (e a:Expr) (r:V → Hp → VK → Prop):Prop:=∀ ta,PE X a ta → PE X e (tUn r ta)
end
section
variable {cl:Ec} {xf:Nat → List Str} {X:Cx} {W:WX} {ws:Nat → Bool} {p:Bool} {e a b c:Expr} {es:List Expr} {da db dc:DE} {pa pb:PP} {r:R2} {r1:V → Hp → VK → Prop} {f:D → D → Option D} {f1:D → Option D} {pos pos':Pos}
theorem k_var (i:Nat) {x:Str} (hN:X.N[i]? = some x:=by rfl) (hv:Vis X.env.scope x:=by first | exact Or.inl rfl | exact Or.inr (Or.inl rfl) | exact Or.inr (Or.inr rfl)) (hd:(x == ("__debug__":Str)) = false:=by decide) (hcd:(x == ("__classdict__":Str)) = false:=by decide):Rk cl X (.Name x pos) (pVar i):=⟨_,pe_var hN hv hd hcd,sp_var⟩
theorem k_int {i:Int} {j:Nat}:Rk cl X (.Constant (.int i) j pos) (pC (.int i)):=⟨_,pe_int,sp_c rfl⟩
theorem k_bl {i:Bool} {j:Nat}:Rk cl X (.Constant (.bool i) j pos) (pC (.bl i)):=⟨_,pe_bl,sp_c rfl⟩
theorem k_non {j:Nat}:Rk cl X (.Constant .none j pos) (pC .non):=⟨_,pe_non,sp_c rfl⟩
theorem k_str {s:Str} {j:Nat}:Rk cl X (.Constant (.str s) j pos) (pC (.str s)):=⟨_,pe_str,sp_c rfl⟩
theorem k_glob {x:Str} {v:V} {u:Value} (hm:X.mg x = some u) (rv:RelV v u) (hs:sc v = true:=by rfl) (hg:Gl X x:=by rfl) (hd:(x == ("__debug__":Str)) = false:=by decide):Rk cl X (.Name x pos) (pC v):=⟨_,pe_glob hg hm rv hd,sp_c hs⟩
theorem k_op (o:B2 X e a b r) (h:POp cl r f) (ha:Rk cl X a pa) (hb:Rk cl X b pb):Rk cl X e (pOp f pa pb):=by
  obtain ⟨ta,h1,h2⟩:=ha
  obtain ⟨tb,h3,h4⟩:=hb
  exact ⟨_,o _ _ h1 h3,sp_op h h2 h4⟩
theorem k_un (o:B1 X e a r1) (h:PUn cl r1 f1) (ha:Rk cl X a pa):Rk cl X e (pUn f1 pa):=by
  obtain ⟨ta,h1,h2⟩:=ha
  exact ⟨_,o _ h1,sp_un h h2⟩
theorem d_p (ha:Rk cl X a pa):Rd cl xf X W p a (dP pa):=by obtain ⟨ta,h1,h2⟩:=ha; exact ⟨_,h1,se_p h2⟩
theorem Rd.to (ha:Rd cl xf X W true a da):Rd cl xf X W p a da:=by obtain ⟨ta,h1,h2⟩:=ha; exact ⟨_,h1,h2.to⟩
theorem d_mv (i:Nat) {x:Str} (hN:X.N[i]? = some x:=by rfl) (hv:Vis X.env.scope x:=by first | exact Or.inl rfl | exact Or.inr (Or.inl rfl) | exact Or.inr (Or.inr rfl)) (hd:(x == ("__debug__":Str)) = false:=by decide) (hcd:(x == ("__classdict__":Str)) = false:=by decide):Rd cl xf X W false (.Name x pos) (dMv i):=⟨_,pe_var hN hv hd hcd,se_mv⟩
theorem d_fz (i:Nat) {x:Str} (hN:X.N[i]? = some x:=by rfl) (hv:Vis X.env.scope x:=by first | exact Or.inl rfl | exact Or.inr (Or.inl rfl) | exact Or.inr (Or.inr rfl)) (hd:(x == ("__debug__":Str)) = false:=by decide) (hcd:(x == ("__classdict__":Str)) = false:=by decide):Rd cl xf X W false (.Name x pos) (dFz i):=⟨_,pe_var hN hv hd hcd,se_fz⟩
theorem a_nil:Ra cl xf X W p [] daNil:=⟨_,pa_nil,sa_nil⟩
theorem a_cons {da':DA} (ha:Rd cl xf X W p e da) (hr:Ra cl xf X W p es da') (hs:starEach (e :: es) X.env = (false,eval e X.env) :: starEach es X.env:=by rfl):Ra cl xf X W p (e :: es) (daCons da da'):=by
  obtain ⟨ta,h1,h2⟩:=ha
  obtain ⟨tb,h3,h4⟩:=hr
  exact ⟨_,pa_cons h1 h3 hs,Zn4 h2 h4⟩
theorem d_lst {da':DA} (h:Ra cl xf X W p es da'):Rd cl xf X W p (.List es pos) (dF mkLst da'):=by obtain ⟨ta,h1,h2⟩:=h; exact ⟨_,pe_lst h1,se_lst h2⟩
theorem d_tup {x1} {da':DA} (h:Ra cl xf X W p es da'):Rd cl xf X W p (.Tuple es x1 pos) (dF mkTup da'):=by obtain ⟨ta,h1,h2⟩:=h; exact ⟨_,pe_tup h1,se_tup h2⟩
theorem d_and {rest:List Expr} (ha:Rd cl xf X W p a da) (hb:Rd cl xf X W p (.BoolOp .And (b :: rest) pos) db):Rd cl xf X W p (.BoolOp .And (a :: b :: rest) pos) (dAnd da db):=by
  obtain ⟨ta,h1,h2⟩:=ha
  obtain ⟨tb,h3,h4⟩:=hb
  exact ⟨_,pe_and h1 h3,se_and h2 h4⟩
theorem d_one {op} (ha:Rd cl xf X W p a da):Rd cl xf X W p (.BoolOp op [a] pos) da:=by obtain ⟨ta,h1,h2⟩:=ha; exact ⟨_,pe_one h1,h2⟩
theorem d_not (ha:Rd cl xf X W p a da):Rd cl xf X W p (.UnaryOp .Not a pos) (d1S notD da):=by obtain ⟨ta,h1,h2⟩:=ha; exact ⟨_,pe_not h1,se_not h2⟩
theorem d_ch {op op':CmpOp} {r r':R2} {f g:D → D → Option D} (ho:OpR X (compareOp op) r) (ho':OpR X (compareOp op') r') (hf:POp cl r f) (hg:POp cl r' g) (ha:Rd cl xf X W p a da) (hb:Rd cl xf X W p b db) (hc:Rd cl xf X W p c dc) (hm:lastMarks [op,op'] [b,c] = false:=by with_unfolding_all rfl) :
    Rd cl xf X W p (.Compare a [op,op'] [b,c] pos) (dCh f g da db dc):=by
  obtain ⟨ta,h1,h2⟩:=ha
  obtain ⟨tb,h3,h4⟩:=hb
  obtain ⟨tc,h5,h6⟩:=hc
  exact ⟨_,pe_chain ho ho' h1 h3 h5 hm,se_ch hf hg h2 h4 h6⟩
theorem t_v (ha:Rd cl xf X W p a da) (he:∀ whole,isTrue a X.env whole = (do let v ← whole; standAt a.pos; holding [v] (truthy v)):=by intro _; rfl):Rt cl xf X W p a (dtV da):=by obtain ⟨ta,h1,h2⟩:=ha; exact ⟨_,pt_val h1 he,sb_v h2⟩
/-- a comparison as a test: o2 says it as a value and as a test -/
def C2 (X:Cx) (e a b:Expr) (r:R2):Prop:=∀ ta tb,PE X a ta → PE X b tb → L2.PT X e (tTest (tOp r ta tb))
theorem t_ch {op op':CmpOp} {r r':R2} {f g:D → D → Option D} (ho:OpR X (compareOp op) r) (ho':OpR X (compareOp op') r') (hf:POp cl r f) (hg:POp cl r' g) (ha:Rd cl xf X W p a da) (hb:Rd cl xf X W p b db) (hc:Rd cl xf X W p c dc) (hm:lastMarks [op,op'] [b,c] = false:=by with_unfolding_all rfl) :
    Rt cl xf X W p (.Compare a [op,op'] [b,c] pos) (dtV (dCh f g da db dc)):=by
  obtain ⟨ta,h1,h2⟩:=ha
  obtain ⟨tb,h3,h4⟩:=hb
  obtain ⟨tc,h5,h6⟩:=hc
  exact ⟨_,pt_chain ho ho' h1 h3 h5 hm,sb_v (se_ch hf hg h2 h4 h6)⟩
theorem t_not {dt:DT} (ha:Rt cl xf X W p a dt):Rt cl xf X W p (.UnaryOp .Not a pos) (dtNot dt):=by obtain ⟨ta,h1,h2⟩:=ha; exact ⟨_,pt_not h1,sb_not h2⟩
theorem t_w {dt:DT} (ha:Rw cl xf X W p a dt):Rt cl xf X W p a dt:=by obtain ⟨ta,h1,h2⟩:=ha; exact ⟨_,PW.pt h1,h2⟩
theorem w_and1 {dt:DT} (ha:Rt cl xf X W p a dt):Rw cl xf X W p (.BoolOp .And [a] pos) dt:=by obtain ⟨ta,h1,h2⟩:=ha; exact ⟨_,pw_and1 h1,h2⟩
theorem w_or1 {dt:DT} (ha:Rt cl xf X W p a dt):Rw cl xf X W p (.BoolOp .Or [a] pos) dt:=by obtain ⟨ta,h1,h2⟩:=ha; exact ⟨_,pw_or1 h1,h2⟩
theorem w_and {rest:List Expr} {dt du:DT} (ha:Rt cl xf X W p a dt) (hb:Rw cl xf X W p (.BoolOp .And (b :: rest) pos) du):Rw cl xf X W p (.BoolOp .And (a :: b :: rest) pos) (dtAnd dt du):=by
  obtain ⟨ta,h1,h2⟩:=ha
  obtain ⟨tb,h3,h4⟩:=hb
  exact ⟨_,pw_and h1 h3,sb_and h2 h4⟩
theorem w_or {rest:List Expr} {dt du:DT} (ha:Rt cl xf X W p a dt) (hb:Rw cl xf X W p (.BoolOp .Or (b :: rest) pos) du):Rw cl xf X W p (.BoolOp .Or (a :: b :: rest) pos) (dtOr dt du):=by
  obtain ⟨ta,h1,h2⟩:=ha
  obtain ⟨tb,h3,h4⟩:=hb
  exact ⟨_,pw_or h1 h3,sb_or h2 h4⟩
structure Fn (cl:Ec) (xf:Nat → List Str) (P:Program) (w:World) (K:PySem.W.Frag) (mg:Str → Option Value) (base:Heap) (x:Str) (k np:Nat) (F:List D → Out D):Prop where
  ex:∃ f fd ps,FnG P w K mg base (L2.CX P w) k f fd ps (spF cl xf np F) ∧ mg x = some (.ref f) ∧ PySem.W.keepIn K (.ref f) = true ∧ Binds K fd ps []
theorem c_nil:Rc cl xf X W [] daNil:=⟨_,pa_nil,sc_nil⟩
theorem c_val {da':DA} (ha:Rd cl xf X W true e da) (hr:Rc cl xf X W es da') (hs:starEach (e :: es) X.env = (false,eval e X.env) :: starEach es X.env:=by rfl):Rc cl xf X W (e :: es) (daCons da da'):=by
  obtain ⟨ta,h1,h2⟩:=ha
  obtain ⟨tb,h3,h4⟩:=hr
  exact ⟨_,pa_cons h1 h3 hs,sc_val h2 h4⟩
theorem c_lend {da':DA} (ha:Rk cl X e pa) (hr:Rc cl xf X W es da') (hs:starEach (e :: es) X.env = (false,eval e X.env) :: starEach es X.env:=by rfl):Rc cl xf X W (e :: es) (daLend pa da'):=by
  obtain ⟨ta,h1,h2⟩:=ha
  obtain ⟨tb,h3,h4⟩:=hr
  exact ⟨_,pa_cons h1 h3 hs,Zla h2 h4⟩
/-- how many arguments -/
def DL (n:Nat) (da:DA):Prop:=∀ δ ds s,da δ = .ok ds s → ds.length = n
theorem dl_nil:DL 0 daNil:=fun δ ds s e=>by cases e; rfl
theorem Zec {n:Nat} {da':DA} (h:DL n da'):DL (n + 1) (daCons da da'):=fun δ ds s e=>by
  unfold daCons at e
  cases e1:da δ with
  | bad=>rw [e1] at e; cases e
  | exc c xs s=>rw [e1] at e; cases e
  | ok x s1 =>
    rw [e1] at e
    simp only [Out.bind] at e
    cases e2:da' s1 with
    | bad=>rw [e2] at e; cases e
    | exc c xs s=>rw [e2] at e; cases e
    | ok xs s2=>rw [e2] at e; cases e; simp [h _ _ _ e2]
theorem Zp {n:Nat} {da':DA} (h:DL n da'):DL (n + 1) (daLend pa da'):=fun δ ds s e=>by
  unfold daLend at e
  split at e
  · cases e2:da' δ with
    | bad=>rw [e2] at e; cases e
    | exc c xs s=>rw [e2] at e; cases e
    | ok xs s2=>rw [e2] at e; cases e; simp [h _ _ _ e2]
  · cases e
theorem d_call {F:List D → Out D} {x:Str} {k m np:Nat} {da':DA} {pp:Pos} (Fk:Fn cl xf X.prog X.w X.K X.mg X.base x k np F) (hr:RoomG m X.A) (hkm:k ≤ m) (tk:Takes X W) (ha:Rc cl xf X W (e :: es) da') (hn:DL np da') (hg:Gl X x:=by rfl)
    (hdb:(x == ("__debug__":Str)) = false:=by decide) (he:starEach (e :: es) X.env = (false,eval e X.env) :: starEach es X.env:=by rfl) (hpl:(backTo pos (starEach es X.env)).any (·.1) = false:=by rfl):Rd cl xf X W p (.Call (.Name x pp) (e :: es) [] pos) (dCall F da'):=by
  obtain ⟨ta,h1,h2⟩:=ha
  obtain ⟨f,fd,ps,hF,hm,hk,hb⟩:=Fk.ex
  exact ⟨_,pe_callG hF (hr.mono hkm) hg hm hk hb (fun σ=>passAt tk σ) h1 hdb he hpl,(Zif h2 hn).to⟩
theorem q_nil:Rq cl xf X W [] []:=⟨_,pa_nil,sq_nil⟩
theorem q_val {ks:List AK} (ha:Rd cl xf X W false e da) (hr:Rq cl xf X W es ks) (hs:starEach (e :: es) X.env = (false,eval e X.env) :: starEach es X.env:=by rfl):Rq cl xf X W (e :: es) (.v da :: ks):=by
  obtain ⟨ta,h1,h2⟩:=ha
  obtain ⟨tb,h3,h4⟩:=hr
  exact ⟨_,pa_cons h1 h3 hs,sq_val h2 h4⟩
theorem q_l (i:Nat) {x:Str} {ks:List AK} (hr:Rq cl xf X W es ks) (hN:X.N[i]? = some x:=by rfl) (hv:Vis X.env.scope x:=by first | exact Or.inl rfl | exact Or.inr (Or.inl rfl) | exact Or.inr (Or.inr rfl)) (hd:(x == ("__debug__":Str)) = false:=by decide) (hcd:(x == ("__classdict__":Str)) = false:=by decide)
    (hs:starEach (.Name x pos :: es) X.env = (false,eval (.Name x pos) X.env) :: starEach es X.env:=by rfl):Rq cl xf X W (.Name x pos :: es) (.l i :: ks):=by
  obtain ⟨tb,h3,h4⟩:=hr
  exact ⟨_,pa_cons (pe_var hN hv hd hcd) h3 hs,sq_l h4⟩
theorem q_o (i:Nat) {x:Str} {ks:List AK} (hr:Rq cl xf X W es ks) (hN:X.N[i]? = some x:=by rfl) (hv:Vis X.env.scope x:=by first | exact Or.inl rfl | exact Or.inr (Or.inl rfl) | exact Or.inr (Or.inr rfl)) (hd:(x == ("__debug__":Str)) = false:=by decide) (hcd:(x == ("__classdict__":Str)) = false:=by decide)
    (hs:starEach (.Name x pos :: es) X.env = (false,eval (.Name x pos) X.env) :: starEach es X.env:=by rfl):Rq cl xf X W (.Name x pos :: es) (.o i :: ks):=by
  obtain ⟨tb,h3,h4⟩:=hr
  exact ⟨_,pa_cons (pe_var hN hv hd hcd) h3 hs,sq_o h4⟩
theorem d_io {F:List D → Out D} {x:Str} {k m np:Nat} {ks:List AK} {pp:Pos} (Fk:Fn cl xf X.prog X.w X.K X.mg X.base x k np F) (hr:RoomG m X.A) (hkm:k ≤ m) (tk:Takes X W) (ha:Rq cl xf X W (e :: es) ks) (hn:ks.length = np) (hg:Gl X x:=by rfl)
    (hdb:(x == ("__debug__":Str)) = false:=by decide) (he:starEach (e :: es) X.env = (false,eval e X.env) :: starEach es X.env:=by rfl) (hpl:(backTo pos (starEach es X.env)).any (·.1) = false:=by rfl):Rd cl xf X W false (.Call (.Name x pp) (e :: es) [] pos) (Zd F ks):=by
  obtain ⟨ta,h1,h2⟩:=ha
  obtain ⟨f,fd,ps,hF,hm,hk,hb⟩:=Fk.ex
  exact ⟨_,pe_callG hF (hr.mono hkm) hg hm hk hb (fun σ=>passAt tk σ) h1 hdb he hpl,Zk9 h2 hn⟩
theorem Zeu {tg:Expr} {pp:Pos} (hm:X.mg "range" = none) (ha:Rd cl xf X W p a da) (hg:Gl X "range":=by rfl) (hs:starEach [a] X.env = [(false,eval a X.env)]:=by rfl) (hs2:starEach (a :: []) X.env = (false,eval a X.env) :: starEach [] X.env:=by rfl):Ri cl xf X W p tg (.Call (.Name "range" pp) [a] [] pos) (diD itR da):=by
  obtain ⟨ta,h1,h2⟩:=ha
  exact ⟨_,pi_range1 hg hm (pa_cons h1 pa_nil hs2) hs,Zk7 h2⟩
theorem g_name (i:Nat) {x:Str} (hN:X.N.Nodup) (hw:ws i = true:=by rfl) (hi:X.N[i]? = some x:=by rfl) (hx:Loc X.env.scope x:=by first | exact Or.inl rfl | exact Or.inr rfl) (hf:X.fn x = true ∨ X.env.scope.names.lookup x = some .local:=by first | exact .inl rfl | exact .inr rfl):Rg cl X ws (.Name x pos) (tgN i):=⟨_,pg_name hN hi hx hf,Zfy hw⟩
theorem gs_nil:Rgs cl X ws [] []:=⟨_,pgs_nil,Zn0⟩
end
end Fs
namespace Fs
open PySem PySem.Spec PyProof.Rows L2
section
variable {cl:Ec} {xf:Nat → List Str} {X:Cx} {W:WX} {ws:Nat → Bool} {p:Bool} {e a b c tg:Expr} {es:List Expr} {da db dc:DE} {pa pb:PP} {r:R2} {r1:V → Hp → VK → Prop} {f:D → D → Option D} {f1:D → Option D} {pos pos' pp:Pos}
theorem ZgY {tgs':List (D → Sl → Option Sl)} {t:D → Sl → Option Sl} (h1:Rg cl X ws e t) (h2:Rgs cl X ws es tgs') (hs:(assignEach (e :: es) X.env).map (·.2) = assign e X.env :: (assignEach es X.env).map (·.2):=by rfl):Rgs cl X ws (e :: es) (t :: tgs'):=by
  obtain ⟨g,q1,q2⟩:=h1
  obtain ⟨g',q3,q4⟩:=h2
  exact ⟨_,pgs_cons q1 q3 hs,ZmS q2 q4⟩
theorem g_tup {k:Nat} {tgs':List (D → Sl → Option Sl)} (h:Rgs cl X ws es tgs') (hc:X.calm = true:=by rfl) (hn:(assignEach es X.env).length = tgs'.length:=by rfl) (hst:(assignEach es X.env).findIdx? (·.1) = none:=by rfl):Rg cl X ws (.Tuple es k pos) (tgT tgs'):=by
  obtain ⟨g,q1,q2⟩:=h
  exact ⟨_,pg_tup hc q1 hn hst,sg_tup rfl q2⟩
theorem d_lcP {elt iter:Expr} {ifs:List Expr} {scope:Scope} {own:List (Str × Nat)} {di:DA} {t:D → Sl → Option Sl} {tst:DT} {elt':DE} (hi:Ri cl xf X W true tg iter di) (ok:BlkOk X.N X.env.scope scope own) (hin:TgIn (own.map (·.2)) t)
    (hg:∃ g,(∀ (s:Shared) (H:Hp) (C:Addr) (cl':List (Str × Addr)) (fp:List Addr),PG (X.blk s H scope (compEnvC scope cl' C X.env) fp) tg g) ∧ SG cl (fun i=>(own.map (·.2)).contains i) g t)
    (ht:∃ tt,(∀ (s:Shared) (H:Hp) (C:Addr) (cl':List (Str × Addr)) (fp:List Addr),PTs (X.blk s H scope (compEnvC scope cl' C X.env) fp) ifs tt) ∧ SB cl xf W0 true tt tst)
    (he:∃ te,(∀ (s:Shared) (H:Hp) (C:Addr) (cl':List (Str × Addr)) (fp:List Addr),PE (X.blk s H scope (compEnvC scope cl' C X.env) fp) elt te) ∧ SE cl xf W0 true te elt')
    (hN:X.N.Nodup) (hc:X.calm = true:=by rfl) (hs:∀ x,foldedSetIterable iter X.env x = pure x:=by intro _; rfl) :
    Rd cl xf X W p (.ListComp elt [⟨tg,iter,ifs,0⟩] scope pos) (dComp true (own.map (·.2)) di t tst elt'):=by
  obtain ⟨wi,q1,q2⟩:=hi
  obtain ⟨g,q3,q4⟩:=hg
  obtain ⟨tt,q5,q6⟩:=ht
  obtain ⟨te,q7,q8⟩:=he
  exact ⟨_,pe_lc hc hN q1 ok q3 q5 q7 hs,(Zi3 q2 q4 hin q6 q8).to⟩
theorem d_lc {elt iter:Expr} {ifs:List Expr} {scope:Scope} {own:List (Str × Nat)} {di:DA} {t:D → Sl → Option Sl} {tst:DT} {elt':DE} (hi:Ri cl xf X W false tg iter di) (ok:BlkOk X.N X.env.scope scope own) (hin:TgIn (own.map (·.2)) t)
    (hg:∃ g,(∀ (s:Shared) (H:Hp) (C:Addr) (cl':List (Str × Addr)) (fp:List Addr),PG (X.blk s H scope (compEnvC scope cl' C X.env) fp) tg g) ∧ SG cl (fun i=>(own.map (·.2)).contains i) g t)
    (ht:∃ tt,(∀ (s:Shared) (H:Hp) (C:Addr) (cl':List (Str × Addr)) (fp:List Addr),PTs (X.blk s H scope (compEnvC scope cl' C X.env) fp) ifs tt) ∧ SB cl xf W0 false tt tst)
    (he:∃ te,(∀ (s:Shared) (H:Hp) (C:Addr) (cl':List (Str × Addr)) (fp:List Addr),PE (X.blk s H scope (compEnvC scope cl' C X.env) fp) elt te) ∧ SE cl xf W0 false te elt')
    (hN:X.N.Nodup) (hc:X.calm = true:=by rfl) (hs:∀ x,foldedSetIterable iter X.env x = pure x:=by intro _; rfl) :
    Rd cl xf X W false (.ListComp elt [⟨tg,iter,ifs,0⟩] scope pos) (dComp false (own.map (·.2)) di t tst elt'):=by
  obtain ⟨wi,q1,q2⟩:=hi
  obtain ⟨g,q3,q4⟩:=hg
  obtain ⟨tt,q5,q6⟩:=ht
  obtain ⟨te,q7,q8⟩:=he
  exact ⟨_,pe_lc hc hN q1 ok q3 q5 q7 hs,Zk8 q2 q4 hin q6 q8⟩
/-- y = [..] -/
theorem s_lcP (i:Nat) {y:Str} {py:Pos} {elt iter:Expr} {ifs:List Expr} {scope:Scope} {own:List (Str × Nat)} {di:DA} {t:D → Sl → Option Sl} {tst:DT} {elt':DE} (hi:Ri cl xf X W true tg iter di) (ok:BlkOk X.N X.env.scope scope own) (hin:TgIn (own.map (·.2)) t)
    (hg:∃ g,(∀ (s:Shared) (H:Hp) (C:Addr) (cl':List (Str × Addr)) (fp:List Addr),PG (X.blk s H scope (compEnvC scope cl' C X.env) fp) tg g) ∧ SG cl (fun i=>(own.map (·.2)).contains i) g t)
    (ht:∃ tt,(∀ (s:Shared) (H:Hp) (C:Addr) (cl':List (Str × Addr)) (fp:List Addr),PTs (X.blk s H scope (compEnvC scope cl' C X.env) fp) ifs tt) ∧ SB cl xf W0 true tt tst)
    (he:∃ te,(∀ (s:Shared) (H:Hp) (C:Addr) (cl':List (Str × Addr)) (fp:List Addr),PE (X.blk s H scope (compEnvC scope cl' C X.env) fp) elt te) ∧ SE cl xf W0 true te elt')
    (hN:X.N.Nodup) (hsw:swapsWith (.ListComp elt [⟨tg,iter,ifs,0⟩] scope pos) (some (.Name y py)) pos'.line X.env = pure true) (hw:ws i = true:=by rfl) (hy:X.N[i]? = some y:=by rfl) (hyl:X.env.scope.names.lookup y = some .local:=by rfl) (hc:X.calm = true:=by rfl) (hs:∀ x,foldedSetIterable iter X.env x = pure x:=by intro _; rfl) :
    Rs cl xf X W ws (.Assign [.Name y py] (.ListComp elt [⟨tg,iter,ifs,0⟩] scope pos) pos') (dsAsg (dComp true (own.map (·.2)) di t tst elt') (tgN i)):=by
  obtain ⟨wi,q1,q2⟩:=hi
  obtain ⟨g,q3,q4⟩:=hg
  obtain ⟨tt,q5,q6⟩:=ht
  obtain ⟨te,q7,q8⟩:=he
  exact ⟨_,ps_setLc hc hN hy hyl hsw q1 ok q3 q5 q7 hs,ss_asg (Zi3 q2 q4 hin q6 q8).to (Zfy hw)⟩
theorem s_lc (i:Nat) {y:Str} {py:Pos} {elt iter:Expr} {ifs:List Expr} {scope:Scope} {own:List (Str × Nat)} {di:DA} {t:D → Sl → Option Sl} {tst:DT} {elt':DE} (hi:Ri cl xf X W false tg iter di) (ok:BlkOk X.N X.env.scope scope own) (hin:TgIn (own.map (·.2)) t)
    (hg:∃ g,(∀ (s:Shared) (H:Hp) (C:Addr) (cl':List (Str × Addr)) (fp:List Addr),PG (X.blk s H scope (compEnvC scope cl' C X.env) fp) tg g) ∧ SG cl (fun i=>(own.map (·.2)).contains i) g t)
    (ht:∃ tt,(∀ (s:Shared) (H:Hp) (C:Addr) (cl':List (Str × Addr)) (fp:List Addr),PTs (X.blk s H scope (compEnvC scope cl' C X.env) fp) ifs tt) ∧ SB cl xf W0 false tt tst)
    (he:∃ te,(∀ (s:Shared) (H:Hp) (C:Addr) (cl':List (Str × Addr)) (fp:List Addr),PE (X.blk s H scope (compEnvC scope cl' C X.env) fp) elt te) ∧ SE cl xf W0 false te elt')
    (hN:X.N.Nodup) (hsw:swapsWith (.ListComp elt [⟨tg,iter,ifs,0⟩] scope pos) (some (.Name y py)) pos'.line X.env = pure true) (hw:ws i = true:=by rfl) (hy:X.N[i]? = some y:=by rfl) (hyl:X.env.scope.names.lookup y = some .local:=by rfl) (hc:X.calm = true:=by rfl) (hs:∀ x,foldedSetIterable iter X.env x = pure x:=by intro _; rfl) :
    Rs cl xf X W ws (.Assign [.Name y py] (.ListComp elt [⟨tg,iter,ifs,0⟩] scope pos) pos') (dsAsg (dComp false (own.map (·.2)) di t tst elt') (tgN i)):=by
  obtain ⟨wi,q1,q2⟩:=hi
  obtain ⟨g,q3,q4⟩:=hg
  obtain ⟨tt,q5,q6⟩:=ht
  obtain ⟨te,q7,q8⟩:=he
  exact ⟨_,ps_setLc hc hN hy hyl hsw q1 ok q3 q5 q7 hs,ss_asg (Zk8 q2 q4 hin q6 q8) (Zfy hw)⟩
def dtYes:DT:=fun δ=>.ok true δ
theorem sb_yes:SB cl xf W p tYes dtYes:=⟨fun _ δ=>rfl,fun A L B H δ σ Q j k=>k [] A H (Nx.refl j.ba) j⟩
theorem b_nil:Rb cl xf X W ws [] dsNext:=⟨_,pss_nil,ZnS⟩
theorem b_cons {st:Stmt} {sts:List Stmt} {d d':DS} (h:Rs cl xf X W ws st d) (h':Rb cl xf X W ws sts d'):Rb cl xf X W ws (st :: sts) (dsSeq d d'):=by
  obtain ⟨t,q1,q2⟩:=h
  obtain ⟨t',q3,q4⟩:=h'
  exact ⟨_,pss_cons q1 q3,ss_seq q2 q4⟩
theorem b_one {st:Stmt} {d:DS} (h:Rs cl xf X W ws st d):Rb cl xf X W ws [st] d:=by obtain ⟨t,q1,q2⟩:=h; exact ⟨_,pss_one q1,q2⟩
theorem s_set (i:Nat) {x:Str} (h:Rd cl xf X W false e da) (hN:X.N.Nodup) (hw:ws i = true:=by rfl) (hi:X.N[i]? = some x:=by rfl) (hx:Loc X.env.scope x:=by first | exact Or.inl rfl | exact Or.inr rfl) (hs:swapsWith e (some (.Name x pos')) pos.line X.env = pure false:=by rfl) (hf:X.fn x = true ∨ X.env.scope.names.lookup x = some .local:=by first | exact .inl rfl | exact .inr rfl) :
    Rs cl xf X W ws (.Assign [.Name x pos'] e pos) (dsAsg da (tgN i)):=by
  obtain ⟨te,q1,q2⟩:=h
  exact ⟨_,ps_set hN hi hx q1 hs hf,ss_asg q2 (Zfy hw)⟩
theorem s_ret (h:Rd cl xf X W false e da):Rs cl xf X W ws (.Return (some e) pos) (dsRet da):=by obtain ⟨te,q1,q2⟩:=h; exact ⟨_,ps_ret q1,ss_ret q2⟩
theorem s_expr (h:Rd cl xf X W false e da) (hs:swapsWith e none pos.line X.env = pure false:=by rfl):Rs cl xf X W ws (.Expr e pos) (dsDrop da):=by obtain ⟨te,q1,q2⟩:=h; exact ⟨_,ps_expr q1 hs,ZnU q2⟩
theorem s_if {dt:DT} {d d':DS} {st st':List Stmt} (hc:Rt cl xf X W false c dt) (h:Rb cl xf X W ws st d) (h':Rb cl xf X W ws st' d'):Rs cl xf X W ws (.If c st st' pos) (dsIf dt d d'):=by
  obtain ⟨t,q1,q2⟩:=h
  obtain ⟨t',q3,q4⟩:=h'
  obtain ⟨tc,q5,q6⟩:=hc
  exact ⟨_,ps_if q5 q1 q3,ss_if q6 q2 q4⟩
theorem s_for {iter:Expr} {body:List Stmt} {di:DA} {t:D → Sl → Option Sl} {d:DS} (hi:Ri cl xf X W false tg iter di) (hg:Rg cl X ws tg t) (hb:Rb cl xf X W ws body d) (hp:PassesOwn (model X.prog X.w) X.A X.env X.xe) (hc:X.calm = true:=by rfl) (hs:∀ x,foldedSetIterable iter X.env x = pure x:=by intro _; rfl) :
    Rs cl xf X W ws (.For tg iter body [] pos) (dsFor di t d):=by
  obtain ⟨wi,q1,q2⟩:=hi
  obtain ⟨g,q3,q4⟩:=hg
  obtain ⟨tb,q5,q6⟩:=hb
  exact ⟨_,ps_for hp hc q1 q3 q5 hs,ss_for q2 q4 q6⟩
theorem d_app (i:Nat) {x:Str} {apos:Pos} (h:Rd cl xf X W false e da) (hN:X.N[i]? = some x:=by rfl) (hv:Vis X.env.scope x:=by first | exact Or.inl rfl | exact Or.inr (Or.inl rfl) | exact Or.inr (Or.inr rfl)) (hd:(x == ("__debug__":Str)) = false:=by decide) (hcd:(x == ("__classdict__":Str)) = false:=by decide)
    (hq:∀ ta,PE X e ta → PE X (.Call (.Attribute (.Name x pp) "append" apos) [e] [] pos) (tBM X.K "list" rAppend (tVar i) (tCons ta tNil))):Rd cl xf X W false (.Call (.Attribute (.Name x pp) "append" apos) [e] [] pos) (dApp i da):=by
  obtain ⟨te,q1,q2⟩:=h
  exact ⟨_,hq _ q1,se_app q2⟩
theorem o_sub:B2 X (.BinOp a .Sub b pos) a b (rI0 fun i j=>.int (i - j)):=fun _ _ ha hb=>pe_op op_sub ha hb
theorem o_div:B2 X (.BinOp a .FloorDiv b pos) a b (rI CDivW fun i j=>.int (i / j)):=fun _ _ ha hb=>pe_op op_fdivW ha hb
theorem o_mod:B2 X (.BinOp a .Mod b pos) a b (rI (fun _ j=>0 < j) fun i j=>.int (i % j)):=fun _ _ ha hb=>pe_op op_mod ha hb
theorem o_pow:B2 X (.BinOp a .Pow b pos) a b (rI CPow fun i j=>.int (i ^ j.toNat)):=fun _ _ ha hb=>pe_op op_pow ha hb
theorem o_cmp {op:CmpOp} (h:OpR X (compareOp op) r) (hm:behindInMarks op b = false):B2 X (.Compare a [op] [b] pos) a b r:=fun _ _ ha hb=>pe_cmpR h ha hb hm
theorem c_cmp {op:CmpOp} (h:OpR X (compareOp op) r) (hm:behindInMarks op b = false):C2 X (.Compare a [op] [b] pos) a b r:=fun _ _ ha hb=>pt_cmpR h ha hb hm
theorem ZoS (hu:X.A.units + 1 < cLine):IxR X (fun x y H Q=>∃ a v,x = .ref a ∧ DGet H a y (some v) ∧ Q v H):=by
  intro value slice pins s σ H x y v u Q I rx ry ⟨a,w,ex,g,q⟩ hs
  subst ex
  obtain rfl:v = Value.ref a:=rx
  have hT:=dict_typeIs I g
  unfold subscriptTail
  refine wpAny_bind ?_
  rw [getitemInPython_of_ne hT.not_modules]
  refine wpAny_bind (wpAny_specialOf hT PySem.F.slot_dict_getitem.lookup ?_)
  have fin:wpAny (model X.prog X.w) X.A (subscripted slice false (.ref a) u) (fun r s₃=>wpAny (model X.prog X.w) X.A (letTemporaryGo value (.ref a) r >>= fun _=>pure r) (EP X pins σ Q) X.xe s₃) X.xe s:=by
    rw [hs]
    exact wpAny_operating (d_getItem hu I g ry fun w' s3 I3 rw'=>wpAny_bind (wpAny_letTemporaryGo (wpAny_pure ⟨w,H,I3,rw',q⟩)))
  first
    | exact wpAny_pure (wpAny_bind fin)
    | exact wpAny_bind (wpAny_pure (wpAny_bind fin))
    | exact wpAny_bind fin
theorem o_ix (hK:X.K = cl.K) (hu:X.A.units + 1 < cLine) (hs:PlainIx b):B2 X (.Subscript a b pos) a b (rIxA cl.K):=by rw [← hK]; exact fun _ _ ha hb=>pe_ix (ix_seq.or (ZoS hu)) ha hb hs
theorem o_len (hK:X.K = cl.K) (hm:X.mg "len" = none) (hg:Gl X "len":=by rfl) (h1:starEach [a] X.env = (false,eval a X.env) :: starEach [] X.env:=by rfl) (h2:(backTo pos (starEach [] X.env)).any (·.1) = false:=by rfl):B1 X (.Call (.Name "len" pp) [a] [] pos) a (rLenA cl.K):=by rw [← hK]; exact fun _ ha=>pe_callB (call_len.or Zl8) hg hm PySem.boot_len (pa_cons ha pa_nil h1) (by decide) (by decide) h1 h2
theorem o_isi {T:String} {tn:Str} {pt:Pos} (hm:X.mg "isinstance" = none) (ht:X.mg tn = none) (hv:bootBuiltins tn = some (.type T)) (hg:Gl X "isinstance":=by rfl) (hgt:Gl X tn:=by rfl) (hn:tn ≠ "__name__":=by decide) (hd:(tn == ("__debug__":Str)) = false:=by decide)
    (h1:starEach [a,.Name tn pt] X.env = (false,eval a X.env) :: starEach [.Name tn pt] X.env:=by rfl) (h0:starEach [.Name tn pt] X.env = (false,eval (.Name tn pt) X.env) :: starEach [] X.env:=by rfl) (h2:(backTo pos (starEach [.Name tn pt] X.env)).any (·.1) = false:=by rfl):B1 X (.Call (.Name "isinstance" pp) [a,.Name tn pt] [] pos) a (fun x H Q=>rIsi X.K [x,.ty T] H Q) :=
  fun _ ha=>pe_callB call_isi hg hm PyProof.Rows.boot_isinstance (pa_cons ha (pa_cons (pe_bltn (v:=.ty T) hgt ht hv rfl hn hd) pa_nil h0) h1) (by decide) (by decide) h1 h2
theorem o_max (hm:X.mg "max" = none) (hc:X.calm = true:=by rfl) (hg:Gl X "max":=by rfl) (h1:starEach [a,b] X.env = (false,eval a X.env) :: starEach [b] X.env:=by rfl) (h0:starEach [b] X.env = (false,eval b X.env) :: starEach [] X.env:=by rfl) (h2:(backTo pos (starEach [b] X.env)).any (·.1) = false:=by rfl):B2 X (.Call (.Name "max" pp) [a,b] [] pos) a b (fun x y H Q=>∃ i j,[x,y] = [.int i,.int j] ∧ Q (.int (if j > i then j else i)) H) :=
  fun _ _ ha hb=>pe_callB (call_max2 hc) hg hm PyProof.Rows.boot_max (pa_cons ha (pa_cons hb pa_nil h0) h1) (by decide) (by decide) h1 h2
theorem Zmb:bootBuiltins "min" = some (.builtin "min"):=by decide +kernel
theorem Zmd:bootBuiltins "all" = some (.builtin "all"):=by decide +kernel
theorem Zmc:bootBuiltins "int" = some (.type "int"):=by decide +kernel
theorem o_min (hm:X.mg "min" = none) (hc:X.calm = true:=by rfl) (hg:Gl X "min":=by rfl) (h1:starEach [a,b] X.env = (false,eval a X.env) :: starEach [b] X.env:=by rfl) (h0:starEach [b] X.env = (false,eval b X.env) :: starEach [] X.env:=by rfl) (h2:(backTo pos (starEach [b] X.env)).any (·.1) = false:=by rfl):B2 X (.Call (.Name "min" pp) [a,b] [] pos) a b (fun x y H Q=>∃ i j,[x,y] = [.int i,.int j] ∧ Q (.int (if j < i then j else i)) H) :=
  fun _ _ ha hb=>pe_callB (call_min2 hc) hg hm Zmb (pa_cons ha (pa_cons hb pa_nil h0) h1) (by decide) (by decide) h1 h2
theorem o_int (hm:X.mg "int" = none) (hg:Gl X "int":=by rfl) (h1:starEach [a] X.env = (false,eval a X.env) :: starEach [] X.env:=by rfl) (h2:(backTo pos (starEach [] X.env)).any (·.1) = false:=by rfl):B1 X (.Call (.Name "int" pp) [a] [] pos) a rIntA:=fun _ ha=>pe_callTy (call_int1.or call_int_str) hg hm Zmc (pa_cons ha pa_nil h1) (by decide) (by decide) h1 h2
theorem o_all (hm:X.mg "all" = none) (hc:X.calm = true:=by rfl) (hg:Gl X "all":=by rfl) (h1:starEach [a] X.env = (false,eval a X.env) :: starEach [] X.env:=by rfl) (h2:(backTo pos (starEach [] X.env)).any (·.1) = false:=by rfl):B1 X (.Call (.Name "all" pp) [a] [] pos) a (fun x H Q=>rAll X.K [x] H Q):=fun _ ha=>pe_callB (cr_all hc) hg hm Zmd (pa_cons ha pa_nil h1) (by decide) (by decide) h1 h2
theorem o_join {s:Str} {j:Nat} {cp apos:Pos} (hs:starEach [a] X.env = [(false,eval a X.env)]:=by rfl) (hbase:attributeBase (.Constant (.str s) j cp) "join" X.env (eval (.Constant (.str s) j cp) X.env) = eval (.Constant (.str s) j cp) X.env:=by rfl) (hline:(apos.endLine == pos.line) = true:=by rfl) :
    B1 X (.Call (.Attribute (.Constant (.str s) j cp) "join" apos) [a] [] pos) a (fun y H Q=>∃ a' p,∃ ys:List Str,V.str s = .str a' ∧ [y] = [V.ref p] ∧ (SqL X.K H p (ys.map V.str) ∨ SqT X.K H p (ys.map V.str)) ∧ (ys.map (·.length)).sum + ys.length * a'.length ≤ 16777216 ∧ Q (.str (Txt.join a' ys)) H):=fun ta ha=>by
  have h:=pe_join (X:=X) (o:=.Constant (.str s) j cp) (to:=tC (.str s)) pe_str ha hs hbase hline
  refine ⟨fun pins s' σ H Q I hw=>h.run pins s' σ H Q I ?_⟩
  exact ⟨⟨s,rfl⟩,hw⟩
end
end Fs
namespace Fs
open PySem PySem.Spec PyProof.Rows L2
section
variable {cl:Ec} {xf:Nat → List Str} {X:Cx} {W:WX} {ws:Nat → Bool} {p:Bool} {scope:Scope}
theorem uni_e {elt:Expr} {de:DE} (h:∀ (s:Shared) (H:Hp) (C:Addr) (cl':List (Str × Addr)) (fp:List Addr),Rd cl xf (X.blk s H scope (compEnvC scope cl' C X.env) fp) W0 p elt de) :
    ∃ te,(∀ (s:Shared) (H:Hp) (C:Addr) (cl':List (Str × Addr)) (fp:List Addr),PE (X.blk s H scope (compEnvC scope cl' C X.env) fp) elt te) ∧ SE cl xf W0 p te de:=by
  refine ⟨fun σ H Q=>∀ te,SE cl xf W0 p te de → te σ H Q,fun s H C cl' fp=>⟨fun pins s' σ H' Q I hw=>?_⟩,⟨?_,fun A L B H δ σ Q j k te hte=>hte.run A L B H δ σ Q j k⟩⟩
  · obtain ⟨te,h1,h2⟩:=h s H C cl' fp
    exact h1.run pins s' σ H' Q I (hw te h2)
  · obtain ⟨te,h1,h2⟩:=h X.s_0 X.H_0 0 [] []
    exact h2.pure
theorem uni_g {tg:Expr} {t:D → Sl → Option Sl} (h:∀ (s:Shared) (H:Hp) (C:Addr) (cl':List (Str × Addr)) (fp:List Addr),Rg cl (X.blk s H scope (compEnvC scope cl' C X.env) fp) ws tg t) :
    ∃ g,(∀ (s:Shared) (H:Hp) (C:Addr) (cl':List (Str × Addr)) (fp:List Addr),PG (X.blk s H scope (compEnvC scope cl' C X.env) fp) tg g) ∧ SG cl ws g t:=by
  refine ⟨fun v σ H Q=>∀ g,SG cl ws g t → g v σ H Q,fun s H C cl' fp=>⟨fun pins s' σ H' v u Q I rv hw=>?_⟩,fun p A L B H δ δ' σ d v Q j e k g hg=>hg p A L B H δ δ' σ d v Q j e k⟩
  obtain ⟨g,h1,h2⟩:=h s H C cl' fp
  exact h1.run pins s' σ H' v u Q I rv (hw g h2)
theorem uni_t {c:Expr} {dt:DT} (h:∀ (s:Shared) (H:Hp) (C:Addr) (cl':List (Str × Addr)) (fp:List Addr),Rt cl xf (X.blk s H scope (compEnvC scope cl' C X.env) fp) W0 p c dt) :
    ∃ tt,(∀ (s:Shared) (H:Hp) (C:Addr) (cl':List (Str × Addr)) (fp:List Addr),PTs (X.blk s H scope (compEnvC scope cl' C X.env) fp) [c] tt) ∧ SB cl xf W0 p tt dt:=by
  refine ⟨fun σ H Q=>∀ tt,SB cl xf W0 p tt dt → tt σ H Q,fun s H C cl' fp=>⟨fun pins s' σ H' Q I hw=>?_⟩,⟨?_,fun A L B H δ σ Q j k tt ht=>ht.run A L B H δ σ Q j k⟩⟩
  · obtain ⟨tt,h1,h2⟩:=h s H C cl' fp
    exact (pts_one h1).run pins s' σ H' Q I (hw tt h2)
  · obtain ⟨tt,h1,h2⟩:=h X.s_0 X.H_0 0 [] []
    exact h2.pure
theorem uni_y:∃ tt,(∀ (s:Shared) (H:Hp) (C:Addr) (cl':List (Str × Addr)) (fp:List Addr),PTs (X.blk s H scope (compEnvC scope cl' C X.env) fp) [] tt) ∧ SB cl xf W0 p tt dtYes:=⟨tYes,fun _ _ _ _ _=>pts_nil,sb_yes⟩
end
end Fs
namespace Fs
open PySem PySem.Spec PyProof.Rows L2
section
variable {cl:Ec} {xf:Nat → List Str} {X:Cx} {W:WX} {ws:Nat → Bool} {p:Bool} {e a b:Expr} {pos pp apos:Pos} {da:DE}
theorem g_sub:GOp cl (rI0 fun i j=>.int (i - j)) subD:=(pop_I0 fun _ _=>rfl).gs ZcF
theorem g_div:GOp cl (rI CDivW fun i j=>.int (i / j)) divD:=(pop_I Zpb fun _ _=>rfl).gs ZcF
theorem g_mod:GOp cl (rI (fun _ j=>0 < j) fun i j=>.int (i % j)) modD:=(pop_I Zpa fun _ _=>rfl).gs ZcF
theorem g_pow:GOp cl (rI CPow fun i j=>.int (i ^ j.toNat)) powD:=(pop_I Zo8 fun _ _=>rfl).gs ZcF
theorem p_lt:POp cl (rI0 fun i j=>.bl (decide (i < j))) ltD:=pop_I0 fun _ _=>rfl
theorem p_le:POp cl (rI0 fun i j=>.bl (decide (i ≤ j))) leD:=pop_I0 fun _ _=>rfl
theorem p_gt:POp cl (rI0 fun i j=>.bl (decide (j < i))) gtD:=pop_I0 fun _ _=>rfl
theorem g_lt:GOp cl (rI0 fun i j=>.bl (decide (i < j))) ltD:=p_lt.gs ZcF
theorem g_gt:GOp cl (rI0 fun i j=>.bl (decide (j < i))) gtD:=p_gt.gs ZcF
theorem g_eq {K:PySem.W.Frag}:GOp cl (rEqD K) eqD:=pop_eq.gs ZjF
theorem g_ne {K:PySem.W.Frag}:GOp cl (rNeD K) neD:=pop_ne.gs Zjj
def ixK (x y:D):Option D:=(ixD x y).filter D.kept
theorem g_ix:GOp cl (rIxA cl.K) ixK:=pop_ix.g
theorem g_max:GOp cl (fun x y H Q=>∃ i j,[x,y] = [.int i,.int j] ∧ Q (.int (if j > i then j else i)) H) maxD:=(pop_2 (fun i j H Q q=>⟨i,j,rfl,q⟩) fun _ _=>rfl).gs ZcF
theorem g_min:GOp cl (fun x y H Q=>∃ i j,[x,y] = [.int i,.int j] ∧ Q (.int (if j < i then j else i)) H) minD:=(pop_2 (fun i j H Q q=>⟨i,j,rfl,q⟩) fun _ _=>rfl).gs ZcF
theorem g_len:GUn cl (rLenA cl.K) lenD:=pun_len.g ZlB
theorem g_isi {K:PySem.W.Frag} {c:String} (hc:c ∈ ["bool","int","str","list","tuple","dict"]:=by decide):GUn cl (fun x H Q=>rIsi K [x,.ty c] H Q) (isiD c):=(Zod hc).g ZlO
theorem g_int:GUn cl rIntA intD:=pun_int.g ZlS
theorem g_all {K:PySem.W.Frag}:GUn cl (fun x H Q=>rAll K [x] H Q) allD:=pun_all.g Zmf
theorem g_join {K:PySem.W.Frag} {s:Str}:GUn cl (fun y H Q=>∃ a' p,∃ ys:List Str,V.str s = .str a' ∧ [y] = [V.ref p] ∧ (SqL K H p (ys.map V.str) ∨ SqT K H p (ys.map V.str)) ∧ (ys.map (·.length)).sum + ys.length * a'.length ≤ 16777216 ∧ Q (.str (Txt.join a' ys)) H) (joinD s):=pun_join.g Zkn
theorem g_isN:GUn cl (fun x H Q=>Q (.bl (decide (x = .non))) H) isND:=pun_isN.g ZlP
theorem g_notN:GUn cl (fun x H Q=>Q (.bl (!decide (x = .non))) H) notND:=pun_notN.g Zki
def negD:D → Option D | .v (.int i)=>some (.int (-i)) | _=>none
theorem Zcw {x:Str} {v:V} {pa:Nat} (h:∃ u,X.mg x = some u ∧ RelV v u) (hs:sc v = true:=by rfl) (hg:Gl X x:=by rfl) (hd:(x == ("__debug__":Str)) = false:=by decide):Rk cl X (.Name x pos) (pC v):=by
  obtain ⟨u,h1,h2⟩:=h
  exact k_glob h1 h2 hs hg hd
end
end Fs
namespace Fs
open PySem PySem.Spec PyProof.Rows L2
section
variable {cl:Ec} {xf:Nat → List Str} {W:WX} {ws:Nat → Bool} {A A' L B:Addr → Prop} {H H':Hp} {δ δ':Sl} {σ σ':L2.St} {p q b:Bool} {te ta tb tc:TE} {tA:TA} {tt tu:TT} {t u:TS} {ts:List D} {vs:List V} {X:Cx} {e a:Expr} {pos pp apos cp:Pos}
/-- a new thing in hand is filled with the other temporaries -/
theorem Jt.fill {k k':Kd} {a:Addr} {ws:List V} {o':HO} (j:Jt p cl A L B H (.n k .own [] :: ts) (.ref a :: ws) δ σ) (hs':Shape cl k' a ws o') (hm':k'.mut = true:=by rfl):Nx A B H A (upd H a o') ∧ Jt p cl A L B (upd H a o') [.n k' .own ts] [.ref a] δ σ:=by
  obtain ⟨f,g,h1,h2,h3,h4,h5⟩:=j.ex
  simp only [Rps,Rp] at h1
  obtain ⟨v0,vs',f1,f2,e,rfl,⟨a',o,us,e',ho,hs,hA,fp',rfl,hr⟩,h6⟩:=h1
  cases e
  cases e'
  obtain ⟨_,rfl⟩:=hr
  obtain ⟨hs,hm⟩:=hs.own
  have nd:=List.nodup_append.mp h3
  have nd2:=List.nodup_append.mp nd.1
  have nB:¬ B a:=h4 a (by simp)
  have nf:∀ c ∈ f2,c ≠ a:=fun c hc e=>by subst e; exact nd2.2.2 c (by simp) c hc rfl
  have ng:∀ c ∈ g,c ≠ a:=fun c hc e=>by subst e; exact nd.2.2 c (by simp) c hc rfl
  have st:∀ c u,H c = some u → ¬ A c → NT u → upd H a o' c = some u ∧ ¬ A c:=fun c u h n _=>⟨by rw [upd_ne (show c ≠ a from fun e=>n (by rw [e]; exact hA))]; exact h,n⟩
  refine ⟨⟨fun c h=>.inl h,fun c u h n t=>(st c u h n t).1,fun c h=>⟨upd_ne (show c ≠ a from fun e=>nB (by rw [← e]; exact h)),j.ba c h⟩,fun c h=>?_⟩,⟨⟨a :: f2,g,?_,h2.step st (fun c hc=>⟨upd_ne (ng c hc),(h2.inA c hc).1⟩) (fun c hc=>⟨upd_ne (show c ≠ a from fun e=>nB (by rw [← e]; exact j.lb c hc)),hc⟩),?_,?_,h5⟩,j.lb,j.ba,fun c h=>?_,Tb.put j.tb ho hs hm⟩⟩
  · by_cases e:c = a
    · subst e; rw [upd_same] at h; cases h
    · rw [upd_ne e] at h; exact h
  · simp only [Rps,Rp]
    exact ⟨.ref a,[],a :: f2,[],rfl,by simp,⟨a,o',ws,rfl,upd_same,.inl ⟨hs',fun _=>hm'⟩,hA,f2,rfl,h6.step st (fun c hc=>⟨upd_ne (nf c hc),(h6.inA c hc).1⟩) (by simp)⟩,rfl,rfl⟩
  · simpa using h3
  · intro c hc
    exact h4 c (by simpa using hc)
  · by_cases e:c = a
    · subst e; rw [upd_same]; simp
    · rw [upd_ne e]; exact j.ad c h
def keyD:D → Option Key
  | .v (.int i)=>some (.inl i)
  | .v (.str s)=>some (.inr s)
  | _=>none
theorem Ziy {d:D} {v:V} {fp:List Addr} {k:Key} (h:Rp cl A L H b d v fp) (e:keyD d = some k):v = kV k:=by
  unfold keyD at e
  split at e
  · cases e; exact h.leafv.1
  · cases e; exact h.leafv.1
  · cases e
/-- the pairs of a display -/
def dPairs:List (PP × DE) → Sl → Out (List Key × List D)
  | [],δ=>.ok ([],[]) δ
  | (k,v) :: r,δ=>match (k δ).bind keyD with
    | some kk=>(v δ).bind fun x δ1=>(dPairs r δ1).bind fun s δ2=>.ok (kk :: s.1,x :: s.2) δ2
    | none=>.bad
/-- what the readings of pairs do -/
structure SPr (cl:Ec) (xf:Nat → List Str) (W:WX) (p:Bool) (trs:List (TE × TE)) (ps:List (PP × DE)):Prop where
  pure:p = true → ∀ δ,(dPairs ps δ).same δ
  run:∀ A L B H δ σ Q,Jt p cl A L B H [] [] δ σ → Post cl xf W p (dPairs ps δ) (fun s=>s.2) A L B H σ (fun s vs H'=>s.1.length = vs.length → Q ((s.1.zip vs).map fun kv=>(kV kv.1,kv.2)) H') → tPairs trs σ H Q
theorem ZnV:SPr cl xf W p [] []:=⟨fun _ δ=>rfl,fun A L B H δ σ Q j k=>k [] A H (Nx.refl j.ba) j rfl⟩
theorem ZmR {k:PP} {v:DE} {trs:List (TE × TE)} {ps:List (PP × DE)} (hk:SP cl ta k) (hv:SE cl xf W p te v) (hr:SPr cl xf W p trs ps):SPr cl xf W p ((ta,te) :: trs) ((k,v) :: ps):=by
  refine ⟨fun hp δ=>?_,fun A L B H δ σ Q j kk=>?_⟩
  · unfold dPairs
    split
    · exact Out.same_bind (hv.pure hp δ) fun x=>Out.same_bind (hr.pure hp δ) fun s=>rfl
    · trivial
  · unfold dPairs at kk
    split at kk
    · rename_i key ek
      obtain ⟨d,e1,e2⟩:=Option.bind_eq_some_iff.mp ek
      obtain ⟨g,hg,_,_⟩:=j.drop0
      refine hk A L H δ σ g d _ hg e1 fun w fp h1 _=>?_
      have hw:=Ziy h1 e2
      subst hw
      refine hv.run A L B H δ σ _ j (Post.bind (γ:=D) kk fun x δ1 us A1 H1 e3 n1 j1 k1 y ey=>?_)
      subst ey
      obtain ⟨B',j2,hb,hj⟩:=j1.seq
      refine hr.run A1 L B' H1 δ1 σ _ j2 ?_
      have k2:=Post.step (A':=A1) (H':=H1) (Post.bind (γ:=D) (den0:=fun s=>x :: s.2) (Q0:=fun s us H2=>∀ us',us = y :: us' → s.1.length = us'.length → Q ((kV key,y) :: ((s.1.zip us').map fun kv=>(kV kv.1,kv.2))) H2) k1 fun s δ2 us A2 H2 e4 n2 j3 k3 us' eu hl=>?_) n1
      · exact Post.seq (ts:=[x]) (ws:=[y]) k2 (ZfA hr.pure rfl) j1.lb hb hj (fun a=>rfl) (fun a us H2 q hl=>q us rfl hl)
      · subst eu
        exact k3 (y :: us') A2 H2 n2 j3 (by simp [hl])
    · exact kk.elim
theorem Zfc:∀ (kvs:List (Key × V)) (acc:List (Key × V)),((acc ++ kvs).map (·.1)).Nodup → mergeK acc kvs = acc ++ kvs
  | [],acc,_=>by simp [mergeK]
  | kv :: kvs,acc,h=>by
    have hn:valV acc kv.1 = none:=by
      cases hv:valV acc kv.1 with
      | none=>rfl
      | some v =>
        exfalso
        have h2:(acc.any fun x=>decide (x.1 = kv.1)) = true:=by rw [valV_any,hv]; rfl
        obtain ⟨x,hx,hx2⟩:=List.any_eq_true.mp h2
        have hx3:=of_decide_eq_true hx2
        rw [List.map_append,List.map_cons] at h
        have h3:=(List.nodup_append.mp h).2.2 x.1 (List.mem_map.mpr ⟨x,hx,rfl⟩) kv.1 (List.mem_cons_self)
        exact h3 hx3
    show mergeK (putK acc kv.1 kv.2) kvs = acc ++ kv :: kvs
    rw [putK_new _ hn]
    have h4:((acc ++ [(kv.1,kv.2)]) ++ kvs) = acc ++ kv :: kvs:=by simp
    rw [Zfc kvs _ (by rw [h4]; exact h),h4]
def dDisp (ps:List (PP × DE)):DE:=fun δ=>(dPairs ps δ).bind fun s δ1=>if s.1.Nodup ∧ s.1.length ≤ 15 then .ok (.n (.dct s.1) .own s.2) δ1 else .bad
theorem Zn1 {trs:List (TE × TE)} {ps:List (PP × DE)} (h:SPr cl xf W p trs ps):SE cl xf W p (tDisp trs) (dDisp ps):=by
  refine ⟨fun hp δ=>Out.same_bind (h.pure hp δ) fun s=>?_,fun A L B H δ σ Q j k p0 hp0=>?_⟩
  · split <;> first | rfl | trivial
  · obtain ⟨n1,j1⟩:=j.alloc (k:=.dct []) (o:=.dK []) hp0 ⟨rfl,rfl⟩
    obtain ⟨B',j2,hb,hj⟩:=j1.seq
    refine h.run _ L B' _ δ σ _ j2 ?_
    have k2:=Post.step (Post.bind (γ:=D) (den0:=fun (s:List Key × List D)=>.n (.dct []) .own [] :: s.2) (Q0:=fun s us H2=>∀ us',us = .ref p0 :: us' → s.1.length = us'.length → H2 p0 = some (.dK []) ∧ ∃ kvs:List (Key × V),((s.1.zip us').map fun kv=>(kV kv.1,kv.2)) = kvs.map (fun kv=>(kV kv.1,kv.2)) ∧ kvs.length ≤ 15 ∧ Q (.ref p0) (upd H2 p0 (.dK (mergeK [] kvs)))) k fun s δ2 us A2 H2 e4 n2 j3 k3 us' eu hl=>?_) n1
    · exact Post.seq (ts:=[.n (.dct []) .own []]) (ws:=[.ref p0]) k2 (ZfA h.pure rfl) j1.lb hb hj (fun a=>rfl) (fun a us H2 q hl=>q us rfl hl)
    · subst eu
      split at k3
      · rename_i hk
        have hH:H2 p0 = some (.dK []):=by
          obtain ⟨f,g,h1,_⟩:=j3.ex
          simp only [Rps,Rp] at h1
          obtain ⟨v0,vs',f1,f2,e,rfl,⟨a',o,us,e',ho,hs,_⟩,_⟩:=h1
          cases e
          cases e'
          obtain ⟨⟨_,hs⟩,_⟩:=hs.own
          rw [ho,hs]
          simp
        refine ⟨hH,s.1.zip us',rfl,?_,?_⟩
        · rw [List.length_zip,← hl,Nat.min_self]; exact hk.2
        · have hm:mergeK [] (s.1.zip us') = s.1.zip us':=by
            have:=Zfc (s.1.zip us') [] (by
              rw [List.nil_append,List.map_fst_zip (by omega)]
              exact hk.1)
            simpa using this
          rw [hm]
          obtain ⟨n3,j4⟩:=j3.fill (k':=.dct s.1) (o':=.dK (s.1.zip us')) ⟨hl,rfl⟩
          exact k3 [.ref p0] A2 _ (n2.trans n3) j4 _ rfl
      · exact k3.elim
def dDict0:DE:=fun δ=>.ok (.n (.dct []) .own []) δ
theorem Zl6:Rd cl xf X W p (.Dict [] [] pos) dDict0:=⟨_,pe_dnewK,⟨fun _ δ=>rfl,fun A L B H δ σ Q j k p0 hp0=>by
  obtain ⟨n1,j1⟩:=j.alloc (k:=.dct []) (o:=.dK []) hp0 ⟨rfl,rfl⟩
  exact k [.ref p0] _ _ n1 j1 _ rfl⟩⟩
def Rpr (cl:Ec) (xf:Nat → List Str) (X:Cx) (W:WX) (p:Bool) (pos:Pos) (ks:List (Option Expr)) (vs:List Expr) (ps:List (PP × DE)):Prop:=∃ trs,PPs X pos ks vs trs ∧ SPr cl xf W p trs ps
theorem pr_nil:Rpr cl xf X W p pos [] [] []:=⟨_,pps_nil,ZnV⟩
theorem Zof {k v:Expr} {ks:List (Option Expr)} {es:List Expr} {kp:PP} {dv:DE} {ps:List (PP × DE)} (hk:Rk cl X k kp) (hv:Rd cl xf X W p v dv) (hr:Rpr cl xf X W p pos ks es ps):Rpr cl xf X W p pos (some k :: ks) (v :: es) ((kp,dv) :: ps):=by
  obtain ⟨ta,h1,h2⟩:=hk
  obtain ⟨tb,h3,h4⟩:=hv
  obtain ⟨trs,h5,h6⟩:=hr
  exact ⟨_,pps_cons h1 h3 h5,ZmR h2 h4 h6⟩
theorem d_disp {ks:List (Option Expr)} {es:List Expr} {ps:List (PP × DE)} (h:Rpr cl xf X W p pos ks es ps) (hall:ks.all (·.isSome) = true:=by rfl) (hl:ks.length = es.length:=by rfl) (h0:ks ≠ []:=by exact fun z=>by cases z) (h15:ks.length ≤ 15:=by decide):Rd cl xf X W p (.Dict ks es pos) (dDisp ps):=by
  obtain ⟨trs,h1,h2⟩:=h
  exact ⟨_,pe_disp h1 hall hl h0 h15,Zn1 h2⟩
theorem ioOk {io:List Bool} {ws:Nat → Bool} (h:(List.range io.length).all (fun i=>!(io.getD i false) || !ws i) = true):∀ (i:Nat),io[i]? = some true → ws i = false:=fun i hi=>by
  have hl:i < io.length:=(List.getElem?_eq_some_iff.mp hi).1
  have h2:=List.all_eq_true.mp h i (List.mem_range.mpr hl)
  have h3:io.getD i false = true:=by rw [List.getD_eq_getElem?_getD,hi]; rfl
  rw [h3] at h2
  simpa using h2
end
end Fs
set_option maxHeartbeats 2000000
namespace Fs
open PySem PySem.Spec PyProof.Rows L2
section
variable {P:Program} {w:World} {K:PySem.W.Frag} {mg mb:Str → Option Value} {CX:CXT} {k:Nat} {fa a:Addr} {fd:FuncData} {x:Str} {sp:Sp} {s:Shared} {us:List Value} {ns:List Int}
/-- from a tracked heap that holds the script alone,or nothing -/
theorem Znr {H:Hp} (KX:K.In s.heap) (hns:s.heap.Ns mainGlobals mg) (hb:s.heap.Ns builtinsNs mb) (hbb:∀ y:Str,y ≠ "__name__" → mb y = bootBuiltins y) (hlim:s.heap.NoLimit) (hg:s.gens = #[])
    (at_a:s.heap.get? a = some { cls:=.type "list",data:=.seq us.toArray }) (room:RoomG k callerA) (F:∀ base:Heap,K.In base → base.Ns mainGlobals mg → FnG P w K mg base CX k fa fd [x] sp) (bnd:∀ (s:Shared) (u:Value),BindsTo s fd ⟨[u],[]⟩ [(x,u)])
    (only:Only H) (want:sp [.ref a] H (fun v _=>v = .bl true) fun _ _ _=>False) (ok:HOk P w H s.heap) (just:∀ c,H c ≠ none → c = a ∧ K.lookup a = none) (out:∀ G u t,CX [] G s (fun _ _ _=>False) u t → False) :
    codeAny (model P w) callerA (.call (.ref fa) ⟨[.ref a],[]⟩) (fun r t=>r = .ok (.ret (.bool true)) ∧ OldK s.heap t.heap ∧ t.os = s.os ∧ AllBare t.gens) s:=by
  have off:∀ {c:Addr} {u:Obj},s.heap.get? c = some u → H c = none → (hidT s.heap H).get? c = some u:=fun z n=>hidT_get z n
  have free:∀ {c:Addr} {u:Obj},s.heap.get? c = some u → (∀ its n,u.data ≠ .seq its n) → H c = none:=by
    intro c u z d
    by_cases q:H c = none
    · exact q
    · obtain ⟨rfl,_⟩:=just c q
      rw [at_a] at z
      cases z
      exact absurd rfl (d _ _)
  have names:∀ {c:Addr} {m:Str → Option Value},s.heap.Ns c m → (hidT s.heap H).Ns c m:=by
    rintro c m ⟨u,es,ep,z,d,r⟩
    exact ⟨u,es,ep,off z (free z fun its n q=>by rw [d] at q; cases q),d,r⟩
  have KB:K.In (hidT s.heap H):=fun c u z=>off (KX c u z) (by
    by_cases q:H c = none
    · exact q
    · obtain ⟨rfl,n⟩:=just c q
      rw [n] at z
      cases z)
  obtain ⟨mc,l1,l2⟩:=hlim
  have E0:Env0 P w K mg (hidT s.heap H) callerA [] s H:=⟨rfl,⟨KB,names hns,⟨mb,names hb,hbb⟩,⟨mc,names l1,l2⟩⟩,fun c u z=>of_hidT z,Nat.le_of_eq (hidT_size _ _),trivial,(fun c hc=>by have hc2:c ∈ ([]:List Addr):=hc; simp at hc2),ok,.of_eq hg⟩
  refine codeAny_mono ((F _ KB (names hns)).go callerA [] s H ⟨[.ref a],[]⟩ [.ref a] [.ref a] _ _ room E0 (bnd s (.ref a)) (.cons rfl .nil) want) fun r t got=>?_
  match r,got with
  | .error u,got=>exact (out H u t got).elim
  | .ok .next,got=>exact got.elim
  | .ok .brk,got=>exact got.elim
  | .ok .cont,got=>exact got.elim
  | .ok (.ret u),got =>
    obtain ⟨v,G,os,bare,un,ok2,rel,q⟩:=got
    cases (show v = .bl true from q)
    cases (show u = Value.bool true from rel)
    refine ⟨rfl,OldK.of_keep fun c o z=>?_,os,bare⟩
    rcases only c with n | ⟨ob,xs,n⟩
    · exact un.keep c o z n (fun y=>by have y2:c ∈ ([]:List Addr):=y; simp at y2) (by simp)
    · have z1:=(ok c _ n).1
      have z2:=(ok2 c _ (un.frzs c ob _ n)).1
      rw [z] at z1
      cases z1
      exact z2
theorem ZlD (KX:K.In s.heap) (hns:s.heap.Ns mainGlobals mg) (hb:s.heap.Ns builtinsNs mb) (hbb:∀ y:Str,y ≠ "__name__" → mb y = bootBuiltins y) (hlim:s.heap.NoLimit) (hg:s.gens = #[])
    (at_a:s.heap.get? a = some { cls:=.type "list",data:=.seq us.toArray }) (hi:IntsAre us ns) (hl:ns.length ≤ sizeLine) (room:RoomG k callerA) (F:∀ base:Heap,K.In base → base.Ns mainGlobals mg → FnG P w K mg base CX k fa fd [x] sp) (bnd:∀ (s:Shared) (u:Value),BindsTo s fd ⟨[u],[]⟩ [(x,u)])
    (hsp:∀ H:Hp,Only H → SqL K H a (ns.map V.int) → sp [.ref a] H (fun v _=>v = .bl true) fun _ _ _=>False) (out:∀ G u t,CX [] G s (fun _ _ _=>False) u t → False) :
    codeAny (model P w) callerA (.call (.ref fa) ⟨[.ref a],[]⟩) (fun r t=>r = .ok (.ret (.bool true)) ∧ OldK s.heap t.heap ∧ t.os = s.os ∧ AllBare t.gens) s:=by
  have rel:=vals_ints hi
  have n:=hi.length
  have core:=fun {H:Hp}=>Znr (H:=H) KX hns hb hbb hlim hg at_a room F bnd
  cases hk:K.lookup a with
  | some o =>
    have z:=KX a o hk
    rw [at_a] at z
    cases z
    have only:Only (fun _=>none):=fun _=>.inl rfl
    exact core only (hsp _ only (.inr ⟨_,us.toArray,_,hk,rfl,rfl,rfl,by rw [List.size_toArray,n]; exact hl,by simpa using rel⟩)) (fun c u z=>by cases z) (fun c z=>absurd rfl z) out
  | none =>
    let H:Hp:=fun c=>if c = a then some (.frz { cls:=.type "list",data:=.seq us.toArray } (.lst (ns.map V.int))) else none
    have h1:H a = some (.frz { cls:=.type "list",data:=.seq us.toArray } (.lst (ns.map V.int))):=if_pos rfl
    have h2:∀ c,c ≠ a → H c = none:=fun c z=>if_neg z
    have only:Only H:=fun c=>by
      by_cases z:c = a
      · subst z; exact .inr ⟨_,_,h1⟩
      · exact .inl (h2 c z)
    refine core only (hsp H only (.inl (.inr ⟨_,h1⟩))) (fun c u z=>?_) (fun c z=>?_) out
    · by_cases y:c = a
      · subst y
        rw [h1] at z
        cases z
        exact ⟨at_a,by rw [List.length_map]; exact hl,us,_,rel,at_a⟩
      · rw [h2 c y] at z; cases z
    · by_cases y:c = a
      · exact ⟨y,hk⟩
      · exact absurd (h2 c y) z
end
theorem walk_G {l:PySem.W.OpenLaw} {n k:Nat} {q:Program} {loose:List Str} {XP:(Str → Option Value) → Heap → Prop} {YP:World → Heap → Prop} {d:DefRec} {CX:World → CXT} {x:Str} (hn:l.most = some n) (hn2:n ≤ sizeLine) (hdf:d.params.defaults = []) (hr:RoomG k callerA)
    (F:∀ (w:World) (mg:Str → Option Value) (fa:Addr) (h:Heap),YP w h → h.Ns mainGlobals mg → mg d.name = some (.ref fa) → ∃ (K:PySem.W.Frag) (fd:FuncData) (sp:Sp),K.In h ∧ (∀ (s:Shared) (u:Value),BindsTo s fd ⟨[u],[]⟩ [(x,u)]) ∧
        (∀ (H:Hp) (a:Addr) (ns:List Int),ns.length ≤ n → Only H → SqL K H a (ns.map V.int) → sp [.ref a] H (fun v _=>v = .bl true) fun _ _ _=>False) ∧ ∀ base:Heap,K.In base → base.Ns mainGlobals mg → FnG l.prog w K mg base (CX w) k fa fd [x] sp)
    (hCX:∀ (w:World) (H:Hp) (s:Shared) (e:Value) (s':Shared),CX w [] H s (fun _ _ _=>False) e s' → False):PySem.W.WalkO q loose XP YP l.row.toRowW d [] (fun f vs=>PySem.call f vs):=by
  refine Att.attach_call hn hdf fun w s₀ s₁ mg mb fa o pm cd doc a vs ns G Y ho hd hcd hmg hobj hints hlen hg=>?_
  obtain ⟨K,fd,sp,KX,hb,hsp,hF⟩:=F w mg fa _ Y G.T.g hmg
  exact ZlD KX G.T.g G.T.b G.T.builtins G.T.nolimit hg hobj hints (Nat.le_trans hlen hn2) hr hF hb (fun H hO hS=>hsp H a ns hlen hO hS) fun H e s'=>hCX w H s₁ e s'
end Fs
namespace Fs
open PySem PySem.Spec PyProof.Rows L2
end Fs
namespace Lw
open PySem PySem.Spec PyProof.Rows L2 Fs
def top (i:Nat):Stmt:=PySem.Challenge.pw_failslack_k08_whole_any_text.main.body.getD i (.Pass ⟨0,0,0,0⟩)
def mth (i j:Nat):Stmt:=match top i with | .ClassDef _ _ _ body _ _ _ _ _ _ _=>body.getD j (.Pass ⟨0,0,0,0⟩) | s=>s
abbrev ZbQ:Stmt:=top 31
abbrev Zbv:Stmt:=top 32
abbrev Z1:Stmt:=top 33
abbrev Zbw:Stmt:=top 34
abbrev Zbh:Stmt:=top 35
abbrev Zbx:Stmt:=top 30
abbrev Z7:Stmt:=top 44
abbrev ZbP:Stmt:=top 11
abbrev Zbt:Stmt:=top 12
abbrev Z0:Stmt:=top 19
abbrev ZbT:Stmt:=top 13
abbrev Zbs:Stmt:=top 20
abbrev Zb6:Stmt:=top 21
abbrev Zbu:Stmt:=top 22
abbrev ZF:Stmt:=mth 23 0
abbrev Zbk:Stmt:=top 14
abbrev Zcj:Stmt:=top 25
abbrev ZX:Stmt:=top 26
abbrev Z9:Stmt:=mth 23 1
abbrev ZbS:Stmt:=top 27
abbrev ZW:Stmt:=top 28
abbrev Z8:Stmt:=top 43
abbrev Zbg:Stmt:=top 36
abbrev ZC:Stmt:=top 37
abbrev Zbi:Stmt:=top 38
abbrev ZY:Stmt:=top 40
abbrev ZbF:Stmt:=top 41
abbrev Zbr:Stmt:=top 42
abbrev Zbl:Stmt:=top 39
abbrev s_law:Stmt:=top 45
abbrev ZI:Stmt:=mth 3 0
abbrev ZQ:Stmt:=mth 4 0
end Lw
set_option maxHeartbeats 2000000
namespace Fs
open PySem PySem.Spec PyProof.Rows L2
/-- the class that is named as the base in B.__init__(self,..) -/
structure BaseI (K:PySem.W.Frag) (C:Addr):Prop where
  ga:PySem.W.specialIn K (.ref C) "__getattribute__" = some (some (.builtin "type.__getattribute__"))
  ty:PySem.W.typeIn K (.ref C) = some (.type "type")
  rd:PySem.W.readsIn K C (.type "type") = true
  fi:PySem.W.findCls K (.ref C) (.type "type") "__init__" = some (.val (.builtin "ValueError.__init__"))
section
variable {X:Cx} {e:Expr} {es:List Expr} {ta:TA} {CB:Addr} {x:Str} {p1 p2 pos:Pos}
theorem Zjb {pl:Sem Bool} (B:BaseI X.K CB) (hg:Gl X x) (hm:X.mg x = some (.ref CB)) (ha:L2.PA X (e :: es) ta)
    (hc:eval (.Call (.Attribute (.Name x p1) "__init__" p2) (e :: es) [] pos) X.env = (do
      let b ← eval (.Name x p1) X.env
      standAt p2.atName
      let (g,one) ← holding [b] (getMethod b "__init__" pl)
      callWith pos g one (backTo pos (starEach (e :: es) X.env)) (backToKw pos (keywordEach [] X.env))):=by rfl)
    (he:starEach (e :: es) X.env = (false,eval e X.env) :: starEach es X.env:=by rfl) (hpl:(backTo pos (starEach es X.env)).any (·.1) = false:=by rfl) (hd:(x == ("__debug__":Str)) = false:=by decide) :
    PE X (.Call (.Attribute (.Name x p1) "__init__" p2) (e :: es) [] pos) (tVeI X.K ta):=⟨fun pins s σ H Q I h=>by
  refine PySem.W.methodCall_KW (ld_glob I hg hm ?_ hd) hc
  obtain ⟨m,fr⟩:=I.fr
  refine PySem.W.method_of_cls fr I.ok.mod.kin B.ga (PySem.W.cls_val fr I.ok.mod.kin B.ty B.rd B.fi (by decide +kernel) ?_)
  show wpAny _ _ (callWith pos (Value.builtin "ValueError.__init__") [] (backTo pos (starEach (e :: es) X.env)) []) _ _ _
  refine PyProof.Rows.callWith_method1 (thn (ha.run pos pins _ σ H _ (I.tok _) h) fun vals s1 hv=>?_) he hpl
  obtain ⟨vs,H1,I1,rel,a,C,ws,rfl,hw,T,at1,fin⟩:=hv
  cases rel with
  | @cons _ u0 _ ur ra rest =>
    cases (show u0 = Value.ref a from ra)
    have hz:ur.length ≤ sizeLine:=by rw [sizeLine_eq]; have:=Paired.length rest; omega
    exact oinit_ok T I1 at1 hz fun s2 J=>⟨.non,H1,J,rfl,fin⟩⟩
end
def spIni (K:PySem.W.Frag) (fs:List Str):Sp:=fun vs H Q _=>∃ (a C:Addr) (ws:List V),vs = .ref a :: ws ∧ ws.length = fs.length ∧ OexC K C ∧ (∀ f ∈ fs,PySem.W.findIn K (.ref C) f = some none) ∧ H a = some (exo a C none) ∧
  ∀ dx H',H dx = none → dx ≠ a → H' a = some (exo a C (some dx)) → H' dx = some (exd dx (fs.zip ws).reverse) → (∀ b,b ≠ a → b ≠ dx → H' b = H b) → Q .non H'
abbrev tIni0 (K:PySem.W.Frag) (m:Str):TS:=tDrop (tVeI K (tCons (tVar 0) (tCons (tC (.str m)) tNil)))
theorem ZoW {K:PySem.W.Frag} {m f g:Str} {D:Ends} {σ:L2.St} {H:Hp} {a C:Addr} {y z:V} (h0:σ[0]? = some (some (.ref a))) (h1:σ[1]? = some (some y)) (h2:σ[2]? = some (some z)) (T:OexC K C) (hf:PySem.W.findIn K (.ref C) f = some none) (hg:PySem.W.findIn K (.ref C) g = some none) (ha:H a = some (exo a C none))
    (k:∀ dx H',H dx = none → dx ≠ a → H' a = some (exo a C (some dx)) → H' dx = some (exd dx [(g,z),(f,y)]) → (∀ b,b ≠ a → b ≠ dx → H' b = H b) → D.nx σ H'):tSeq (tIni0 K m) (tSeq (tOst K f (tVar 0) (tVar 1)) (tOst K g (tVar 0) (tVar 2))) D σ H:=by
  refine ⟨_,h0,?_⟩
  refine ⟨a,C,[.str m],rfl,by simp,T,ha,y,h1,_,h0,a,C,rfl,T,hf,.inl ⟨ha,fun dx n ne=>⟨z,h2,_,h0,a,C,rfl,T,hg,.inr ⟨dx,[(f,y)],upd_same,by rw [upd_ne ne,upd_same],by simp,k dx _ n ne ?_ upd_same fun b hb hd=>?_⟩⟩⟩⟩
  · rw [upd_ne ne.symm,upd_same]
  · rw [upd_ne hd,upd_ne hb,upd_ne hd]
section
variable {P:Program} {w:World} {K:PySem.W.Frag} {mg:Str → Option Value} {base:Heap} {x qual:Str} {params:Arguments} {body:List Stmt} {scope:Scope} {dvs:List V} {kws:List (Str × V)} {f:Addr} {fd:FuncData} {N:List Str} {k:Nat} {m g1 g2:Str}
theorem Zl1 (Fd:FunD K x qual params body scope dvs kws f fd) (S:FnScope N N scope) (hN:N.length = 3)
    (hb:∀ (cdv:Value) (A:Around) (outer:List Env) (s:Shared) (H:Hp) (E:XK),PSs (cxOf (L2.CX P w) P w K mg base N qual scope f cdv A outer s H E) body (tSeq (tIni0 K m) (tSeq (tOst K g1 (tVar 0) (tVar 1)) (tOst K g2 (tVar 0) (tVar 2))))):FnOk P w K mg base (L2.CX P w) (k + 1) f fd N (spIni K [g1,g2]):=by
  refine Fd.ok S (fun vs H Q E h=>?_) (fun cdv A outer s H vs Q E hr h=>⟨_,hb cdv A outer s H E,?_⟩)
  · obtain ⟨a,C,ws,rfl,hl,_⟩:=h
    simp at hl ⊢
    omega
  · obtain ⟨a,C,ws,rfl,hl,T,hf,ha,kk⟩:=h
    match ws,hl with
    | [y,z],_ =>
      refine ZoW (y:=y) (z:=z) rfl rfl rfl T (hf _ List.mem_cons_self) (hf _ (List.mem_cons_of_mem _ List.mem_cons_self)) ha fun dx H' n ne e1 e2 e3=>?_
      exact kk dx H' n ne e1 (by simpa using e2) e3
end
section
variable {cl:Ec} {xf:Nat → List Str} {W:WX} {ws:Nat → Bool} {A A' L B:Addr → Prop} {H H':Hp} {δ δ':Sl} {σ σ':L2.St} {p:Bool} {tA:TA}
theorem Jt.grow {ts:List D} {vs:List V} {p0:Addr} {o:HO} (j:Jt p cl A L B H ts vs δ σ) (hp:H p0 = none):Nx A B H A (upd H p0 o) ∧ Jt p cl A L B (upd H p0 o) ts vs δ σ:=by
  have ne:∀ a,A a → a ≠ p0:=fun a ha z=>j.ad a ha (by rw [z]; exact hp)
  have n:Nx A B H A (upd H p0 o):=⟨fun a h=>.inl h,fun a u h _ _=>by rw [upd_ne (fun z=>by rw [z,hp] at h; cases h)]; exact h,fun a h=>⟨upd_ne (ne a (j.ba a h)),j.ba a h⟩,fun a h=>by
    by_cases z:a = p0
    · rw [z]; exact hp
    · rw [upd_ne z] at h; exact h⟩
  obtain ⟨f,g,h1,h2,h3,h4,h5⟩:=j.ex
  refine ⟨n,⟨f,g,h1.step n.both (fun a ha=>⟨upd_ne (ne a (h1.inA a ha).1),(h1.inA a ha).1⟩) (by simp),h2.step n.both (fun a ha=>⟨upd_ne (ne a (h2.inA a ha).1),(h2.inA a ha).1⟩) (fun a h=>⟨upd_ne (ne a (j.ba a (j.lb a h))),h⟩),h3,h4,h5⟩,j.lb,j.ba,fun a ha=>by rw [upd_ne (ne a ha)]; exact j.ad a ha,j.tb.grow (Ex.new hp) fun a h=>.inl h⟩
theorem ZhG:∀ {l:List (Str × V)} {n:Str} {v:V},(l.map (·.1)).Nodup → (n,v) ∈ l → l.lookup n = some v
  | [],n,v,_,h=>by cases h
  | (m,u) :: l,n,v,nd,h=>by
    simp only [List.map_cons,List.nodup_cons] at nd
    rcases List.mem_cons.mp h with e | h
    · cases e; simp [List.lookup]
    · have ne:n ≠ m:=fun z=>nd.1 (List.mem_map.mpr ⟨(n,v),h,z⟩)
      have hb:(n == m) = false:=by simpa using ne
      simp only [List.lookup,hb]
      exact ZhG nd.2 h
def Zbz (c n:Nat) (da:DA):DS:=fun δ=>(da δ).bind fun xs δ1=>if xs.length = n then .exc c xs δ1 else .bad
theorem ZmQ {c n:Nat} {da:DA} (ha:SA cl xf W false tA da) (T:OexC cl.K (cl.c c)) (hf:∀ f ∈ xf c,PySem.W.findIn cl.K (.ref (cl.c c)) f = some none) (hn:(xf c).length = n) (hn2:n ≤ 1000) (nd:(xf c).Nodup) :
    SS cl xf W ws (fun _ σ H=>tMkO (cl.c c) (spIni cl.K (xf c)) [] tA σ H fun k d H'=>W k d σ H') (Zbz c n da):=fun A L B H δ σ E j k=>by
  refine ha.run A L B H δ σ _ j ?_
  unfold Zbz at k
  refine PostS.bind (den0:=id) k fun xs δ1 vs A1 H1 e n1 j1 k1=>?_
  split at k1
  · rename_i hl
    have hv:vs.length = xs.length:=by
      obtain ⟨f,g,h1,_⟩:=j1.ex
      exact h1.length.symm
    refine ⟨by omega,fun a ha=>⟨a,cl.c c,vs ++ [],rfl,by simp; omega,T,hf,upd_same,fun dx H' hd ne e1 e2 e3=>⟨rfl,dx,_,e1,e2,?_,?_⟩⟩⟩
    · rw [upd_ne ne] at hd; exact hd
    · have hd1:H1 dx = none:=by rw [upd_ne ne] at hd; exact hd
      have eH:upd (del H' a) dx (.xd ((xf c).zip (vs ++ [])).reverse) = upd H1 dx (.xd ((xf c).zip (vs ++ [])).reverse):=by
        funext b
        by_cases hb:b = dx
        · rw [hb,upd_same,upd_same]
        · rw [upd_ne hb,upd_ne hb]
          by_cases hb2:b = a
          · rw [hb2,del_same,ha]
          · rw [del_ne hb2,e3 b hb2 hb,upd_ne hb2]
      rw [eH]
      obtain ⟨n2,j2⟩:=j1.grow (o:=.xd ((xf c).zip (vs ++ [])).reverse) hd1
      refine k1 (some dx) vs A1 _ σ (n1.trans n2) (Kp.refl σ) (.inr ⟨dx,_,rfl,upd_same,fun z=>j1.ad dx z hd1,by omega,fun i nm v q1 q2=>?_⟩) j2
      rw [List.append_nil]
      refine ZhG ?_ ?_
      · rw [List.map_reverse,(List.reverse_perm _).nodup_iff,List.map_fst_zip (by omega)]
        exact nd
      · rw [List.mem_reverse]
        refine List.mem_of_getElem? (i:=i) ?_
        rw [List.getElem?_zip_eq_some]
        exact ⟨q1,q2⟩
  · exact k1.elim
end
end Fs
set_option maxHeartbeats 2000000
namespace Fs
open PySem PySem.Spec PyProof.Rows L2
structure Cl where
  c:Value
  i:Option Nat
  ts:Addr → Value → Option Addr → TS
def Cl.fin (q:Cl) (D:Ends):Ends:=match q.i with
  | none=>D
  | some i=>{ nx:=fun τ G=>D.nx (τ.set i none) G,rt:=D.rt,bk:=fun τ G=>D.bk (τ.set i none) G,ct:=fun τ G=>D.ct (τ.set i none) G }
def Cl.put (q:Cl) (σ:L2.St) (a:Addr):L2.St:=match q.i with
  | none=>σ
  | some i=>σ.set i (some (.ref a))
def wCl (K:PySem.W.Frag) (Wout:WX) (D:Ends):List Cl → WX
  | []=>Wout
  | q :: r=>fun cls d σ H=>∃ b,PySem.W.exmOne K cls q.c = some b ∧ (b = true → ∀ a,H a = none → q.ts a cls d (q.fin D) (q.put σ a) H) ∧ (b = false → wCl K Wout D r cls d σ H)
/-- a clause's block,whatever was caught -/
def Blk (X:Cx) (st:List Stmt) (ts:Addr → Value → Option Addr → TS):Prop:=∀ (a:Addr) (oe:Obj) (cls:Value) (d:Option Addr) (pn:List (Addr × Obj)),Zc cls d oe → (∃ vs,oe.data = .fields vs) → PSs (X.suite a ((a,oe) :: pn)) st (ts a cls d)
inductive ClOk (X:Cx):List ExceptHandler → List Cl → Prop
  | nil:ClOk X [] []
  | bare {x:Str} {c:Value} {ts:Addr → Value → Option Addr → TS} {st:Stmt} {sts:List Stmt} {np q:Pos} {hds:List ExceptHandler} {l:List Cl} (nm:Names X x c) (bl:Blk X (st :: sts) ts) (r:ClOk X hds l):ClOk X (.ExceptHandler (some (.Name x np)) none (st :: sts) q :: hds) (⟨c,none,ts⟩ :: l)
  | named {x n:Str} {c:Value} {i:Nat} {ts:Addr → Value → Option Addr → TS} {st:Stmt} {sts:List Stmt} {np q:Pos} {hds:List ExceptHandler} {l:List Cl} (nm:Names X x c) (hi:X.N[i]? = some n) (hl:X.env.kindOf n = some .local) (bl:Blk X (st :: sts) ts) (r:ClOk X hds l) :
      ClOk X (.ExceptHandler (some (.Name x np)) (some n) (st :: sts) q :: hds) (⟨c,some i,ts⟩ :: l)
section
variable {X:Cx} {body:List Stmt} {h0:ExceptHandler} {hds:List ExceptHandler} {l:List Cl} {pos:Pos} {tb:WX → TS} {Wout:WX}
theorem Zlg (hs:X.stack = X.env :: X.outer) (hf:X.env.frame = some X.env.locals) (hN:X.N.Nodup) (tk:Takes X Wout)
    (hb:∀ (W:WX) (pn:List (Addr × Obj)) (xe:Value → Shared → Prop),Takes (X.tr pn xe) W → PassesOwn (model X.prog X.w) X.A X.env xe → PSs (X.tr pn xe) body (tb W)) (hh:ClOk X (h0 :: hds) l) :
    PS X (.Try body (h0 :: hds) [] [] pos) (fun D σ H=>tb (wCl X.K Wout D l) D σ H):=⟨fun pins s σ H D I h=>by
  have fr:X.A.frames = some (X.env :: X.outer):=by rw [I.ok.frames,hs]
  refine wpAny_Try_except (wpAny_mono ((hb (wCl X.K Wout D l) (X.pn ++ pins) (fun u t1=>wpAny (model X.prog X.w) X.A (noteFrame u X.env) (fun _ t2=>wpAny (model X.prog X.w) X.A (setFlight u none) (fun _ t3=>wpAny (model X.prog X.w) X.A (handleBy u X.env (h0 :: hds)) (L2.SP X pins D) X.xe t3) X.xe t2) X.xe t1) (fun u t1 caught=>?_) PassesOwn.looking).run [] s σ H D (I.toTry _) h) (fun fl t1 out=>?_) (fun _ _ z=>z))
  · obtain ⟨a,G,tI,_,σ1,H1,cls,d,rfl,K0,nb,up,sky,na,os,ag,want⟩:=caught
    have J:=K0.ofTry I.ok
    refine Sky.land Zc.steady fr hf (by rw [← hs]; exact sky) fun g1 fly up1=>?_
    have J1:Inv X pins σ1 H1 { t1 with heap:=g1 }:=J.landed nb fly.1 (up.trans up1) os ag
    obtain ⟨oe,vs,at1,hz,hd⟩:=fly.there
    have out1:a ∉ frs (X.env :: X.outer):=fun m=>by
      obtain ⟨_,o',e',no⟩:=fly.2.2.1.mem m
      rw [at1] at e'
      cases e'
      exact no _ hd
    have nL:a ≠ X.env.locals:=fun z=>out1 (List.mem_filterMap.mpr ⟨X.env,List.mem_cons_self,by rw [hf,z]⟩)
    have nF:a ∉ X.fs:=fun m=>by
      obtain ⟨v,hv,q⟩:=List.mem_filterMap.mp m
      exact out1 (List.mem_filterMap.mpr ⟨v,List.mem_cons_of_mem _ hv,q⟩)
    have S1:=J1.suite at1 hd na nL nF
    have ty:PySem.W.Looks (model X.prog X.w) g1 (typeOf (.ref a)) cls:=fun _ _ _ _ k q=>wpAny_typeOf_ref (k _ _ at1) (by rw [hz.1]; exact q)
    have named:∀ {x:Str} {c:Value} {np:Pos} {Q:Value → Shared → Prop} {E:Value → Shared → Prop},Names X x c → Q c { t1 with heap:=g1 } → wpAny (model X.prog X.w) (X.A.mark (some (.ref a))) (eval (.Name x np) X.env) Q E { t1 with heap:=g1 }:=fun nm q=>by
      obtain ⟨n1,n2,n3 | ⟨n3,n4,n5⟩⟩:=nm
      · exact ld_glob (X:=X.suite a ((a,oe) :: (X.pn ++ pins))) S1 n1 n3 q n2
      · exact ld_blt (X:=X.suite a ((a,oe) :: (X.pn ++ pins))) S1 n1 n3 n4 q n5 n2
    have walk:∀ {hs':List ExceptHandler} {l':List Cl},ClOk X hs' l' → wCl X.K Wout D l' cls d σ1 H1 → wpAny (model X.prog X.w) X.A (handleBy (.ref a) X.env hs') (L2.SP X pins D) X.xe { t1 with heap:=g1 }:=by
      intro hs' l' ok
      induction ok with
      | nil =>
        intro want
        refine wpAny_handleBy_nil ?_
        obtain ⟨_,_,_,oe',vs',T,_,_,at',_,hd',one,_⟩:=id fly
        unfold PySem.passOn
        refine wpAny_bind (wpAny_field at' hd' one ?_)
        rw [if_neg (fun z=>by simp at z)]
        have last:wpAny (model X.prog X.w) X.A (setFlight (.ref a) X.env.frame) (fun _ t4=>wpAny (model X.prog X.w) X.A (throw (.ref a):Sem PySem.Flow) (L2.SP X pins D) X.xe t4) X.xe { t1 with heap:=g1 }:=by
          rw [hf]
          refine HandSPX.setFlight_upZ fly fun g2 held up2=>wpAny_throw (tk _ _ ⟨a,G,tI,pins,σ1,H1,cls,d,rfl,J,nb,(up.trans up1).trans up2,.inr (.inr ?_),na,os,ag,want⟩)
          rw [hs]
          exact held
        first | exact wpAny_bind (wpAny_pure (wpAny_bind last)) | exact wpAny_bind last
      | @bare x c ts st sts np q hds2 l2 nm bl r ih =>
        intro want
        obtain ⟨b,is,yes,no⟩:=want
        refine wpAny_handleBy_cons (codeAny_handlers_test (named nm ((PySem.W.exm_one (M:=model X.prog X.w) J1.kIn ty is).here ?_))) (fun z=>by cases z)
        cases b with
        | false=>exact ih (no rfl)
        | true =>
          refine codeAny_handlers_suite (HandSPX.lands_againZ fly fun g2 fly2 up2=>?_)
          have J2:Inv X pins σ1 H1 { t1 with heap:=g2 }:=J.landed nb fly2.1 ((up.trans up1).trans up2) os ag
          obtain ⟨oe2,vs2,at2,hz2,hd2⟩:=fly2.there
          refine wpAny_mono ((bl a oe2 cls d (X.pn ++ pins) hz2 ⟨_,hd2⟩).run [] _ _ H1 _ (J2.suite at2 hd2 na nL nF) (yes rfl a na)) (fun fl t6 o6=>?_) (fun _ _ z=>False.elim z)
          cases fl with
          | next=>obtain ⟨τ,G6,S6,q6⟩:=o6; exact ⟨_,_,S6.unsuite I.ok,q6⟩
          | brk=>obtain ⟨τ,G6,S6,q6⟩:=o6; exact ⟨_,_,S6.unsuite I.ok,q6⟩
          | cont=>obtain ⟨τ,G6,S6,q6⟩:=o6; exact ⟨_,_,S6.unsuite I.ok,q6⟩
          | ret u=>obtain ⟨v6,τ,G6,S6,r6,q6⟩:=o6; exact ⟨_,_,_,S6.unsuite I.ok,r6,q6⟩
      | @named x n c i ts st sts np q hds2 l2 nm hi hl bl r ih =>
        intro want
        obtain ⟨b,is,yes,no⟩:=want
        refine wpAny_handleBy_cons (codeAny_handlers_test (named nm ((PySem.W.exm_one (M:=model X.prog X.w) J1.kIn ty is).here ?_))) (fun z=>by cases z)
        cases b with
        | false=>exact ih (no rfl)
        | true =>
          refine codeAny_handlers_suite_as (HandSPX.lands_againZ fly fun g2 fly2 up2=>?_)
          have J2:Inv X pins σ1 H1 { t1 with heap:=g2 }:=J.landed nb fly2.1 ((up.trans up1).trans up2) os ag
          obtain ⟨oe2,vs2,at2,hz2,hd2⟩:=fly2.there
          refine store_ok (X:=X.suite a ((a,oe2) :: (X.pn ++ pins))) (v:=.ref a) (J2.suite at2 hd2 na nL nF) hN hi (.inl hl) rfl (fun t5 S5=>?_) (.inr hl)
          refine wpAny_mono ((bl a oe2 cls d (X.pn ++ pins) hz2 ⟨_,hd2⟩).run [] t5 _ H1 _ S5 (yes rfl a na)) (fun fl t6 o6=>?_) (fun _ _ z=>False.elim z)
          cases fl with
          | next=>obtain ⟨τ,G6,S6,q6⟩:=o6; exact gone_ok (S6.unsuite I.ok) hN hi hl fun t7 J7=>⟨_,_,J7,q6⟩
          | brk=>obtain ⟨τ,G6,S6,q6⟩:=o6; exact gone_ok (S6.unsuite I.ok) hN hi hl fun t7 J7=>⟨_,_,J7,q6⟩
          | cont=>obtain ⟨τ,G6,S6,q6⟩:=o6; exact gone_ok (S6.unsuite I.ok) hN hi hl fun t7 J7=>⟨_,_,J7,q6⟩
          | ret u=>obtain ⟨v6,τ,G6,S6,r6,q6⟩:=o6; exact gone_ok (S6.unsuite I.ok) hN hi hl fun t7 J7=>⟨_,_,_,J7,r6,q6⟩
    exact walk hh want
  · cases fl with
    | next=>obtain ⟨τ,G,J,q⟩:=out; exact wpAny_execs_nil ⟨τ,G,J.ofTry I.ok,q⟩
    | brk=>obtain ⟨τ,G,J,q⟩:=out; exact ⟨τ,G,J.ofTry I.ok,q⟩
    | cont=>obtain ⟨τ,G,J,q⟩:=out; exact ⟨τ,G,J.ofTry I.ok,q⟩
    | ret u=>obtain ⟨v,τ,G,J,r,q⟩:=out; exact ⟨v,τ,G,J.ofTry I.ok,r,q⟩⟩
end
end Fs
set_option maxHeartbeats 2000000
namespace Fs
open PySem PySem.Spec PyProof.Rows L2
/-- slot i holds the exception at a; d is its dict; xs are its fields -/
structure Hld (cl:Ec) (xf:Nat → List Str) (i:Option Nat) (a:Addr) (d:Option Addr) (c:Nat) (xs:List D) (vs:List V) (A L:Addr → Prop) (H:Hp) (σ:L2.St):Prop where
  sl:∀ k,i = some k → σ[k]? = some (some (.ref a))
  xa:XAt xf A H c vs d
  rp:Rps cl A L H false xs vs []
section
variable {cl:Ec} {xf:Nat → List Str} {ws:Nat → Bool} {A A' L B:Addr → Prop} {H H':Hp} {δ δ':Sl} {σ σ':L2.St} {i:Option Nat} {a:Addr} {d:Option Addr} {c:Nat} {xs:List D} {vs:List V} {te ta tb:TE} {tA:TA} {tt tu:TT} {t u:TS}
theorem XAt.step {us:List V} (h:XAt xf A H c us d) (n:Nx A B H A' H'):XAt xf A' H' c us d:=by
  rcases h with h | ⟨dd,fs,h1,h2,h3,h4⟩
  · exact .inl h
  · exact .inr ⟨dd,fs,h1,n.keep dd _ h2 h3 (by intro _ z; cases z),(n.both dd _ h2 h3 (by intro _ z; cases z)).2,h4⟩
theorem Hld.step (h:Hld cl xf i a d c xs vs A L H σ) (n:Nx A B H A' H') (k:Kp ws σ σ') (hw:∀ k,i = some k → ws k = false):Hld cl xf i a d c xs vs A' L H' σ' :=
  ⟨fun j e=>by rw [k.2 j (hw j e)]; exact h.sl j e,h.xa.step n,h.rp.step n.both (by simp) (by simp)⟩
def HP (cl:Ec) (P:(Addr → Prop) → (Addr → Prop) → Hp → L2.St → Prop) (te:TE) (f:PP):Prop:=∀ A L H δ σ g d Q,Rpo cl A L H δ σ g → P A L H σ → f δ = some d → (∀ v fp,Rp cl A L H true d v fp → (∀ a ∈ fp,a ∈ g) → Q v H) → te σ H Q
def HL (cl:Ec) (P:(Addr → Prop) → (Addr → Prop) → Hp → L2.St → Prop) (ta:TA) (f:Sl → Option (List D)):Prop:=∀ A L H δ σ g ds R,Rpo cl A L H δ σ g → P A L H σ → f δ = some ds → (∀ us,Rps cl A L H false ds us [] → R us H) → ta σ H R
def HE (cl:Ec) (xf:Nat → List Str) (P:(Addr → Prop) → (Addr → Prop) → Hp → L2.St → Prop) (te:TE) (de:DE):Prop:=∀ A L B H δ σ Q,Jt false cl A L B H [] [] δ σ → P A L H σ → PostE cl xf W0 false (de δ) A L B H σ Q → te σ H Q
def HS (cl:Ec) (xf:Nat → List Str) (ws:Nat → Bool) (P:(Addr → Prop) → (Addr → Prop) → Hp → L2.St → Prop) (t:TS) (ds:DS):Prop:=∀ A L B H δ σ E,Jt false cl A L B H [] [] δ σ → P A L H σ → PostS cl xf W0 ws (ds δ) A L B H σ E → t E σ H
variable {P:(Addr → Prop) → (Addr → Prop) → Hp → L2.St → Prop}
theorem hp_of {f:PP} (h:SP cl te f):HP cl P te f:=fun A L H δ σ g d Q r _ e k=>h A L H δ σ g d Q r e k
/-- e.f -/
theorem hp_fld {k n:Nat} {f:Str} (hi:i = some k) (hf:(xf c)[n]? = some f):HP cl (Hld cl xf i a d c xs vs) (tXf a (.ref (cl.c c)) d (cl.c c) f (tVar k)) (fun _=>xs[n]?):=fun A L H δ σ g z Q r hp e kk=>by
  obtain ⟨v,f1,g1,g2,g3⟩:=hp.rp.get e
  refine ⟨_,hp.sl k hi,rfl,rfl,?_⟩
  rcases hp.xa with ⟨q,_⟩ | ⟨dd,fs,e1,e2,_,_,e4⟩
  · rw [q] at hf; cases hf
  · exact ⟨dd,fs,v,e1,e2,e4 n f v hf g1,kk v f1 g2.weak fun b hb=>by have:=g3 b hb; cases this⟩
theorem hl_nil:HL cl P tNil (fun _=>some []):=fun A L H δ σ g ds R r hp e k=>by cases e; exact k [] (by simp [Rps])
def lCons (pa:PP) (r:Sl → Option (List D)):Sl → Option (List D):=fun δ=>((pa δ).filter D.kept).bind fun x=>(r δ).map fun xs=>x :: xs
theorem ZoX {pa:PP} {rs:Sl → Option (List D)} (ha:HP cl P ta pa) (hr:HL cl P tA rs):HL cl P (tCons ta tA) (lCons pa rs):=fun A L H δ σ g ds R r hp e k=>by
  obtain ⟨x,e1,e2⟩:=Option.bind_eq_some_iff.mp e
  obtain ⟨xs,e3,rfl⟩:=Option.map_eq_some_iff.mp e2
  obtain ⟨e4,e5⟩:=Option.filter_eq_some_iff.mp e1
  refine ha A L H δ σ g x _ r hp e4 fun v fp h1 _=>hr A L H δ σ g xs _ r hp e3 fun us h2=>k (v :: us) ?_
  obtain ⟨h3,rfl⟩:=h1.strong e5
  simp only [Rps]
  exact ⟨v,us,[],[],rfl,rfl,h3,h2⟩
def dL (f:Sl → Option (List D)):DA:=fun δ=>Out.ofO (f δ) δ
theorem he_f {rs:Sl → Option (List D)} {R:List V → Hp → VK → Prop} {F:List D → Option D} (ho:FOp cl R F) (hr:HL cl P tA rs):HE cl xf P (tF R tA) (dF F (dL rs)):=fun A L B H δ σ Q j hp k=>by
  unfold dF dL at k
  cases e:rs δ with
  | none=>rw [e] at k; exact k.elim
  | some ds =>
    rw [e] at k
    obtain ⟨z,e2,k2⟩:=Post.ofO (show Post cl xf W0 false (Out.ofO (F ds) δ) d1s A L B H σ _ from k)
    obtain ⟨g,r,nd,hb⟩:=j.drop0
    refine hr A L H δ σ g ds _ r hp e fun us h1=>?_
    have j1:Jt false cl A L B H ds us δ σ:=⟨⟨[],g,h1,r,by simpa using nd,by simp,hb⟩,j.lb,j.ba,j.ad,j.tb⟩
    exact ho false A L B H δ σ ds us z Q j1 e2 fun v A2 H2 n2 j2=>k2 [v] A2 H2 n2 j2 v rfl
theorem he_p {pa:PP} (ha:HP cl P ta pa):HE cl xf P ta (dP pa):=fun A L B H δ σ Q j hp k=>by
  obtain ⟨x,e,k2⟩:=Post.ofO (show Post cl xf W0 false (Out.ofO ((pa δ).filter D.kept) δ) d1s A L B H σ _ from k)
  obtain ⟨e4,e5⟩:=Option.filter_eq_some_iff.mp e
  obtain ⟨g,r,_,_⟩:=j.drop0
  exact ha A L H δ σ g x _ r hp e4 fun v fp h1 _=>k2 [v] A H (Nx.refl j.ba) (j.kept e5 h1) v rfl
theorem hs_asg {e:DE} {g:TG} {tg:D → Sl → Option Sl} (he:HE cl xf P te e) (hg:SG cl ws g tg):HS cl xf ws P (tAsg te g) (dsAsg e tg):=fun A L B H δ σ E j hp k=>by
  refine he A L B H δ σ _ j hp (PostS.bind k fun x δ1 us A1 H1 e1 n1 j1 k1 v ev=>?_)
  subst ev
  split at k1
  · rename_i δ2 e2
    exact hg false A1 L B H1 δ1 δ2 σ x v _ j1 e2 fun σ2 kp j2=>k1 A1 H1 σ2 n1 kp j2
  · exact k1.elim
theorem hs_seq {x y:DS} (st:∀ A L B H σ A' H' σ',P A L H σ → Nx A B H A' H' → Kp ws σ σ' → P A' L H' σ') (ha:HS cl xf ws P t x) (hb:HS cl xf ws P u y):HS cl xf ws P (tSeq t u) (dsSeq x y):=fun A L B H δ σ E j hp k=>by
  refine ha A L B H δ σ _ j hp ?_
  unfold dsSeq at k
  cases e:x δ with
  | bad=>rw [e] at k; exact k
  | exc c xs s=>rw [e] at k; exact k
  | ok f s =>
    rw [e] at k
    simp only [Out.bind] at k
    cases f with
    | nx=>exact fun A2 H2 σ2 n2 k2 j2=>hb A2 L B H2 s σ2 E j2 (st A L B H σ A2 H2 σ2 hp n2 k2) (PostS.step k n2 k2)
    | bk=>exact k
    | ct=>exact k
    | rt d=>exact k
end
end Fs
set_option maxHeartbeats 2000000
namespace Fs
open PySem PySem.Spec PyProof.Rows L2
structure Hn where
  m:Nat → Bool
  i:Option Nat
  h:List D → DS
def wipeI (i:Option Nat) (δ:Sl):Sl:=match i with | none=>δ | some k=>δ.set k none
def okI (i:Option Nat) (δ:Sl):Bool:=match i with | none=>true | some k=>decide (k < δ.length)
def Out.behind (i:Option Nat):Out Flow → Out Flow
  | .ok f δ=>.ok f (wipeI i δ)
  | .exc _ _ _=>.bad
  | .bad=>.bad
def pick (c:Nat) (xs:List D):List Hn → Sl → Out Flow
  | [],δ=>.exc c xs δ
  | q :: r,δ=>if q.m c then (if okI q.i δ then (q.h xs (wipeI q.i δ)).behind q.i else .bad) else pick c xs r δ
def dsTry (n:Nat → Bool) (body:DS) (hs:List Hn):DS:=fun δ=>match body δ with
  | .exc c xs δ1=>if n c = true ∧ xs.all D.kept = true then pick c xs hs δ1 else .bad
  | o=>o
section
variable {cl:Ec} {xf:Nat → List Str} {W:WX} {ws:Nat → Bool} {A A' L B:Addr → Prop} {H H':Hp} {δ δ':Sl} {σ σ':L2.St} {p:Bool}
def less (ws:Nat → Bool) (i:Option Nat):Nat → Bool:=fun k=>ws k && decide (i ≠ some k)
/-- a clause against its data -/
structure HnOk (cl:Ec) (xf:Nat → List Str) (ws:Nat → Bool) (n:Nat → Bool) (q:Cl) (h:Hn):Prop where
  ei:q.i = h.i
  wi:∀ k,h.i = some k → ws k = true
  is:∀ c,n c = true → PySem.W.exmOne cl.K (.ref (cl.c c)) q.c = some (h.m c)
  run:∀ a d c xs vs,n c = true → h.m c = true → HS cl xf (less ws h.i) (Hld cl xf h.i a d c xs vs) (q.ts a (.ref (cl.c c)) d) (h.h xs)
inductive HnsOk (cl:Ec) (xf:Nat → List Str) (ws:Nat → Bool) (n:Nat → Bool):List Cl → List Hn → Prop
  | nil:HnsOk cl xf ws n [] []
  | cons {q:Cl} {h:Hn} {l:List Cl} {hs:List Hn} (x:HnOk cl xf ws n q h) (r:HnsOk cl xf ws n l hs):HnsOk cl xf ws n (q :: l) (h :: hs)
theorem Jt.gone {ts:List D} {vs:List V} {k:Nat} {x:Option V} (j:Jt p cl A L B H ts vs δ σ):Jt p cl A L B H ts vs (δ.set k none) (σ.set k x):=by
  by_cases hk:k < δ.length
  · exact j.clear.blur (by rw [List.getElem?_set_self hk])
  · have hl:=j.slots
    rw [List.set_eq_of_length_le (by omega),List.set_eq_of_length_le (by omega)]
    exact j
theorem Kp.behind {k:Nat} {τ:L2.St} {x y:Option V} (hw:ws k = true) (k1:Kp ws σ σ') (k2:Kp (less ws (some k)) (σ'.set k x) τ):Kp ws σ (τ.set k y):=by
  refine ⟨by rw [List.length_set,k2.1,List.length_set]; exact k1.1,fun m hm=>?_⟩
  have ne:k ≠ m:=fun z=>by rw [z,hm] at hw; cases hw
  rw [List.getElem?_set_ne ne,k2.2 m (by simp [less,hm]),List.getElem?_set_ne ne]
  exact k1.2 m hm
theorem Kp.weak {ws':Nat → Bool} (k:Kp ws' σ σ') (h:∀ m,ws m = false → ws' m = false):Kp ws σ σ':=⟨k.1,fun m hm=>k.2 m (h m hm)⟩
theorem Zlh {n:Nat → Bool} {c:Nat} {xs:List D} {vs:List V} {d:Option Addr} {E:Ends} (hc:n c = true) (hk:xs.all D.kept = true) (xa:XAt xf A H c vs d) (j:Jt false cl A L B H xs vs δ σ):∀ {l:List Cl} {hs:List Hn},HnsOk cl xf ws n l hs → PostS cl xf W ws (pick c xs hs δ) A L B H σ E → wCl cl.K W E l (.ref (cl.c c)) d σ H
  | _,_,.nil,k=>k d vs A H σ (Nx.refl j.ba) (Kp.refl σ) xa j
  | q :: l,h :: hs,.cons x r,k=>by
    refine ⟨h.m c,x.is c hc,fun hm a ha=>?_,fun hm=>?_⟩
    · unfold pick at k
      rw [if_pos hm] at k
      split at k
      · rename_i hi
        have rp:Rps cl A L H false xs vs []:=by
          obtain ⟨f,g,h1,_⟩:=j.ex
          exact h1.keptS hk
        have j0:=j.drop
        cases e:h.i with
        | none =>
          rw [e] at k hi
          have hq:q.i = none:=x.ei.trans e
          have ep:q.put σ a = σ:=by unfold Cl.put; rw [hq]
          have ef:q.fin E = E:=by unfold Cl.fin; rw [hq]
          rw [ep,ef]
          have run:=x.run a d c xs vs hc hm
          rw [e] at run
          refine run A L B H δ σ E j0 ⟨(fun m z=>by cases z),xa,rp⟩ ?_
          have wk:∀ {τ τ':L2.St},Kp (less ws none) τ τ' → Kp ws τ τ':=fun kp=>kp.weak fun m hm=>by simp [less,hm]
          simp only [wipeI] at k
          cases o:h.h xs δ with
          | bad=>rw [o] at k; exact k
          | exc c' xs' s=>rw [o] at k; exact k.elim
          | ok f s =>
            rw [o] at k
            cases f with
            | nx=>exact fun A2 H2 τ n2 k2 j2=>k A2 H2 τ n2 (wk k2) j2
            | bk=>exact fun A2 H2 τ n2 k2 j2=>k A2 H2 τ n2 (wk k2) j2
            | ct=>exact fun A2 H2 τ n2 k2 j2=>k A2 H2 τ n2 (wk k2) j2
            | rt z=>exact fun v A2 H2 τ n2 k2 j2=>k v A2 H2 τ n2 (wk k2) j2
        | some m =>
          rw [e] at k hi
          have hq:q.i = some m:=x.ei.trans e
          have hw:=x.wi m e
          have hlt:m < σ.length:=by rw [← j.slots]; exact of_decide_eq_true hi
          have ep:q.put σ a = σ.set m (some (.ref a)):=by unfold Cl.put; rw [hq]
          have ef:q.fin E = { nx:=fun τ G=>E.nx (τ.set m none) G,rt:=E.rt,bk:=fun τ G=>E.bk (τ.set m none) G,ct:=fun τ G=>E.ct (τ.set m none) G }:=by unfold Cl.fin; rw [hq]
          rw [ep,ef]
          have run:=x.run a d c xs vs hc hm
          rw [e] at run
          refine run A L B H (δ.set m none) (σ.set m (some (.ref a))) _ j0.gone ⟨(fun m' z=>by cases z; rw [List.getElem?_set_self hlt]),xa,rp⟩ ?_
          simp only [wipeI] at k
          cases o:h.h xs (δ.set m none) with
          | bad=>rw [o] at k; exact k
          | exc c' xs' s=>rw [o] at k; exact k.elim
          | ok f s =>
            rw [o] at k
            cases f with
            | nx=>exact fun A2 H2 τ n2 k2 j2=>k A2 H2 (τ.set m none) n2 (Kp.behind hw (Kp.refl σ) k2) j2.gone
            | bk=>exact fun A2 H2 τ n2 k2 j2=>k A2 H2 (τ.set m none) n2 (Kp.behind hw (Kp.refl σ) k2) j2.gone
            | ct=>exact fun A2 H2 τ n2 k2 j2=>k A2 H2 (τ.set m none) n2 (Kp.behind hw (Kp.refl σ) k2) j2.gone
            | rt z=>exact fun v A2 H2 τ n2 k2 j2=>k v A2 H2 (τ.set m none) n2 (Kp.behind hw (Kp.refl σ) k2) j2.gone
      · exact k.elim
    · unfold pick at k
      rw [if_neg (by rw [hm]; simp)] at k
      exact Zlh hc hk xa j r k
theorem ss_try {n:Nat → Bool} {tb:WX → TS} {body:DS} {l:List Cl} {hs:List Hn} (hb:∀ W',SS cl xf W' ws (tb W') body) (hh:HnsOk cl xf ws n l hs):SS cl xf W ws (fun E σ H=>tb (wCl cl.K W E l) E σ H) (dsTry n body hs):=fun A L B H δ σ E j k=>by
  refine hb _ A L B H δ σ E j ?_
  unfold dsTry at k
  cases e:body δ with
  | bad=>rw [e] at k; exact k
  | exc c xs s =>
    rw [e] at k
    simp only at k
    split at k
    · rename_i hc
      exact fun d vs A1 H1 σ1 n1 k1 x1 j1=>Zlh hc.1 hc.2 x1 j1 hh (PostS.step k n1 k1)
    · exact k.elim
  | ok f s=>rw [e] at k; cases f <;> exact k
end
section
variable {cl:Ec} {xf:Nat → List Str} {X:Cx} {W:WX} {ws:Nat → Bool}
/-- one clause -/
structure Hc (cl:Ec) (xf:Nat → List Str) (X:Cx) (ws:Nat → Bool) (n:Nat → Bool) (eh:ExceptHandler) (h:Hn):Prop where
  ex:∃ q:Cl,HnOk cl xf ws n q h ∧ ∀ {hds:List ExceptHandler} {l:List Cl},ClOk X hds l → ClOk X (eh :: hds) (q :: l)
inductive Hcs (cl:Ec) (xf:Nat → List Str) (X:Cx) (ws:Nat → Bool) (n:Nat → Bool):List ExceptHandler → List Hn → Prop
  | nil:Hcs cl xf X ws n [] []
  | cons {eh:ExceptHandler} {h:Hn} {ehs:List ExceptHandler} {hs:List Hn} (x:Hc cl xf X ws n eh h) (r:Hcs cl xf X ws n ehs hs):Hcs cl xf X ws n (eh :: ehs) (h :: hs)
theorem Hcs.both {n:Nat → Bool}:∀ {ehs:List ExceptHandler} {hs:List Hn},Hcs cl xf X ws n ehs hs → ∃ l,HnsOk cl xf ws n l hs ∧ ClOk X ehs l
  | _,_,.nil=>⟨[],.nil,.nil⟩
  | _,_,.cons x r=>by
    obtain ⟨l,h1,h2⟩:=r.both
    obtain ⟨q,h3,h4⟩:=x.ex
    exact ⟨q :: l,.cons h3 h1,h4 h2⟩
theorem s_try {n:Nat → Bool} {body:List Stmt} {e0:ExceptHandler} {ehs:List ExceptHandler} {db:DS} {hs:List Hn} {pos:Pos} (hK:X.K = cl.K) (tk:Takes X W) (hN:X.N.Nodup)
    (hb:∀ (W':WX) (pn:List (Addr × Obj)) (xe:Value → Shared → Prop),Takes (X.tr pn xe) W' → PassesOwn (model X.prog X.w) X.A X.env xe → Rb cl xf (X.tr pn xe) W' ws body db) (hh:Hcs cl xf X ws n (e0 :: ehs) hs) (hst:X.stack = X.env :: X.outer:=by rfl) (hfr:X.env.frame = some X.env.locals:=by rfl) :
    Rs cl xf X W ws (.Try body (e0 :: ehs) [] [] pos) (dsTry n db hs):=by
  obtain ⟨l,h1,h2⟩:=hh.both
  refine ⟨_,Zlg (tb:=fun W' E σ H=>∀ t,SS cl xf W' ws t db → t E σ H) hst hfr hN tk (fun W' pn xe tk' po=>⟨fun pins s σ H E I h=>?_⟩) h2,?_⟩
  · obtain ⟨t,q1,q2⟩:=hb W' pn xe tk' po
    exact q1.run pins s σ H E I (h t q2)
  · rw [hK]
    exact ss_try (tb:=fun W' E σ H=>∀ t,SS cl xf W' ws t db → t E σ H) (fun W' A L B H δ σ E j k t ht=>ht A L B H δ σ E j k) h1
/-- the block of a clause in whatever frame -/
def Hblk (cl:Ec) (xf:Nat → List Str) (X:Cx) (ws:Nat → Bool) (n:Nat → Bool) (m:Nat → Bool) (i:Option Nat) (sts:List Stmt) (dh:List D → DS):Prop:=∀ (a:Addr) (oe:Obj) (cls:Value) (d:Option Addr) (pn:List (Addr × Obj)),Zc cls d oe → (∃ vs,oe.data = .fields vs) →
  ∃ t,PSs (X.suite a ((a,oe) :: pn)) sts t ∧ ∀ c xs vs,n c = true → m c = true → cls = .ref (cl.c c) → HS cl xf (less ws i) (Hld cl xf i a d c xs vs) t (dh xs)
theorem hblk {n:Nat → Bool} {m:Nat → Bool} {i:Option Nat} {sts:List Stmt} {dh:List D → DS} (h:Hblk cl xf X ws n m i sts dh):∃ ts,Blk X sts ts ∧ ∀ a d c xs vs,n c = true → m c = true → HS cl xf (less ws i) (Hld cl xf i a d c xs vs) (ts a (.ref (cl.c c)) d) (dh xs):=by
  refine ⟨fun a cls d E σ H=>∀ t,(∀ c xs vs,n c = true → m c = true → cls = .ref (cl.c c) → HS cl xf (less ws i) (Hld cl xf i a d c xs vs) t (dh xs)) → t E σ H,fun a oe cls d pn hz hd=>⟨fun pins s σ H E I w=>?_⟩,fun a d c xs vs hc hm A L B H δ σ E j hp k t ht=>?_⟩
  · obtain ⟨t,q1,q2⟩:=h a oe cls d pn hz hd
    exact q1.run pins s σ H E I (w t q2)
  · exact ht c xs vs hc hm rfl A L B H δ σ E j hp k
theorem hc_as {n:Nat → Bool} {k:Nat} {m:Nat → Bool} {x y:Str} {c:Value} {st:Stmt} {sts:List Stmt} {np q:Pos} {dh:List D → DS} (nm:Names X x c) (hk:X.N[k]? = some y) (hl:X.env.kindOf y = some .local) (hw:ws k = true) (is:∀ c',n c' = true → PySem.W.exmOne cl.K (.ref (cl.c c')) c = some (m c')) (h:Hblk cl xf X ws n m (some k) (st :: sts) dh) :
    Hc cl xf X ws n (.ExceptHandler (some (.Name x np)) (some y) (st :: sts) q) ⟨m,some k,dh⟩:=by
  obtain ⟨ts,h1,h2⟩:=hblk h
  exact ⟨⟨c,some k,ts⟩,⟨rfl,(fun k' z=>by cases z; exact hw),is,h2⟩,fun r=>.named nm hk hl h1 r⟩
theorem ZoY {n:Nat → Bool} {m:Nat → Bool} {x:Str} {c:Value} {st:Stmt} {sts:List Stmt} {np q:Pos} {dh:List D → DS} (nm:Names X x c) (is:∀ c',n c' = true → PySem.W.exmOne cl.K (.ref (cl.c c')) c = some (m c')) (h:Hblk cl xf X ws n m none (st :: sts) dh) :
    Hc cl xf X ws n (.ExceptHandler (some (.Name x np)) none (st :: sts) q) ⟨m,none,dh⟩:=by
  obtain ⟨ts,h1,h2⟩:=hblk h
  exact ⟨⟨c,none,ts⟩,⟨rfl,(fun k' z=>by cases z),is,h2⟩,fun r=>.bare nm h1 r⟩
end
end Fs
set_option maxHeartbeats 2000000
namespace Fs
open PySem PySem.Spec PyProof.Rows L2
section
variable {cl:Ec} {xf:Nat → List Str} {X:Cx} {ws:Nat → Bool} {n:Nat → Bool} {m:Nat → Bool} {i:Option Nat} {a:Addr} {oe:Obj} {cls:Value} {d:Option Addr} {pn:List (Addr × Obj)} {e b:Expr} {es rest:List Expr} {pos pos' py pp:Pos}
/-- what the text e is,whichever exception of the clause's kinds is in hand -/
def Qk (cl:Ec) (xf:Nat → List Str) (X:Cx) (n:Nat → Bool) (m:Nat → Bool) (i:Option Nat) (a:Addr) (cls:Value) (d:Option Addr) (e:Expr) (pp:List D → PP):Prop:=∃ te,PE X e te ∧ ∀ c xs vs,n c = true → m c = true → cls = .ref (cl.c c) → HP cl (Hld cl xf i a d c xs vs) te (pp xs)
def Ql (cl:Ec) (xf:Nat → List Str) (X:Cx) (n:Nat → Bool) (m:Nat → Bool) (i:Option Nat) (a:Addr) (cls:Value) (d:Option Addr) (es:List Expr) (f:List D → Sl → Option (List D)):Prop:=∃ ta,L2.PA X es ta ∧ ∀ c xs vs,n c = true → m c = true → cls = .ref (cl.c c) → HL cl (Hld cl xf i a d c xs vs) ta (f xs)
def Qe (cl:Ec) (xf:Nat → List Str) (X:Cx) (n:Nat → Bool) (m:Nat → Bool) (i:Option Nat) (a:Addr) (cls:Value) (d:Option Addr) (e:Expr) (de:List D → DE):Prop:=∃ te,PE X e te ∧ ∀ c xs vs,n c = true → m c = true → cls = .ref (cl.c c) → HE cl xf (Hld cl xf i a d c xs vs) te (de xs)
def Qs (cl:Ec) (xf:Nat → List Str) (X:Cx) (ws:Nat → Bool) (n:Nat → Bool) (m:Nat → Bool) (i:Option Nat) (a:Addr) (cls:Value) (d:Option Addr) (st:Stmt) (ds:List D → DS):Prop:=∃ t,PS X st t ∧ ∀ c xs vs,n c = true → m c = true → cls = .ref (cl.c c) → HS cl xf (less ws i) (Hld cl xf i a d c xs vs) t (ds xs)
def Qss (cl:Ec) (xf:Nat → List Str) (X:Cx) (ws:Nat → Bool) (n:Nat → Bool) (m:Nat → Bool) (i:Option Nat) (a:Addr) (cls:Value) (d:Option Addr) (sts:List Stmt) (ds:List D → DS):Prop:=∃ t,PSs X sts t ∧ ∀ c xs vs,n c = true → m c = true → cls = .ref (cl.c c) → HS cl xf (less ws i) (Hld cl xf i a d c xs vs) t (ds xs)
theorem qk_of {p0:PP} (h:Rk cl X e p0):Qk cl xf X n m i a cls d e (fun _=>p0):=by obtain ⟨te,h1,h2⟩:=h; exact ⟨te,h1,fun _ _ _ _ _ _=>hp_of h2⟩
theorem qk_fld (k c0 nn:Nat) {f y:Str} (T:XfC X.K (cl.c c0)) (hno:PySem.W.findIn X.K (.ref (cl.c c0)) f = some none) (hz:Zc cls d oe) (hd:∃ vs,oe.data = .fields vs) (hm:∀ c,m c = true → c = c0) (hf:(xf c0)[nn]? = some f:=by rfl) (hN:X.N[k]? = some y:=by rfl) (hv:Vis X.env.scope y:=by first | exact Or.inl rfl | exact Or.inr (Or.inl rfl) | exact Or.inr (Or.inr rfl)) (hb:attributeBase (.Name y py) f X.env (eval (.Name y py) X.env) = eval (.Name y py) X.env:=by rfl) (hdb:(y == ("__debug__":Str)) = false:=by decide) (hcd:(y == ("__classdict__":Str)) = false:=by decide) :
    Qk cl xf (X.suite a ((a,oe) :: pn)) n m (some k) a cls d (.Attribute (.Name y py) f pos) (fun xs _=>xs[nn]?):=by
  refine ⟨_,pe_xf T hno hz hd (pe_var (X:=X.suite a ((a,oe) :: pn)) hN hv hdb hcd) hb,fun c xs vs hc hmc hcl=>?_⟩
  have:=hm c hmc
  subst this
  subst hcl
  exact hp_fld rfl hf
theorem ql_nil:Ql cl xf X n m i a cls d [] (fun _ _=>some []):=⟨_,pa_nil,fun _ _ _ _ _ _=>hl_nil⟩
theorem Zil {pa:List D → PP} {f:List D → Sl → Option (List D)} (ha:Qk cl xf X n m i a cls d e pa) (hr:Ql cl xf X n m i a cls d es f) (hs:starEach (e :: es) X.env = (false,eval e X.env) :: starEach es X.env:=by rfl):Ql cl xf X n m i a cls d (e :: es) (fun xs=>lCons (pa xs) (f xs)):=by
  obtain ⟨te,h1,h2⟩:=ha
  obtain ⟨ta,h3,h4⟩:=hr
  exact ⟨_,pa_cons h1 h3 hs,fun c xs vs hc hm e=>ZoX (h2 c xs vs hc hm e) (h4 c xs vs hc hm e)⟩
theorem qe_p {pa:List D → PP} (ha:Qk cl xf X n m i a cls d e pa):Qe cl xf X n m i a cls d e (fun xs=>dP (pa xs)):=by obtain ⟨te,h1,h2⟩:=ha; exact ⟨te,h1,fun c xs vs hc hm e=>he_p (h2 c xs vs hc hm e)⟩
theorem qe_tup {x1} {f:List D → Sl → Option (List D)} (h:Ql cl xf X n m i a cls d es f):Qe cl xf X n m i a cls d (.Tuple es x1 pos) (fun xs=>dF mkTup (dL (f xs))):=by obtain ⟨ta,h1,h2⟩:=h; exact ⟨_,pe_tup h1,fun c xs vs hc hm e=>he_f Zl0 (h2 c xs vs hc hm e)⟩
theorem qs_set (k:Nat) {x:Str} {de:List D → DE} (h:Qe cl xf X n m i a cls d e de) (hN:X.N.Nodup) (hw:less ws i k = true:=by rfl) (hi:X.N[k]? = some x:=by rfl) (hx:Loc X.env.scope x:=by first | exact Or.inl rfl | exact Or.inr rfl) (hs:swapsWith e (some (.Name x pos')) pos.line X.env = pure false:=by rfl) (hf:X.fn x = true ∨ X.env.scope.names.lookup x = some .local:=by first | exact .inl rfl | exact .inr rfl) :
    Qs cl xf X ws n m i a cls d (.Assign [.Name x pos'] e pos) (fun xs=>dsAsg (de xs) (tgN k)):=by
  obtain ⟨te,h1,h2⟩:=h
  exact ⟨_,ps_set hN hi hx h1 hs hf,fun c xs vs hc hm e=>hs_asg (h2 c xs vs hc hm e) (Zfy hw)⟩
theorem Zik {st:Stmt} {ds:List D → DS} (h:Qs cl xf X ws n m i a cls d st ds):Qss cl xf X ws n m i a cls d [st] ds:=by obtain ⟨t,h1,h2⟩:=h; exact ⟨t,pss_one h1,h2⟩
theorem Zm1 {st:Stmt} {sts:List Stmt} {x y:List D → DS} (h:Qs cl xf X ws n m i a cls d st x) (h':Qss cl xf X ws n m i a cls d sts y):Qss cl xf X ws n m i a cls d (st :: sts) (fun xs=>dsSeq (x xs) (y xs)):=by
  obtain ⟨t,q1,q2⟩:=h
  obtain ⟨t',q3,q4⟩:=h'
  refine ⟨_,pss_cons q1 q3,fun c xs vs hc hm e=>hs_seq (fun A L B H σ A' H' σ' hp n k=>hp.step n k fun j hj=>?_) (q2 c xs vs hc hm e) (q4 c xs vs hc hm e)⟩
  simp [less,hj]
end
end Fs
set_option maxHeartbeats 2000000
namespace Fs
open PySem PySem.Spec PyProof.Rows L2
/-- the exception class number c,named x -/
structure Xc (cl:Ec) (xf:Nat → List Str) (P:Program) (w:World) (K:PySem.W.Frag) (mg:Str → Option Value) (base:Heap) (x:Str) (c k:Nat):Prop where
  mgx:mg x = some (.ref (cl.c c))
  T:OexC K (cl.c c)
  ini:∃ fI fd ps,PySem.W.findIn K (.ref (cl.c c)) "__init__" = some (some (.ref fI)) ∧ PySem.W.typeIn K (.ref fI) = some (.type "function") ∧ FnOk P w K mg base (L2.CX P w) k fI fd ps (spIni K (xf c)) ∧ Binds K fd ps []
  no:∀ f ∈ xf c,PySem.W.findIn K (.ref (cl.c c)) f = some none
  nd:(xf c).Nodup
section
variable {cl:Ec} {xf:Nat → List Str} {X:Cx} {W:WX} {ws:Nat → Bool} {e:Expr} {es:List Expr} {pos pos' p:Pos}
theorem pass0 {E:XK} (hE:∀ c d H,¬ E c d H):Passes (L2.CX X.prog X.w) X E:=fun pins σ H s u s' I c=>by
  obtain ⟨_,_,_,_,_,_,_,_,_,_,_,_,z⟩:=c
  exact (hE _ _ _ z).elim
theorem Ze1 {x:Str} {c k m n:Nat} {da:DA} (C:Xc cl xf X.prog X.w X.K X.mg X.base x c k) (hK:X.K = cl.K) (hr:RoomG m X.A) (hkm:k + 1 ≤ m) (tk:Takes X W) (ha:Ra cl xf X W false (e :: es) da) (hn:(xf c).length = n:=by rfl) (hn2:n ≤ 1000:=by decide) (hc:X.calm = true:=by rfl) (hg:Gl X x:=by rfl)
    (hdb:(x == ("__debug__":Str)) = false:=by decide) (he:starEach (e :: es) X.env = (false,eval e X.env) :: starEach es X.env:=by rfl) (hpl:(backTo pos (starEach es X.env)).any (·.1) = false:=by rfl) :
    Rs cl xf X W ws (.Raise (some (.Call (.Name x p) (e :: es) [] pos)) none pos') (Zbz c n da):=by
  obtain ⟨ta,h1,h2⟩:=ha
  obtain ⟨fI,fd,ps,i1,i2,i3,i4⟩:=C.ini
  refine ⟨_,ps_raise hc tk (pmk_oex (dvs:=[]) C.T i1 i2 i3 (hr.r.mono hkm) i4 .nil (pass0 fun _ _ _ z=>z) hg C.mgx h1 hdb he hpl),?_⟩
  rw [hK]
  exact ZmQ h2 (by rw [← hK]; exact C.T) (by rw [← hK]; exact C.no) hn hn2 C.nd
end
end Fs
set_option maxHeartbeats 2000000
namespace Fs
open PySem PySem.Spec PyProof.Rows L2
section
variable {X:Cx} {CX:CXT} {k:Nat} {f C:Addr} {fd:FuncData} {ps:List Str} {sp:Sp} {E:L2.St → XK} {x m:Str} {q pos apos:Pos} {e o:Expr} {es:List Expr} {ta:TE} {t:TA}
/-- o.m(..) -/
def tMethE (C:Addr) (m:Str) (sp:Sp) (E:L2.St → XK) (ta:TE) (t:TA):TE:=fun σ H Q=>ta σ H fun x H1=>∃ a dx fs,x = .ref a ∧ H1 a = some (.ins C dx fs) ∧ fs.lookup m = none ∧ t σ H1 fun vs H2=>sp (x :: vs) H2 Q (E σ)
/-- C(..) -/
def tMakeE (C:Addr) (sp:Sp) (E:L2.St → XK) (t:TA):TE:=fun σ H Q=>t σ H fun vs H1=>∀ x dx,H1 x = none → H1 dx = none → dx ≠ x → sp (.ref x :: vs) (upd (upd H1 dx (.own x)) x (.ins C dx [])) (fun v H2=>v = .non ∧ Q (.ref x) H2) (E σ)
theorem Zow {pins:List (Addr × Obj)} {σ:L2.St} {H:Hp} {s:Shared} {Q:VK} {us:List Value} {vs:List V} (M:Mk X.K C f) (F:FnG X.prog X.w X.K X.mg X.base CX k f fd ps sp) (hr:RoomG (k + 1) X.A) (hb:Binds X.K fd ps []) (hx:PassesAt CX X σ (E σ)) (I:Inv X pins σ H s) (r:Vals vs us)
    (h:∀ x dx,H x = none → H dx = none → dx ≠ x → sp (.ref x :: vs) (upd (upd H dx (.own x)) x (.ins C dx [])) (fun v H2=>v = .non ∧ Q (.ref x) H2) (E σ)):wpAny (model X.prog X.w) X.A (call (.ref C) us) (EP X pins σ Q) X.xe s:=by
  have want:=h (s.heap.objs.size + 1) s.heap.objs.size (I.hok.fresh (Nat.le_succ _)) (I.hok.fresh (Nat.le_refl _)) (Nat.ne_of_lt (Nat.lt_succ_self _))
  have J:=Inv.made (C:=C) I
  have rel:Vals (V.ref (s.heap.objs.size + 1) :: vs) (Value.ref (s.heap.objs.size + 1) :: us):=.cons rfl r
  have len:(Value.ref (s.heap.objs.size + 1) :: us).length = ps.length:=by rw [← rel.length]; exact F.len _ _ _ _ want
  have bnd:=hb _ (Value.ref (s.heap.objs.size + 1) :: us) J.kIn (by rw [List.append_nil]; exact len)
  rw [List.append_nil] at bnd
  refine wpAny_call (make_map (f:=f) I.kIn M.makes M.init (beq_iff_eq.mp M.fn) (codeAny_mono (F.go _ X.stack _ _ ⟨Value.ref (s.heap.objs.size + 1) :: us,[]⟩ _ _ _ (E σ) (hr.make C us []) (J.env0.make C us []) bnd rel want) fun res s2 ok=>?_))
  cases res with
  | error u=>exact hx pins _ _ u s2 J ok
  | ok fl =>
    cases fl with
    | next=>exact False.elim ok
    | brk=>exact False.elim ok
    | cont=>exact False.elim ok
    | ret u =>
      obtain ⟨v,G,J2,rv,rfl,fin⟩:=J.after ok
      exact ⟨rv,V.ref (s.heap.objs.size + 1),G,J2,rfl,fin⟩
theorem Zm3 (M:Mk X.K C f) (F:FnG X.prog X.w X.K X.mg X.base CX k f fd ps sp) (hr:RoomG (k + 1) X.A) (hg:Gl X x) (hm:X.mg x = some (.ref C)) (hb:Binds X.K fd ps []) (hx:∀ σ,PassesAt CX X σ (E σ)) (ha:L2.PA X (e :: es) t)
    (hdb:(x == ("__debug__":Str)) = false:=by decide) (he:starEach (e :: es) X.env = (false,eval e X.env) :: starEach es X.env:=by rfl) (hpl:(backTo pos (starEach es X.env)).any (·.1) = false:=by rfl):PE X (.Call (.Name x q) (e :: es) [] pos) (tMakeE C sp E t):=⟨fun pins s σ H Q I h=>by
  refine wpAny_Call_Name_kw (ld_glob I hg hm (PySem.W.callWith_K (h₀:=X.base) I.ok.mod.kin M.kp (thn (ha.run pos pins s σ H _ I h) fun args t2 fin=>?_) he hpl) hdb)
  obtain ⟨vs,G,J,rr,go⟩:=fin
  exact ⟨J.kIn,Zow M F hr hb (hx σ) J rr go⟩⟩
theorem Zhv {pl:Sem Bool} (he:PE X o ta) (c:Cls X.K C) (hm:Meth X.K C m f) (F:FnG X.prog X.w X.K X.mg X.base CX k f fd ps sp) (hr:RoomG k X.A) (hb:Binds X.K fd ps []) (hx:∀ σ,PassesAt CX X σ (E σ))
    (ht:eval (.Call (.Attribute o m apos) [] [] pos) X.env = (do
      let r ← eval o X.env
      standAt apos.atName
      let (g,one) ← holding [r] (getMethod r m pl)
      callWith pos g one (backTo pos (starEach [] X.env)) (backToKw pos (keywordEach [] X.env))):=by rfl):PE X (.Call (.Attribute o m apos) [] [] pos) (tMethE C m sp E ta tNil):=⟨fun pins s σ H Q I h=>by
  refine PySem.W.methodCall_KW (pl:=pl) (thn (he.run pins s σ H _ I h) fun rv t1 got=>?_) ht
  obtain ⟨y,G,J,ry,a,dx,fs,rfl,at1,nol,go⟩:=got
  cases (show rv = Value.ref a from ry)
  exact getmeth_ok J at1 c hm nol (PySem.W.callWith_K0 (first:=[.ref a]) J.kIn hm.kp (runG (us:=[.ref a]) (xs:=[.ref a]) F hr hb (hx σ) J (.cons rfl .nil) go))⟩
end
def lkS {α:Type}:List Str → List α → Str → Option α
  | k :: ks,x :: xs,y=>if y = k then some x else lkS ks xs y
  | _,_,_=>none
def fldD (c:Nat) (f:Str):D → Option D
  | .n (.obj c' fs) _ xs=>if c' = c then lkS fs xs f else none
  | _=>none
section
variable {cl:Ec} {xf:Nat → List Str} {X:Cx} {W:WX} {ws:Nat → Bool} {A L B:Addr → Prop} {H:Hp} {b:Bool}
theorem Rps.lkS:∀ {fs:List Str} {ds:List D} {vs:List V} {fp:List Addr} {f:Str} {z:D},Rps cl A L H b ds vs fp → Fs.lkS fs ds f = some z → ∃ v f1,(fs.zip vs).lookup f = some v ∧ Rp cl A L H b z v f1 ∧ ∀ a ∈ f1,a ∈ fp
  | [],ds,vs,fp,f,z,h,e=>by simp [Fs.lkS] at e
  | k :: fs,[],vs,fp,f,z,h,e=>by simp [Fs.lkS] at e
  | k :: fs,d :: ds,vs,fp,f,z,h,e=>by
    simp only [Rps] at h
    obtain ⟨v,vs',f1,f2,rfl,rfl,h3,h4⟩:=h
    simp only [Fs.lkS] at e
    by_cases hk:f = k
    · rw [if_pos hk] at e
      cases e
      exact ⟨v,f1,by simp [List.lookup,hk],h3,fun a ha=>List.mem_append_left _ ha⟩
    · rw [if_neg hk] at e
      obtain ⟨u,g,q1,q2,q3⟩:=h4.lkS e
      have hb:(f == k) = false:=by simpa using hk
      exact ⟨u,g,by simp only [List.zip_cons_cons,List.lookup,hb]; exact q1,q2,fun a ha=>List.mem_append_right _ (q3 a ha)⟩
def rFld (K:PySem.W.Frag) (f:Str):V → Hp → VK → Prop:=fun x H Q=>∃ a C dx fs v,x = .ref a ∧ H a = some (.ins C dx fs) ∧ Cls K C ∧ NoAttr K C f ∧ fs.lookup f = some v ∧ Q v H
theorem Zoe {K:PySem.W.Frag} {c:Nat} {f:Str} (hc:Cls K (cl.c c)) (hn:NoAttr K (cl.c c) f):PUn cl (rFld K f) (fldD c f):=by
  intro A L H x u f1 z Q h1 e k
  unfold fldD at e
  split at e
  · split at e
    · rename_i c' fs w xs hcc
      subst hcc
      obtain ⟨a,o,vs,fp',rfl,ho,⟨hl,dx,rfl⟩,hr,hf⟩:=h1.node
      obtain ⟨v,g,q1,q2,q3⟩:=hr.lkS e
      exact ⟨a,_,dx,_,v,rfl,ho,hc,hn,q1,k v g q2 fun b hb=>hf b (q3 b hb)⟩
    · cases e
  · cases e
theorem o_fld {e:Expr} {f:Str} {pos:Pos} (hb:attributeBase e f X.env (eval e X.env) = eval e X.env:=by rfl):B1 X (.Attribute e f pos) e (rFld X.K f):=fun _ ha=>pe_fld ha hb
end
end Fs
set_option maxHeartbeats 2000000
namespace Fs
open PySem PySem.Spec PyProof.Rows L2
/-- the receiver is an object of the class at C without a field m -/
def tRc (C:Addr) (m:Str) (ta:TE):TE:=fun σ H Q=>ta σ H fun x H1=>(∃ a dx fs,x = .ref a ∧ H1 a = some (.ins C dx fs) ∧ fs.lookup m = none) ∧ Q x H1
theorem Zhl {C:Addr} {m:Str} {sp:Sp} {E:L2.St → XK} {ta:TE} {t:TA}:tMethE C m sp E ta t = tCallS sp E (tCons (tRc C m ta) t):=by
  funext σ H Q
  unfold tMethE tCallS tCons tRc
  congr 1
  funext x H1
  refine propext ⟨fun ⟨a,dx,fs,h1,h2,h3,h4⟩=>⟨⟨a,dx,fs,h1,h2,h3⟩,h4⟩,fun ⟨⟨a,dx,fs,h1,h2,h3⟩,h4⟩=>⟨a,dx,fs,h1,h2,h3,h4⟩⟩
def rcD (c:Nat) (m:Str):D → Option D
  | .n (.obj c' fs) w xs=>if c' = c ∧ m ∉ fs then some (.n (.obj c' fs) w xs) else none
  | _=>none
def pRc (c:Nat) (m:Str) (a:PP):PP:=fun δ=>(a δ).bind (rcD c m)
def dRc (c:Nat) (m:Str) (a:DE):DE:=fun δ=>(a δ).bind fun x δ1=>Out.ofO (rcD c m x) δ1
section
variable {cl:Ec} {xf:Nat → List Str} {X:Cx} {W:WX} {ws:Nat → Bool} {A L B:Addr → Prop} {H:Hp} {b p:Bool} {ta:TE}
theorem Zkk {fs:List Str} {vs:List V} {m:Str} (h:m ∉ fs):(fs.zip vs).lookup m = none:=by
  induction fs generalizing vs with
  | nil=>simp
  | cons f fs ih =>
    cases vs with
    | nil=>simp
    | cons v vs =>
      simp only [List.mem_cons,not_or] at h
      have hb:(m == f) = false:=by simpa using h.1
      simp only [List.zip_cons_cons,List.lookup,hb]
      exact ih h.2
theorem rcD_ok {c:Nat} {m:Str} {x z:D} {v:V} {fp:List Addr} (h:Rp cl A L H b x v fp) (e:rcD c m x = some z):z = x ∧ ∃ a dx fs,v = .ref a ∧ H a = some (.ins (cl.c c) dx fs) ∧ fs.lookup m = none:=by
  unfold rcD at e
  split at e
  · split at e
    · rename_i c' fs w xs hc
      cases e
      obtain ⟨a,o,vs,fp',rfl,ho,⟨hl,dx,rfl⟩,hr,hf⟩:=h.node
      obtain ⟨rfl,hm⟩:=hc
      exact ⟨rfl,a,dx,_,rfl,ho,Zkk hm⟩
    · cases e
  · cases e
theorem sp_rc {c:Nat} {m:Str} {a:PP} (ha:SP cl ta a):SP cl (tRc (cl.c c) m ta) (pRc c m a):=fun A L H δ σ g d Q h e k=>by
  obtain ⟨x,e1,e2⟩:=Option.bind_eq_some_iff.mp e
  refine ha A L H δ σ g x _ h e1 fun v fp h1 n1=>?_
  obtain ⟨rfl,q⟩:=rcD_ok h1 e2
  exact ⟨q,k v fp h1 n1⟩
theorem se_rc {c:Nat} {m:Str} {a:DE} (ha:SE cl xf W p ta a):SE cl xf W p (tRc (cl.c c) m ta) (dRc c m a):=by
  refine ⟨fun hp δ=>Out.same_bind (ha.pure hp δ) fun x=>Out.same_ofO,fun A L B H δ σ Q j k=>?_⟩
  refine ha.run A L B H δ σ _ j (Post.bind (γ:=D) k fun x δ1 vs A1 H1 e1 n1 j1 k1 v ev=>?_)
  subst ev
  obtain ⟨z,e,k2⟩:=Post.ofO k1
  obtain ⟨u,f1,e0,h1⟩:=j1.one
  cases e0
  obtain ⟨rfl,q⟩:=rcD_ok h1 e
  exact ⟨q,k2 [v] A1 H1 n1 j1 v rfl⟩
/-- a method m of the class number c -/
structure Mt (cl:Ec) (xf:Nat → List Str) (P:Program) (w:World) (K:PySem.W.Frag) (mg:Str → Option Value) (base:Heap) (c:Nat) (m:Str) (k np:Nat) (F:List D → Out D):Prop where
  ex:∃ f fd ps,FnG P w K mg base (L2.CX P w) k f fd ps (spF cl xf np F) ∧ Meth K (cl.c c) m f ∧ Binds K fd ps []
  cls:Cls K (cl.c c)
variable {e o:Expr} {es:List Expr} {pos apos:Pos} {pa:PP} {da:DE} {k mm np c:Nat} {m:Str} {F:List D → Out D} {da':DA}
theorem Zg2 (M:Mt cl xf X.prog X.w X.K X.mg X.base c m k np F) (hr:RoomG mm X.A) (hkm:k ≤ mm) (tk:Takes X W) (ho:Rk cl X o pa) (hn:DL np (daLend (pRc c m pa) daNil)) {pl:Sem Bool}
    (ht:eval (.Call (.Attribute o m apos) [] [] pos) X.env = (do
      let r ← eval o X.env
      standAt apos.atName
      let (g,one) ← holding [r] (getMethod r m pl)
      callWith pos g one (backTo pos (starEach [] X.env)) (backToKw pos (keywordEach [] X.env))):=by rfl):Rd cl xf X W p (.Call (.Attribute o m apos) [] [] pos) (dCall F (daLend (pRc c m pa) daNil)):=by
  obtain ⟨to,h1,h2⟩:=ho
  obtain ⟨f,fd,ps,hF,hM,hb⟩:=M.ex
  refine ⟨_,Zhv (pl:=pl) h1 M.cls hM hF (hr.mono hkm) hb (fun σ=>passAt tk σ) ht,?_⟩
  rw [Zhl]
  exact (Zif (Zla (sp_rc h2) sc_nil) hn).to
theorem ZnE (M:Mt cl xf X.prog X.w X.K X.mg X.base c m k np F) (hr:RoomG mm X.A) (hkm:k ≤ mm) (tk:Takes X W) (ho:Rd cl xf X W true o da) (hn:DL np (daCons (dRc c m da) daNil)) {pl:Sem Bool}
    (ht:eval (.Call (.Attribute o m apos) [] [] pos) X.env = (do
      let r ← eval o X.env
      standAt apos.atName
      let (g,one) ← holding [r] (getMethod r m pl)
      callWith pos g one (backTo pos (starEach [] X.env)) (backToKw pos (keywordEach [] X.env))):=by rfl):Rd cl xf X W p (.Call (.Attribute o m apos) [] [] pos) (dCall F (daCons (dRc c m da) daNil)):=by
  obtain ⟨to,h1,h2⟩:=ho
  obtain ⟨f,fd,ps,hF,hM,hb⟩:=M.ex
  refine ⟨_,Zhv (pl:=pl) h1 M.cls hM hF (hr.mono hkm) hb (fun σ=>passAt tk σ) ht,?_⟩
  rw [Zhl]
  exact (Zif (sc_val (se_rc h2) sc_nil) hn).to
end
end Fs
set_option maxHeartbeats 2000000
namespace Fs
open PySem PySem.Spec PyProof.Rows L2
section
variable {cl:Ec} {xf:Nat → List Str} {X:Cx} {W:WX} {ws:Nat → Bool} {A L B:Addr → Prop} {H:Hp} {b p:Bool} {tA:TA}
/-- the class number c,named x,and its __init__ -/
structure Kc (cl:Ec) (xf:Nat → List Str) (P:Program) (w:World) (K:PySem.W.Frag) (mg:Str → Option Value) (base:Heap) (x:Str) (c k np:Nat) (F:List D → Out D):Prop where
  ex:∃ f fd ps,FnG P w K mg base (L2.CX P w) k f fd ps (spF cl xf np F) ∧ Mk K (cl.c c) f ∧ Binds K fd ps []
  mgx:mg x = some (.ref (cl.c c))
variable {e:Expr} {es:List Expr} {pos pp:Pos} {k mm np c:Nat} {x:Str} {F:List D → Out D} {da':DA}
end
end Fs
namespace Fs
open PySem PySem.Spec PyProof.Rows L2
inductive Od | k (a:PP) | v (e:DE)
def evO:List Od → Sl → Out (List D)
  | [],δ=>.ok [] δ
  | .k a :: os,δ=>match a δ with
    | some d=>(evO os δ).bind fun xs δ2=>.ok (d :: xs) δ2
    | none=>.bad
  | .v e :: os,δ=>(e δ).bind fun d δ1=>(evO os δ1).bind fun xs δ2=>.ok (d :: xs) δ2
def dN (F:List D → Option D) (os:List Od):DE:=fun δ=>(evO os δ).bind fun xs δ1=>Out.ofO (F xs) δ1
/-- all operands stand -/
def RpL (cl:Ec) (A L:Addr → Prop) (H:Hp):List D → List V → Prop
  | [],us=>us = []
  | x :: xs,us=>∃ u us' fp,us = u :: us' ∧ Rp cl A L H true x u fp ∧ RpL cl A L H xs us'
def NOp (cl:Ec) (R:List V → Hp → VK → Prop) (F:List D → Option D):Prop:=∀ p A L B H ts ws δ σ xs us z Q,Jt p cl A L B H ts ws δ σ → RpL cl A L H xs us → F xs = some z → (∀ v A' H',Nx A B H A' H' → Jt p cl A' L B H' [z] [v] δ σ → Q v H') → R us H Q
section
variable {cl:Ec} {xf:Nat → List Str} {W:WX} {ws:Nat → Bool} {A A' L L' B:Addr → Prop} {H H':Hp} {δ δ':Sl} {σ σ':L2.St} {p q b:Bool} {te ta tb tc:TE} {tA:TA} {tt tu:TT} {t u:TS} {ts:List D} {vs:List V}
structure SN (cl:Ec) (xf:Nat → List Str) (W:WX) (ta:TA) (os:List Od):Prop where
  pure:∀ δ,(evO os δ).same δ
  run:∀ A L H δ σ g (R:List V → Hp → Prop),Rpo cl A L H δ σ g → g.Nodup → (∀ a,L a → A a) → Ad cl A H → (match evO os δ with
    | .ok xs _=>∀ us A' H' ts ws,Nx A A H A' H' → Jt true cl A' L A H' ts ws δ σ → RpL cl A' L H' xs us → R us H'
    | .exc c xs δ'=>PostX cl xf W true c xs δ' A L A H σ
    | .bad=>False) → ta σ H R
theorem sn_nil:SN cl xf W tNil []:=⟨fun δ=>rfl,fun A L H δ σ g R h nd la ad k=>k [] A H [] [] (Nx.refl fun _ h=>h) (Jt.pure0 h nd la ad) rfl⟩
theorem sn_k {a:PP} {os:List Od} (ha:SP cl te a) (hr:SN cl xf W tA os):SN cl xf W (tCons te tA) (.k a :: os):=by
  refine ⟨fun δ=>?_,fun A L H δ σ g R h nd la ad k=>?_⟩
  · unfold evO
    split
    · exact Out.same_bind (hr.pure δ) fun xs=>rfl
    · trivial
  · unfold evO at k
    cases e:a δ with
    | none=>rw [e] at k; exact k.elim
    | some d =>
      rw [e] at k
      simp only at k
      refine ha A L H δ σ g d _ h e fun v fp h1 n1=>?_
      refine hr.run A L H δ σ g _ h nd la ad ?_
      cases e2:evO os δ with
      | bad=>rw [e2] at k; exact k.elim
      | exc c xs s=>rw [e2] at k; exact k
      | ok xs s =>
        rw [e2] at k
        simp only [Out.bind] at k
        intro us A2 H2 ts ws n2 j2 r2
        refine k (v :: us) A2 H2 ts ws n2 j2 ?_
        have gA:∀ a ∈ g,A a:=fun a ha=>(h.inA a ha).1
        exact ⟨v,us,fp,rfl,h1.step n2.both (fun a ha=>n2.prot a (gA a (n1 a ha))) (fun _ a hl=>⟨(n2.prot a (la a hl)).1,hl⟩),r2⟩
theorem sn_v {a:DE} {os:List Od} (ha:SE cl xf W true te a) (hr:SN cl xf W tA os):SN cl xf W (tCons te tA) (.v a :: os):=by
  refine ⟨fun δ=>Out.same_bind (ha.pure rfl δ) fun x=>Out.same_bind (hr.pure δ) fun xs=>rfl,fun A L H δ σ g R h nd la ad k=>?_⟩
  have j:=Jt.pure0 h nd la ad
  have hs:=ha.pure rfl δ
  unfold evO at k
  refine ha.run A L A H δ σ _ j ?_
  cases e:a δ with
  | bad=>rw [e] at k; exact k.elim
  | exc c xs s=>rw [e] at k; exact k
  | ok x s =>
    rw [e] at k hs
    cases (show s = δ from hs)
    simp only [Out.bind] at k
    intro vs A1 H1 n1 j1 v ev
    subst ev
    obtain ⟨u,f1,e0,h6⟩:=j1.one
    cases e0
    have gA:∀ a ∈ g,A a:=fun a ha=>(h.inA a ha).1
    have hg:=h.step (A':=A1) (L':=L) (H':=H1) n1.both (fun a ha=>n1.prot a (gA a ha)) (fun a hl=>⟨(n1.prot a (la a hl)).1,hl⟩)
    refine hr.run A1 L H1 δ σ g _ hg nd (fun a hl=>(n1.prot a (la a hl)).2) j1.adt ?_
    have hs2:=hr.pure δ
    cases e2:evO os δ with
    | bad=>rw [e2] at k; exact k.elim
    | exc c xs s =>
      rw [e2] at k hs2
      cases (show s = δ from hs2)
      intro d us A2 H2 n2 x2 j2
      exact k d us A2 H2 (n1.trans (n2.weak fun a ha=>(n1.prot a ha).2)) x2 (j.ofPure2 (n1.trans (n2.weak fun a ha=>(n1.prot a ha).2)) (j2.lower (fun a ha=>(n1.prot a ha).2) la))
    | ok xs s =>
      rw [e2] at k
      simp only [Out.bind] at k
      intro us A2 H2 ts ws n2 j2 r2
      have n3:Nx A A H A2 H2:=n1.trans (n2.weak fun a ha=>(n1.prot a ha).2)
      refine k (v :: us) A2 H2 _ _ n3 (Jt.backP (f:=[]) j1 n2 j2) ?_
      exact ⟨v,us,f1,rfl,(h6.step n2.both (fun a ha=>n2.prot a (h6.inA a ha).1) (by simp)).weak,r2⟩
theorem se_n {os:List Od} {R:List V → Hp → VK → Prop} {F:List D → Option D} (ho:NOp cl R F) (hr:SN cl xf W tA os):SE cl xf W p (tF R tA) (dN F os):=by
  refine ⟨fun _ δ=>Out.same_bind (hr.pure δ) fun xs=>Out.same_ofO,fun A L B H δ σ Q j k=>?_⟩
  obtain ⟨g,hg,nd,_⟩:=j.drop0
  refine hr.run A L H δ σ g _ hg nd (fun a h=>j.ba a (j.lb a h)) j.adt ?_
  unfold dN at k
  have hs:=hr.pure δ
  cases e:evO os δ with
  | bad=>rw [e] at k; exact k.elim
  | exc c xs s =>
    rw [e] at k hs
    cases (show s = δ from hs)
    exact fun d us A2 H2 n2 x2 j2=>k d us A2 H2 (n2.weak j.ba) x2 (j.ofPure2 n2 j2)
  | ok xs s =>
    rw [e] at k hs
    cases (show s = δ from hs)
    simp only [Out.bind] at k
    obtain ⟨z,e3,k⟩:=Post.ofO k
    intro us A1 H1 ts ws n1 j1 r1
    refine ho true A1 L A H1 ts ws δ σ xs us z Q j1 r1 e3 fun v A2 H2 n2 j2=>?_
    have n3:Nx A A H A2 H2:=n1.trans n2
    exact k [v] A2 H2 (n3.weak j.ba) (j.ofPure n3 j2) v rfl
def resN:List AK → List D → Sl → Option (List D)
  | [],[],_=>some []
  | .v _ :: ks,t :: ts,δ=>(resN ks ts δ).map fun r=>t :: r
  | .l i :: ks,ts,δ=>((δ[i]?).join).bind fun d=>(resN ks ts δ).map fun r=>d :: r
  | _,_,_=>none
theorem Zii:∀ {ks:List AK} {ts:List D} {tv us:List V} {f g:List Addr} {xs:List D},Rps cl A L H false ts tv f → Rpo cl A L H δ σ g → WV σ ks tv us → resN ks ts δ = some xs → RpL cl A L H xs us
  | [],[],tv,us,f,g,xs,h,hg,w,e=>by
    simp only [resN,Option.some.injEq] at e
    subst e
    simp only [WV] at w
    simp only [RpL]
    exact w.2
  | [],t :: ts,tv,us,f,g,xs,h,hg,w,e=>by simp [resN] at e
  | .v x :: ks,[],tv,us,f,g,xs,h,hg,w,e=>by simp [resN] at e
  | .v x :: ks,t :: ts,tv,us,f,g,xs,h,hg,w,e=>by
    simp only [resN] at e
    obtain ⟨ys,e1,rfl⟩:=Option.map_eq_some_iff.mp e
    simp only [Rps] at h
    obtain ⟨v,tv',f1,f2,rfl,rfl,h3,h4⟩:=h
    simp only [WV] at w
    obtain ⟨t0,tv0,us',e3,rfl,w⟩:=w
    cases e3
    exact ⟨v,us',f1,rfl,h3.weak,Zii h4 hg w e1⟩
  | .l i :: ks,ts,tv,us,f,g,xs,h,hg,w,e=>by
    simp only [resN] at e
    obtain ⟨d,e0,e⟩:=Option.bind_eq_some_iff.mp e
    obtain ⟨ys,e1,rfl⟩:=Option.map_eq_some_iff.mp e
    simp only [WV] at w
    obtain ⟨v,us',e3,rfl,w⟩:=w
    obtain ⟨v2,f1,g1,g2,g3⟩:=hg.get (join_some e0)
    rw [e3] at g1
    cases g1
    exact ⟨v,us',f1,rfl,g2,Zii h hg w e1⟩
  | .o i :: ks,ts,tv,us,f,g,xs,h,hg,w,e=>by simp [resN] at e
def dNI (F:List D → Option D) (ks:List AK):DE:=fun δ=>(dArgs ks δ).bind fun ts δ1=>match resN ks ts δ1 with
  | some xs=>Out.ofO (F xs) δ1
  | none=>.bad
theorem se_ni {ks:List AK} {R:List V → Hp → VK → Prop} {F:List D → Option D} (ho:NOp cl R F) (hr:SQ cl xf W tA ks):SE cl xf W false (tF R tA) (dNI F ks):=by
  refine ⟨fun z=>(by cases z),fun A L B H δ σ Q j k=>hr A L B H δ σ _ j ?_⟩
  unfold dNI at k
  cases e:dArgs ks δ with
  | bad=>rw [e] at k; exact k.elim
  | exc c xs s=>rw [e] at k; exact k
  | ok ts s =>
    rw [e] at k
    simp only [Out.bind] at k
    intro tv vs A1 H1 n1 j1 w
    cases e1:resN ks ts s with
    | none=>rw [e1] at k; exact k.elim
    | some xs =>
      rw [e1] at k
      simp only at k
      obtain ⟨z,e3,k⟩:=Post.ofO k
      obtain ⟨f,g,h1,h2,h3,h4,h5⟩:=j1.ex
      exact ho false A1 L B H1 ts tv s σ xs vs z Q j1 (Zii h1 h2 w e1) e3 fun v A2 H2 n2 j2=>k [v] A2 H2 (n1.trans n2) j2 v rfl
variable {X:Cx} {e:Expr} {es:List Expr}
def tAll:List TE → TA
  | []=>tNil
  | t :: ts=>tCons t (tAll ts)
inductive PEs (X:Cx):List Expr → List TE → Prop
  | nil:PEs X [] []
  | cons {e:Expr} {te:TE} {es:List Expr} {tes:List TE}:PE X e te → PEs X es tes → PEs X (e :: es) (te :: tes)
def Rn (cl:Ec) (xf:Nat → List Str) (X:Cx) (W:WX) (es:List Expr) (os:List Od):Prop:=∃ tes,PEs X es tes ∧ SN cl xf W (tAll tes) os
theorem n_nil:Rn cl xf X W [] []:=⟨_,.nil,sn_nil⟩
theorem n_k {pa:PP} {os:List Od} (ha:Rk cl X e pa) (hr:Rn cl xf X W es os):Rn cl xf X W (e :: es) (.k pa :: os):=by
  obtain ⟨te,h1,h2⟩:=ha; obtain ⟨ta,h3,h4⟩:=hr; exact ⟨_,.cons h1 h3,sn_k h2 h4⟩
theorem n_v {da:DE} {os:List Od} (ha:Rd cl xf X W true e da) (hr:Rn cl xf X W es os):Rn cl xf X W (e :: es) (.v da :: os):=by
  obtain ⟨te,h1,h2⟩:=ha; obtain ⟨ta,h3,h4⟩:=hr; exact ⟨_,.cons h1 h3,sn_v h2 h4⟩
/-- the same of operands that may change the state -/
def Rz (cl:Ec) (xf:Nat → List Str) (X:Cx) (W:WX) (es:List Expr) (ks:List AK):Prop:=∃ tes,PEs X es tes ∧ SQ cl xf W (tAll tes) ks
theorem z_nil:Rz cl xf X W [] []:=⟨_,.nil,sq_nil⟩
theorem z_v {da:DE} {ks:List AK} (ha:Rd cl xf X W false e da) (hr:Rz cl xf X W es ks):Rz cl xf X W (e :: es) (.v da :: ks):=by
  obtain ⟨te,h1,h2⟩:=ha; obtain ⟨ta,h3,h4⟩:=hr; exact ⟨_,.cons h1 h3,sq_val h2 h4⟩
theorem z_l (i:Nat) {x:Str} {pos:Pos} {ks:List AK} (hr:Rz cl xf X W es ks) (hN:X.N[i]? = some x:=by rfl) (hv:Vis X.env.scope x:=by first | exact Or.inl rfl | exact Or.inr (Or.inl rfl) | exact Or.inr (Or.inr rfl)) (hd:(x == ("__debug__":Str)) = false:=by decide) (hcd:(x == ("__classdict__":Str)) = false:=by decide):Rz cl xf X W (.Name x pos :: es) (.l i :: ks):=by
  obtain ⟨ta,h3,h4⟩:=hr; exact ⟨_,.cons (pe_var hN hv hd hcd) h3,sq_l h4⟩
/-- an expression is an operation of these -/
def BN (X:Cx) (e:Expr) (es:List Expr) (R:List V → Hp → VK → Prop):Prop:=∀ tes,PEs X es tes → PE X e (tF R (tAll tes))
theorem d_n {R:List V → Hp → VK → Prop} {F:List D → Option D} {os:List Od} (o:BN X e es R) (h:NOp cl R F) (hr:Rn cl xf X W es os):Rd cl xf X W p e (dN F os):=by
  obtain ⟨ta,h1,h2⟩:=hr; exact ⟨_,o _ h1,se_n h h2⟩
theorem d_ni {R:List V → Hp → VK → Prop} {F:List D → Option D} {ks:List AK} (o:BN X e es R) (h:NOp cl R F) (hr:Rz cl xf X W es ks):Rd cl xf X W false e (dNI F ks):=by
  obtain ⟨ta,h1,h2⟩:=hr; exact ⟨_,o _ h1,se_ni h h2⟩
end
end Fs
namespace Fs
open PySem PySem.Spec PyProof.Rows L2
section
variable {cl:Ec} {xf:Nat → List Str} {W:WX} {ws:Nat → Bool} {A A' L L' B:Addr → Prop} {H H':Hp} {δ δ':Sl} {σ σ':L2.St} {p q b:Bool} {te ta tb tc:TE} {tA:TA} {tt tu:TT} {t u:TS} {ts:List D} {vs:List V}
/-- what an operation gives: a scalar,a new node of kept things,a kept thing -/
def NAlt (cl:Ec) (A L:Addr → Prop) (H:Hp) (r:VK → Prop) (z:D):Prop :=
  (∃ s,z = .v s ∧ sc s = true ∧ ∀ Q:VK,Q s H → r Q) ∨
  (∃ k w ds vs fp o,z = .n k w ds ∧ (w = .own ∨ w = .shr) ∧ ds.all D.kept = true ∧ Rps cl A L H true ds vs fp ∧ Shape cl k 0 vs o ∧ k.mut = true ∧ ∀ Q:VK,(∀ p0,H p0 = none → Q (.ref p0) (upd H p0 o)) → r Q) ∨
  (∃ u fp,z.kept = true ∧ Rp cl A L H true z u fp ∧ ∀ Q:VK,Q u H → r Q)
theorem NAlt.imp {r r':VK → Prop} {z:D} (h:NAlt cl A L H r z) (i:∀ Q,r Q → r' Q):NAlt cl A L H r' z:=by
  rcases h with ⟨s,h1,h2,h3⟩ | ⟨k,w,ds,vs,fp,o,h1,h2,h3,h4,h5,hm,h6⟩ | ⟨u,fp,h1,h2,h3⟩
  · exact .inl ⟨s,h1,h2,fun Q q=>i Q (h3 Q q)⟩
  · exact .inr (.inl ⟨k,w,ds,vs,fp,o,h1,h2,h3,h4,h5,hm,fun Q q=>i Q (h6 Q q)⟩)
  · exact .inr (.inr ⟨u,fp,h1,h2,fun Q q=>i Q (h3 Q q)⟩)
def NA (cl:Ec) (R:List V → Hp → VK → Prop) (F:List D → Option D):Prop:=∀ A L H xs us z,Ad cl A H → RpL cl A L H xs us → F xs = some z → NAlt cl A L H (R us H) z
theorem NAlt.run {ws:List V} {z:D} {r:VK → Prop} {Q:VK} (h:NAlt cl A L H r z) (j:Jt p cl A L B H ts ws δ σ) (k:∀ v A' H',Nx A B H A' H' → Jt p cl A' L B H' [z] [v] δ σ → Q v H'):r Q:=by
  rcases h with ⟨s,rfl,h2,h3⟩ | ⟨kk,w,ds,vs,fp,o,rfl,h2,h3,h4,h5,hm,h6⟩ | ⟨u,fp,h1,h2,h3⟩
  · exact h3 Q (k s A H (Nx.refl j.ba) (j.leaf h2))
  · refine h6 Q fun p0 hp=>?_
    have j2:=j.keptL h3 h4
    rcases h2 with rfl | rfl
    · have h:=j2.alloc (k:=kk) (o:=o) hp (h5.at hm p0) hm
      exact k _ _ _ h.1 h.2
    · have h:=j2.allocS (k:=kk) (o:=o) h3 hp (h5.at hm p0)
      exact k _ _ _ h.1 h.2
  · exact h3 Q (k u A H (Nx.refl j.ba) (j.kept h1 h2))
theorem NA.n {R:List V → Hp → VK → Prop} {F:List D → Option D} (h:NA cl R F):NOp cl R F:=fun p A L B H ts ws δ σ xs us z Q j hr e k=>(h A L H xs us z j.adt hr e).run j k
theorem RpL.one {x:D} {us:List V} (h:RpL cl A L H [x] us):∃ u fp,us = [u] ∧ Rp cl A L H true x u fp:=by
  simp only [RpL] at h
  obtain ⟨u,us',fp,rfl,h1,rfl⟩:=h
  exact ⟨u,fp,rfl,h1⟩
theorem RpL.two {x y:D} {us:List V} (h:RpL cl A L H [x,y] us):∃ u w f1 f2,us = [u,w] ∧ Rp cl A L H true x u f1 ∧ Rp cl A L H true y w f2:=by
  simp only [RpL] at h
  obtain ⟨u,us',fp,rfl,h1,w,us'',fp2,rfl,h2,rfl⟩:=h
  exact ⟨u,w,fp,fp2,rfl,h1,h2⟩
theorem RpL.three {x y z:D} {us:List V} (h:RpL cl A L H [x,y,z] us):∃ u w t f1 f2 f3,us = [u,w,t] ∧ Rp cl A L H true x u f1 ∧ Rp cl A L H true y w f2 ∧ Rp cl A L H true z t f3:=by
  simp only [RpL] at h
  obtain ⟨u,us',fp,rfl,h1,w,us'',fp2,rfl,h2,t,us3,fp3,rfl,h3,rfl⟩:=h
  exact ⟨u,w,t,fp,fp2,fp3,rfl,h1,h2,h3⟩
def rL2 (r:R2):List V → Hp → VK → Prop:=fun us H Q=>match us with | [x,y]=>r x y H Q | _=>False
def rL1 (r:V → Hp → VK → Prop):List V → Hp → VK → Prop:=fun us H Q=>match us with | [x]=>r x H Q | _=>False
/-- two things,by a function of two -/
def f2 (f:D → D → Option D):List D → Option D | [x,y]=>f x y | _=>none
def f1 (f:D → Option D):List D → Option D | [x]=>f x | _=>none
theorem GOp.n {r:R2} {f:D → D → Option D} (h:GOp cl r f):NOp cl (rL2 r) (f2 f):=by
  intro p A L B H ts ws δ σ xs us z Q j hr e k
  unfold f2 at e
  split at e
  · rename_i x y
    obtain ⟨u,w,f1,f2,rfl,h1,h2⟩:=hr.two
    exact h p A L B H ts ws δ σ x y u w f1 f2 z Q j h1 h2 e k
  · cases e
theorem GUn.n {r:V → Hp → VK → Prop} {f:D → Option D} (h:GUn cl r f):NOp cl (rL1 r) (f1 f):=by
  intro p A L B H ts ws δ σ xs us z Q j hr e k
  unfold f1 at e
  split at e
  · rename_i x
    obtain ⟨u,fp,rfl,h1⟩:=hr.one
    exact h p A L B H ts ws δ σ x u fp z Q j h1 e k
  · cases e
variable {X:Cx} {e a c:Expr} {es:List Expr} {pos pp:Pos}
/-- the text of operations of two,of one -/
theorem b2n {r:R2} {e2:Expr} (o:B2 X e a e2 r):BN X e [a,e2] (rL2 r):=fun tes h=>by
  cases h with
  | cons h1 h=>cases h with
    | cons h2 h=>cases h with
      | nil=>exact o _ _ h1 h2
theorem b1n {r:V → Hp → VK → Prop} (o:B1 X e a r):BN X e [a] (rL1 r):=fun tes h=>by
  cases h with
  | cons h1 h=>cases h with
    | nil=>exact o _ h1
end
end Fs
namespace Fs
open PySem PySem.Spec PyProof.Rows L2
section
variable {cl:Ec} {xf:Nat → List Str} {W:WX} {ws:Nat → Bool} {A A' L L' B:Addr → Prop} {H H':Hp} {δ δ':Sl} {σ σ':L2.St} {p q b:Bool} {te ta tb tc:TE} {tA:TA} {tt tu:TT} {t u:TS} {ts:List D} {vs:List V}
variable {X:Cx} {e a c o:Expr} {es:List Expr} {pos pp p2 apos:Pos}
/-- the items of a list -/
def seqL:D → Option (List D)
  | .n .lst _ xs=>some xs
  | .s ns=>some (ns.map D.int)
  | _=>none
def seqT:D → Option (List D)
  | .n .tup _ xs=>some xs
  | _=>none
theorem Rp.seqL {x:D} {v:V} {fp:List Addr} {ds:List D} (h:Rp cl A L H true x v fp) (e:Fs.seqL x = some ds):∃ a vs fp',v = .ref a ∧ SqL cl.K H a vs ∧ Rps cl A L H true ds vs fp':=by
  unfold Fs.seqL at e
  split at e
  · cases e
    obtain ⟨a,o,vs,fp',rfl,ho,hs,hr,hf⟩:=h.node
    cases hs
    exact ⟨a,vs,fp',rfl,SqL.of ho,hr⟩
  · rename_i ns
    cases e
    obtain ⟨a,rfl,h2,_,_⟩:=h.scr
    exact ⟨a,ns.map V.int,[],rfl,h2,Rps.ints⟩
  · cases e
theorem Rp.seqT {x:D} {v:V} {fp:List Addr} {ds:List D} (h:Rp cl A L H true x v fp) (e:Fs.seqT x = some ds):∃ a vs fp',v = .ref a ∧ SqT cl.K H a vs ∧ Rps cl A L H true ds vs fp':=by
  unfold Fs.seqT at e
  split at e
  · cases e
    obtain ⟨a,o,vs,fp',rfl,ho,hs,hr,hf⟩:=h.node
    cases hs
    exact ⟨a,vs,fp',rfl,SqT.of ho,hr⟩
  · cases e
def cutD {α:Type} (xs:List α) (lo hi:Option Int):List α:=(xs.drop (HT.sIx xs.length 0 lo)).take (HT.sIx xs.length xs.length hi - HT.sIx xs.length 0 lo)
def partD:D → Option (Option Int)
  | .v .non=>some none
  | .v (.int i)=>some (some i)
  | _=>none
def partV:V → Option Int
  | .int i=>some i
  | _=>none
theorem Rps.drop:∀ {ds:List D} {vs:List V} {fp:List Addr} (n:Nat),Rps cl A L H b ds vs fp → ∃ fp',Rps cl A L H b (ds.drop n) (vs.drop n) fp'
  | [],vs,fp,n,h=>by
    simp only [Rps] at h
    rw [h.1,List.drop_nil,List.drop_nil]
    exact ⟨[],by simp [Rps]⟩
  | d :: ds,vs,fp,0,h=>⟨fp,h⟩
  | d :: ds,vs,fp,n + 1,h=>by
    simp only [Rps] at h
    obtain ⟨v,vs',f1,f2,rfl,rfl,h3,h4⟩:=h
    exact h4.drop n
theorem Rps.take:∀ {ds:List D} {vs:List V} {fp:List Addr} (n:Nat),Rps cl A L H b ds vs fp → ∃ fp',Rps cl A L H b (ds.take n) (vs.take n) fp'
  | [],vs,fp,n,h=>by
    simp only [Rps] at h
    rw [h.1,List.take_nil,List.take_nil]
    exact ⟨[],by simp [Rps]⟩
  | d :: ds,vs,fp,0,h=>⟨[],by simp [Rps]⟩
  | d :: ds,vs,fp,n + 1,h=>by
    simp only [Rps] at h
    obtain ⟨v,vs',f1,f2,rfl,rfl,h3,h4⟩:=h
    obtain ⟨f,h5⟩:=h4.take n
    refine ⟨f1 ++ f,?_⟩
    simp only [List.take_succ_cons,Rps]
    exact ⟨v,_,f1,f,rfl,rfl,h3,h5⟩
theorem Rps.cut {ds:List D} {fp:List Addr} {lo hi:Option Int} (h:Rps cl A L H b ds vs fp):∃ fp',Rps cl A L H b (cutD ds lo hi) (cutV vs lo hi) fp':=by
  obtain ⟨f1,h1⟩:=h.drop (HT.sIx vs.length 0 lo)
  obtain ⟨f2,h2⟩:=h1.take (HT.sIx vs.length vs.length hi - HT.sIx vs.length 0 lo)
  refine ⟨f2,?_⟩
  unfold cutD cutV
  rw [h.length]
  exact h2
theorem ZiI {f:D → Bool} {ds:List D} {lo hi:Option Int} (h:ds.all f = true):(cutD ds lo hi).all f = true:=by
  rw [List.all_eq_true] at h ⊢
  intro x hx
  exact h x (List.mem_of_mem_drop (List.mem_of_mem_take hx))
def slD:List D → Option D
  | [x,l,h]=>(partD l).bind fun lo=>(partD h).bind fun hi=>match x with
    | .v (.str z)=>if z.length ≤ 100000 then some (.str (cutS z lo hi)) else none
    | .n .lst _ xs=>if xs.all D.kept then some (.n .lst .own (cutD xs lo hi)) else none
    | .s ns=>some (.n .lst .own (cutD (ns.map D.int) lo hi))
    | .n .tup .shr xs=>if xs.all D.kept then some (.n .tup .shr (cutD xs lo hi)) else none
    | _=>none
  | _=>none
def rSlAll (K:PySem.W.Frag):V → Option Int → Option Int → Hp → VK → Prop:=fun x lo hi H Q=>rSlS x lo hi H Q ∨ rSlL K x lo hi H Q ∨ rSlA K x lo hi H Q
theorem sl_all:SlR X (rSlAll X.K):=SlR.or sl_str (SlR.or sl_list sl_tupA)
def rL3 (r:V → Option Int → Option Int → Hp → VK → Prop):List V → Hp → VK → Prop:=fun us H Q=>match us with | [x,l,h]=>r x (partV l) (partV h) H Q | _=>False
theorem Zjd {x:D} {v:V} {fp:List Addr} {i:Option Int} (h:Rp cl A L H true x v fp) (e:partD x = some i):partV v = i:=by
  unfold partD at e
  split at e
  · cases e; obtain ⟨rfl,_,_⟩:=h.leafv; rfl
  · cases e; obtain ⟨rfl,_,_⟩:=h.leafv; rfl
  · cases e
theorem Zkr {α:Type} {xs:List α} {lo hi:Option Int} (h:HT.sIx xs.length 0 lo = 0 ∧ HT.sIx xs.length xs.length hi = xs.length):cutD xs lo hi = xs:=by
  unfold cutD
  rw [h.1,h.2]
  simp
theorem na_sl:NA cl (rL3 (rSlAll cl.K)) slD:=by
  intro A L H xs us z ad hr e
  unfold slD at e
  split at e
  · rename_i x l h
    obtain ⟨u,w,t,f1,f2,f3,rfl,h1,h2,h3⟩:=hr.three
    obtain ⟨lo,e1,e3⟩:=Option.bind_eq_some_iff.mp e
    obtain ⟨hi,e2,e4⟩:=Option.bind_eq_some_iff.mp e3
    clear e e3
    have e:=e4
    clear e4
    have p1:=Zjd h2 e1
    have p2:=Zjd h3 e2
    subst p1 p2
    split at e
    · rename_i z'
      split at e
      · rename_i hl
        cases e
        obtain ⟨rfl,_,_⟩:=h1.leafv
        exact .inl ⟨_,rfl,rfl,fun Q q=>.inl ⟨z',rfl,sz_of hl,q⟩⟩
      · cases e
    · rename_i w' ys
      split at e
      · rename_i hk
        cases e
        obtain ⟨a,vs,fp',rfl,ho,hr⟩:=h1.seqL rfl
        obtain ⟨fp2,h4⟩:=hr.cut (lo:=partV w) (hi:=partV t)
        exact .inr (.inl ⟨.lst,.own,_,_,fp2,_,rfl,.inl rfl,ZiI hk,h4,rfl,rfl,fun Q q=>.inr (.inl ⟨a,vs,rfl,ho,q⟩)⟩)
      · cases e
    · rename_i ns
      cases e
      obtain ⟨a,vs,fp',rfl,ho,hr⟩:=h1.seqL rfl
      obtain ⟨fp2,h4⟩:=hr.cut (lo:=partV w) (hi:=partV t)
      exact .inr (.inl ⟨.lst,.own,_,_,fp2,_,rfl,.inl rfl,ZiI (by simp [D.kept]),h4,rfl,rfl,fun Q q=>.inr (.inl ⟨a,vs,rfl,ho,q⟩)⟩)
    · rename_i ys
      split at e
      · rename_i hk
        cases e
        obtain ⟨a,vs,fp',rfl,ho,hr⟩:=h1.seqT rfl
        have hlen:=hr.length
        by_cases hw:HT.sIx ys.length 0 (partV w) = 0 ∧ HT.sIx ys.length ys.length (partV t) = ys.length
        · rw [Zkr hw]
          refine .inr (.inr ⟨.ref a,f1,rfl,h1,fun Q q=>.inr (.inr ⟨a,vs,rfl,ho,fun _=>q,fun n=>absurd ?_ n⟩)⟩)
          rw [← hlen]; exact hw
        · obtain ⟨fp2,h4⟩:=hr.cut (lo:=partV w) (hi:=partV t)
          refine .inr (.inl ⟨.tup,.shr,_,_,fp2,_,rfl,.inr rfl,ZiI hk,h4,rfl,rfl,fun Q q=>.inr (.inr ⟨a,vs,rfl,ho,fun n=>absurd ?_ hw,fun _=>q⟩)⟩)
          rw [hlen]; exact n
      · cases e
    · cases e
  · cases e
/-- an int,for a part of a slice -/
def intP:D → Option D | .v (.int i)=>some (.v (.int i)) | _=>none
def rInt:V → Hp → VK → Prop:=fun x H Q=>∃ i,x = .int i ∧ Q (.int i) H
theorem pun_intP:PUn cl rInt intP:=by
  intro A L H x u f1 z Q h e k
  unfold intP at e
  split at e
  · rename_i i
    cases e
    obtain ⟨rfl,rfl,hs⟩:=h.leafv
    exact ⟨i,rfl,k _ [] (Rp.leaf rfl) (by simp)⟩
  · cases e
theorem ZlR:∀ x z,intP x = some z → z.kept = true:=by
  intro x z e
  unfold intP at e
  split at e
  · cases e; rfl
  · cases e
theorem g_intP:GUn cl rInt intP:=pun_intP.g ZlR
/-- a part of a slice as an operand -/
def RoP (cl:Ec) (xf:Nat → List Str) (X:Cx) (W:WX) (lo:Option Expr) (od:Od):Prop:=∃ tl te,PO X lo tl ∧ (tl = fun σ H Q=>te σ H fun x H1=>Q (partV x) H1) ∧ ∀ tA os,SN cl xf W tA os → SN cl xf W (tCons te tA) (od :: os)
theorem ZT:RoP cl xf X W none (.k (pC .non)):=⟨_,tC .non,po_none,rfl,fun tA os h=>sn_k (sp_c rfl) h⟩
theorem ro_k {pa:PP} (h:Rk cl X e pa):RoP cl xf X W (some e) (.k (pUn intP pa)):=by
  obtain ⟨te,h1,h2⟩:=h
  exact ⟨_,_,po_some h1,rfl,fun tA os h=>sn_k (sp_un pun_intP h2) h⟩
theorem ro_v {da:DE} (h:Rd cl xf X W true e da):RoP cl xf X W (some e) (.v (d1 intP da)):=by
  obtain ⟨te,h1,h2⟩:=h
  exact ⟨_,_,po_some h1,rfl,fun tA os h=>sn_v (se_1d g_intP h2) h⟩
/-- what is cut -/
def RoB (cl:Ec) (xf:Nat → List Str) (X:Cx) (W:WX) (e:Expr) (od:Od):Prop:=∃ te,PE X e te ∧ ∀ tA os,SN cl xf W tA os → SN cl xf W (tCons te tA) (od :: os)
theorem rb_k {pa:PP} (h:Rk cl X e pa):RoB cl xf X W e (.k pa):=by obtain ⟨te,h1,h2⟩:=h; exact ⟨te,h1,fun _ _ h=>sn_k h2 h⟩
theorem rb_v {da:DE} (h:Rd cl xf X W true e da):RoB cl xf X W e (.v da):=by obtain ⟨te,h1,h2⟩:=h; exact ⟨te,h1,fun _ _ h=>sn_v h2 h⟩
theorem d_sl {lo hi:Option Expr} {ob ol oh:Od} (hK:X.K = cl.K) (hb:RoB cl xf X W e ob) (hl:RoP cl xf X W lo ol) (hh:RoP cl xf X W hi oh):Rd cl xf X W p (.Subscript e (.Slice lo hi none p2) pos) (dN slD [ob,ol,oh]):=by
  obtain ⟨te,h1,h2⟩:=hb
  obtain ⟨tl,tl',h3,rfl,h4⟩:=hl
  obtain ⟨th,th',h5,rfl,h6⟩:=hh
  have hn:=se_n (xf:=xf) (W:=W) (p:=p) na_sl.n (h2 _ _ (h4 _ _ (h6 _ _ sn_nil)))
  exact ⟨_,pe_slice (r:=rSlAll cl.K) (by rw [← hK]; exact sl_all) h1 h3 h5,hn⟩
def RzP (cl:Ec) (xf:Nat → List Str) (X:Cx) (W:WX) (lo:Option Expr) (k:AK):Prop:=∃ tl te,PO X lo tl ∧ (tl = fun σ H Q=>te σ H fun x H1=>Q (partV x) H1) ∧ ∀ tA ks,SQ cl xf W tA ks → SQ cl xf W (tCons te tA) (k :: ks)
theorem Zn5:RzP cl xf X W none (.v (dP (pC .non))):=⟨_,tC .non,po_none,rfl,fun tA os h=>sq_val (se_p (sp_c rfl)) h⟩
theorem rz_v {da:DE} (h:Rd cl xf X W false e da):RzP cl xf X W (some e) (.v (d1 intP da)):=by
  obtain ⟨te,h1,h2⟩:=h
  exact ⟨_,_,po_some h1,rfl,fun tA os h=>sq_val (se_1d g_intP h2) h⟩
def RzB (cl:Ec) (xf:Nat → List Str) (X:Cx) (W:WX) (e:Expr) (k:AK):Prop:=∃ te,PE X e te ∧ ∀ tA ks,SQ cl xf W tA ks → SQ cl xf W (tCons te tA) (k :: ks)
theorem zb_v {da:DE} (h:Rd cl xf X W false e da):RzB cl xf X W e (.v da):=by obtain ⟨te,h1,h2⟩:=h; exact ⟨te,h1,fun _ _ h=>sq_val h2 h⟩
theorem d_slI {lo hi:Option Expr} {ob ol oh:AK} (hK:X.K = cl.K) (hb:RzB cl xf X W e ob) (hl:RzP cl xf X W lo ol) (hh:RzP cl xf X W hi oh):Rd cl xf X W false (.Subscript e (.Slice lo hi none p2) pos) (dNI slD [ob,ol,oh]):=by
  obtain ⟨te,h1,h2⟩:=hb
  obtain ⟨tl,tl',h3,rfl,h4⟩:=hl
  obtain ⟨th,th',h5,rfl,h6⟩:=hh
  have hn:=se_ni (xf:=xf) (W:=W) na_sl.n (h2 _ _ (h4 _ _ (h6 _ _ sq_nil)))
  exact ⟨_,pe_slice (r:=rSlAll cl.K) (by rw [← hK]; exact sl_all) h1 h3 h5,hn⟩
end
end Fs
set_option maxHeartbeats 2000000
namespace Fs
open PySem PySem.Spec PyProof.Rows L2
def spMk (C:Addr) (sp:Sp):Sp:=fun vs H Q E=>∀ x dx,H x = none → H dx = none → dx ≠ x → sp (.ref x :: vs) (upd (upd H dx (.own x)) x (.ins C dx [])) (fun v H2=>v = .non ∧ Q (.ref x) H2) E
def mkOut:Out D → Out D
  | .ok (.v .non) (some o :: ios)=>if o.free then .ok o ios else .bad
  | .exc c' xs (_ :: ios)=>.exc c' xs ios
  | _=>.bad
def mkF (c:Nat) (F:List D → Out D):List D → Out D:=fun ds=>mkOut (F (.n (.obj c []) .own [] :: ds))
theorem Zng {d:D} {ios:Sl}:mkOut (.ok d ios) = .bad ∨ ∃ o rest,d = .v .non ∧ ios = some o :: rest ∧ o.free = true ∧ mkOut (.ok d ios) = .ok o rest:=by
  unfold mkOut
  split
  · rename_i o rest eq
    cases eq
    by_cases h:o.free = true
    · rw [if_pos h]; exact .inr ⟨o,rest,rfl,rfl,h,rfl⟩
    · rw [if_neg h]; exact .inl rfl
  · rename_i eq; cases eq
  · exact .inl rfl
section
variable {cl:Ec} {xf:Nat → List Str} {X:Cx} {W:WX} {ws:Nat → Bool} {A L B:Addr → Prop} {H:Hp} {b p:Bool} {tA:TA} {δ:Sl} {σ:L2.St}
theorem ZnW {c np:Nat} {F:List D → Out D}:∀ vs H Q E,spF cl xf np (mkF c F) vs H Q E → spMk (cl.c c) (spF cl xf (np + 1) F) vs H Q E:=by
  intro vs H Q E h x dx hx hdx ne
  obtain ⟨A,L,B,ds,j,hl,k⟩:=h
  obtain ⟨f0,g,h1,h2,h3,h4,h5⟩:=j.ex
  simp only [Rps] at h1
  obtain ⟨_,rfl⟩:=h1
  have up:∀ a,H a ≠ none → upd (upd H dx (.own x)) x (.ins (cl.c c) dx []) a = H a:=fun a h=>by
    rw [upd_ne (fun z=>h (by rw [z]; exact hx)),upd_ne (fun z=>h (by rw [z]; exact hdx))]
  have nx:Nx A B H (fun a=>A a ∨ a = x) (upd (upd H dx (.own x)) x (.ins (cl.c c) dx [])):=by
    refine ⟨fun a h=>h.elim .inl fun z=>.inr (by rw [z]; exact hx),fun a o h _ _=>by rw [up a (by rw [h]; simp)]; exact h,fun a h=>⟨up a (j.ad a (j.ba a h)),.inl (j.ba a h)⟩,fun a h=>?_⟩
    cases z:H a with
    | none=>rfl
    | some o=>rw [up a (by rw [z]; simp),z] at h; cases h
  have gA:∀ a ∈ g,A a:=fun a ha=>(h2.inA a ha).1
  have xg:x ∉ g:=fun z=>j.ad x (gA x z) hx
  have xA:¬ A x:=fun z=>j.ad x z hx
  have jc:Jt false cl (fun a=>A a ∨ a = x) L B (upd (upd H dx (.own x)) x (.ins (cl.c c) dx [])) [] [] ((.n (.obj c []) .own [] :: ds).map some) ((V.ref x :: vs).map some):=by
    refine ⟨⟨[],x :: g,by simp [Rps],?_,by simpa [xg] using h3,by simp,fun _ a ha q=>?_⟩,j.lb,fun a h=>.inl (j.ba a h),fun a h=>?_,j.tb.grow (fun b u e=>by rw [up b (by rw [e]; simp)]; exact e) fun b hb=>hb.imp id fun e=>by rw [e]; assumption⟩
    · simp only [List.map_cons,Rpo]
      refine ⟨.ref x,_,[x],g,rfl,by simp,?_,?_⟩
      · simp only [Rp]
        exact ⟨x,_,[],rfl,upd_same,.inl ⟨⟨rfl,dx,rfl⟩,fun _=>rfl⟩,.inr rfl,[],rfl,by simp [Rps]⟩
      · exact h2.step nx.both (fun a ha=>⟨up a (j.ad a (gA a ha)),.inl (gA a ha)⟩) (fun a hl=>⟨up a (j.ad a (j.ba a (j.lb a hl))),hl⟩)
    · rcases List.mem_cons.mp ha with z | z
      · rw [z] at q; exact xA (j.ba _ q)
      · exact h5 rfl a z q
    · rcases h with h | h
      · rw [up a (j.ad a h)]; exact j.ad a h
      · rw [h,upd_same]; simp
  refine ⟨_,L,B,_,jc,by simp [hl],?_⟩
  unfold mkF at k
  cases e2:F (.n (.obj c []) .own [] :: ds) with
  | bad=>rw [e2] at k; exact k.elim
  | exc c' xs ios =>
    rw [e2] at k
    intro d us' A2 H2 n2 x2 j2
    cases ios with
    | nil=>exact k.elim
    | cons o ios =>
      refine k d us' A2 H2 (nx.trans n2) x2 ?_
      obtain ⟨f2,g2,q1,q2,q3,q4,q5⟩:=j2.ex
      have nd:=List.nodup_append.mp q3
      cases o with
      | none =>
        simp only [List.map_cons,Rpo] at q2
        obtain ⟨y,σ',e3,q2⟩:=q2
        cases e3
        exact ⟨⟨f2,g2,q1,q2,q3,q4,q5⟩,j2.lb,j2.ba,j2.ad,j2.tb⟩
      | some o =>
        simp only [List.map_cons,Rpo] at q2
        obtain ⟨vx,σ',g3,g4,e3,rfl,q6,q7⟩:=q2
        cases e3
        exact ⟨⟨f2,g4,q1,q7,List.nodup_append.mpr ⟨nd.1,(List.nodup_append.mp nd.2.1).2.1,fun a ha c hc=>nd.2.2 a ha c (List.mem_append_right _ hc)⟩,q4,fun hp a ha=>q5 hp a (List.mem_append_right _ ha)⟩,j2.lb,j2.ba,j2.ad,j2.tb⟩
  | ok d ios =>
    rw [e2] at k
    intro v A2 H2 n2 j2
    rcases Zng (d:=d) (ios:=ios) with hb | ⟨o,rest,rfl,rfl,hfr,hb⟩
    · rw [hb] at k; exact k.elim
    · rw [hb] at k
      obtain ⟨f2,g2,q1,q2,q3,q4,q5⟩:=j2.ex
      obtain ⟨u,_,e0,h1⟩:=j2.one
      cases e0
      simp only [List.map_cons,Rpo] at q2
      obtain ⟨vx,σ',g3,g4,e3,rfl,q6,q7⟩:=q2
      simp only [List.cons.injEq,Option.some.injEq] at e3
      obtain ⟨rfl,rfl⟩:=e3
      have nd:=List.nodup_append.mp q3
      refine ⟨h1.leafv.1,k (.ref x) A2 H2 (nx.trans n2) ⟨⟨g3,g4,?_,q7,nd.2.1,fun a ha=>q5 rfl a (List.mem_append_left _ ha),fun hp a ha=>q5 hp a (List.mem_append_right _ ha)⟩,j2.lb,j2.ba,j2.ad,j2.tb⟩⟩
      simp only [Rps]
      exact ⟨_,[],g3,[],rfl,by simp,q6.free hfr,rfl,rfl⟩
variable {e o:Expr} {es:List Expr} {pos pp apos:Pos} {k mm np c:Nat} {x m:Str} {F:List D → Out D} {da':DA} {pa:PP} {da:DE}
theorem d_mk (M:Kc cl xf X.prog X.w X.K X.mg X.base x c k (np + 1) F) (hr:RoomG mm X.A) (hkm:k + 1 ≤ mm) (tk:Takes X W) (ha:Rc cl xf X W (e :: es) da') (hn:DL np da') (hg:Gl X x:=by rfl)
    (hdb:(x == ("__debug__":Str)) = false:=by decide) (he:starEach (e :: es) X.env = (false,eval e X.env) :: starEach es X.env:=by rfl) (hpl:(backTo pos (starEach es X.env)).any (·.1) = false:=by rfl):Rd cl xf X W p (.Call (.Name x pp) (e :: es) [] pos) (dCall (mkF c F) da'):=by
  obtain ⟨ta,h1,h2⟩:=ha
  obtain ⟨f,fd,ps,hF,hM,hb⟩:=M.ex
  exact ⟨_,Zm3 hM hF (hr.mono hkm) hg M.mgx hb (fun σ=>passAt tk σ) h1 hdb he hpl,(Zi4 (sp:=spMk (cl.c c) (spF cl xf (np + 1) F)) ZnW h2 hn).to⟩
def gYes:Sl → Bool:=fun _=>true
theorem SQ.g {ks:List AK} (h:SQ cl xf W tA ks):SQg cl xf W gYes tA ks:=fun A L B H δ σ R _=>h A L B H δ σ R
end
end Fs
set_option maxHeartbeats 2000000
namespace Rm
open PySem PySem.W PySem.Spec PyProof.Rows L2
section
variable {prog:Program} {w:World} {A:Around} {E:Value → Shared → Prop} {s:Shared} {T:String} {r d:Addr} {n:Nat} {P:Nat → Value → Prop} {OK:Heap → Prop}
theorem ZiH {Q:List Value → Shared → Prop} (K:KdlSrc prog w T r d n P OK) (hh:A.handled = none) (hok:OK s.heap) (hn:n ≤ sizeLine)
    (hQ:∀ (h':Heap) (tk:Nat) (acc:Array Value),(∀ b o,s.heap.get? b = some o → h'.get? b = some o) → ItemsOf P acc n → Q acc.toList { s with heap:=h',toks:=tk }) :
    wpAny (model prog w) A (collect (.ref r)) Q E s:=by
  unfold collect
  refine wpAny_bind (wpAny_runValue (codeAny_builtin F.entry_proto_collect ?_))
  rw [Around.under_plainId F.plain_proto_collect _]
  show wpAny _ A.in1 (newList [] >>= fun l=>again (.builtin "list.__iadd__" ⟨[l,.ref r],[]⟩)) _ _ s
  refine wpAny_bind (wpAny_newObj_type ?_)
  refine wpAny_pure ⟨plainId_quiet F.plain_list_iadd _,codeAny_builtin F.entry_list_iadd ?_⟩
  rw [Around.under_plainId F.plain_list_iadd _]
  show wpAny _ A.in1 (Builtin.List.listExtendWith (.ref s.heap.objs.size) (.ref r) (.ref s.heap.objs.size)) _ _ _
  have hS:(s.heap.push { cls:=.type "list",data:=.seq ([]:List Value).toArray }).get? s.heap.objs.size = some { cls:=.type "list",data:=.seq #[] 0 }:=Heap.get?_push_size _ rfl
  have hlt:=K.there _ hok
  refine wpAny_mono (kdl_extend (A:=A) (R:=fun rr s'=>rr = .ok (.ret (.ref s.heap.objs.size)) ∧ ∃ (h':Heap) (tk:Nat) (acc:Array Value) (c':Nat),s' = { s with heap:=h',toks:=tk } ∧
      (∀ b o,s.heap.get? b = some o → h'.get? b = some o) ∧ h'.get? s.heap.objs.size = some { cls:=.type "list",dict:=none,data:=.seq acc c',slots:=#[] } ∧ ItemsOf P acc n)
    (s:={ s with heap:=s.heap.push { cls:=.type "list",data:=.seq ([]:List Value).toArray } }) K hh (K.keep _ _ hok fun b _ o e=>Heap.get?_push_of_some _ e) _ (Nat.ne_of_gt hlt.1) (Nat.ne_of_gt hlt.2) _ 0 hS
    (fun h' tk acc c' hk e hi=>⟨rfl,h',tk,acc,c',rfl,fun b o q=>hk b o (Nat.ne_of_lt (Heap.lt_size q)) (Heap.get?_push_of_some _ q),e,hi⟩) hn) (fun fin s' h=>?_) (fun e s' h=>?_)
  · cases fin with
    | done f =>
      obtain ⟨e,h',tk,acc,c',rfl,hk,hS',hi⟩:=h
      cases e
      show wpAny _ A (load s.heap.objs.size >>= _) _ _ _
      exact wpAny_bind (wpAny_load hS' (wpAny_pure (hQ h' tk acc hk hi)))
    | again c' =>
      refine ⟨h.1,codeAny_mono h.2 fun rr s'' hr'=>?_⟩
      obtain ⟨rfl,h',tk,acc,c',rfl,hk,hS',hi⟩:=hr'
      show wpAny _ A (load s.heap.objs.size >>= _) _ _ _
      exact wpAny_bind (wpAny_load hS' (wpAny_pure (hQ h' tk acc hk hi)))
  · exact absurd h.1 (by simp)
theorem Zgj {Q₁:Value → Shared → Prop} (K:KdlSrc prog w T r d n P OK) (hh:A.handled = none) (hok:OK s.heap) (hn:n ≤ sizeLine) (hT:(Value.type T == Value.type "tuple") = false)
    (h:∀ (h':Heap) (tk:Nat) (acc:Array Value),(∀ b o,s.heap.get? b = some o → h'.get? b = some o) → ItemsOf P acc n →
      Q₁ (.ref h'.objs.size) { s with heap:=h'.push { cls:=.type "tuple",data:=.seq acc },toks:=tk }) :
    codeAny (model prog w) A (.call (.builtin "tuple.__new__") ⟨[.type "tuple",.ref r],[]⟩) (wants Q₁ E) s:=by
  refine codeAny_of_tree ?_
  show wpAny _ A.in1 (do checkBuiltinCall "tuple.__new__" ⟨[.type "tuple",.ref r],[]⟩; again (.builtin "tuple.__new__" ⟨[.type "tuple",.ref r],[]⟩)) _ _ s
  refine wpAny_bind (wpAny_of_eq (F.newCall_tuple_1 _) (wpAny_pure ⟨plainId_quiet F.plain_tuple_new _,codeAny_builtin F.entry_tuple_new ?_⟩))
  rw [Around.under_plainId F.plain_tuple_new _]
  have hsub:=sub_tuple_self
  have hinit:=init_tuple_lookup
  have hmh:=madeHere_tuple
  have hTI:s.TypeIs (.ref r) T:=K.type s hok
  have hh1:A.in1.handled = none:=hh
  wp_walk using wpAny_typeOf hTI,ZiH (A:=A.in1) K hh1 hok hn
  intro h' tk acc hk hacc
  show wpAny _ _ (Builtin.Tuple.tupleExact acc.toList.toArray >>= fun v=>ret v) _ _ _
  unfold Builtin.Tuple.tupleExact
  refine wpAny_bind (wpAny_newObj_type ?_ (by show acc.toList.toArray.size ≤ sizeLine; simp only [Array.toArray_toList]; rw [hacc.1]; exact hn))
  refine wpAny_pure ?_
  have e:acc.toList.toArray = acc:=by simp
  rw [e]
  exact h h' tk acc hk hacc
theorem Zgk {Q:Value → Shared → Prop} (K:KdlSrc prog w T r d n P OK) (hh:A.handled = none) (hok:OK s.heap) (hn:n ≤ sizeLine) (hT:(Value.type T == Value.type "tuple") = false)
    (hQ:∀ (h':Heap) (tk:Nat) (acc:Array Value),(∀ b o,s.heap.get? b = some o → h'.get? b = some o) → ItemsOf P acc n →
      Q (.ref h'.objs.size) { s with heap:=h'.push { cls:=.type "tuple",data:=.seq acc },toks:=tk }) :
    wpAny (model prog w) A (call (.type "tuple") [.ref r]) Q E s:=by
  refine callType_codes (Q₁:=fun obj s₁=>s₁.TypeIs obj "tuple" ∧ Q obj s₁) F.called_tuple (F.typeCall_tuple_1 _) F.entry_object_init
    (Zgj (A:=A.in1) K hh hok hn hT fun h' tk acc hk hacc=>⟨⟨_,Heap.get?_push_size _ rfl,rfl⟩,hQ h' tk acc hk hacc⟩) fun obj s₁ h₁=>?_
  exact ⟨h₁.1,F.args_object_init_2 obj _,object_init_meets F.called_tuple.init.lookup F.called_tuple.made (by decide) prog w A.in1 _ s₁ ⟨h₁.1,rfl,h₁.2⟩⟩
end
theorem ZmJ {kvs:List (Key × V)} {vs:List (Key × Value)} (r:KV kvs vs):Vals (kvs.map (·.2)) (vs.map (·.2)):=by
  unfold KV at r
  induction r with
  | nil=>exact .nil
  | cons h _ ih=>exact .cons h.2 ih
theorem ZlI {vs:List (Key × Value)} {acc:Array Value} (h:ItemsOf (fun i v=>∃ k,vs[i]? = some (k,v)) acc vs.length):acc.toList = vs.map (·.2) :=
  kdl_vals_eq acc.toList (by rw [Array.length_toList]; exact h.1) fun j v e=>h.2 j v (by rw [← Array.getElem?_toList]; exact e)
def rValsT:V → Hp → VK → Prop:=fun x H Q=>∃ (d:Addr) (kvs:List (Key × V)),x = .ref d ∧ L2.Rd H d (.dK kvs) ∧ ∀ p,H p = none → Q (.ref p) (upd H p (.tup (kvs.map Prod.snd)))
section
variable {X:Cx} {e:Expr} {te:TE} {p apos cpos pos:Pos}
theorem pe_tupVals (hc:X.calm = true) (he:PE X e te) (hg:Gl X "tuple") (hm:X.mg "tuple" = none) (hv:bootBuiltins "tuple" = some (.type "tuple")) (hbase:attributeBase e "values" X.env (eval e X.env) = eval e X.env:=by rfl) (hline:(apos.endLine == cpos.line) = true:=by rfl)
    (hs:starEach [.Call (.Attribute e "values" apos) [] [] cpos] X.env = (false,eval (.Call (.Attribute e "values" apos) [] [] cpos) X.env) :: starEach [] X.env:=by rfl) :
    PE X (.Call (.Name "tuple" p) [.Call (.Attribute e "values" apos) [] [] cpos] [] pos) (tUn rValsT te):=by
  refine ⟨fun pins s σ H Q I hq=>?_⟩
  refine wpAny_Call_Name_kw (ld_blt I hg hm hv ?_)
  refine PyProof.Rows.callWith_type1 ?_ hs rfl
  rw [hs]
  show wpAny _ _ (spliced ((false,eval (.Call (.Attribute e "values" apos) [] [] cpos) X.env) :: backTo pos (starEach [] X.env))) _ _ s
  refine Calls.spliced_cons ?_
  refine wpAny_Call_method (T:="dict") (id:="dict.values") hbase rfl hline F.plainAttrs_dict F.slot_dict_values F.type_dict_values (thn (he.run pins s σ H _ I hq) fun u s1 ⟨x,H1,I1,rx,d,kvs,ex,hd,q⟩=>?_)
  subst ex
  obtain rfl:u = Value.ref d:=rx
  obtain ⟨hz,hs0,vs,kv,hdo⟩:=dk_rd I1.hok hd
  obtain ⟨ep,hat⟩:=hdo.dictAt
  have lk:kvs.length = vs.length:=Paired.length kv
  have I2:Inv X pins σ H1 { s1 with heap:=s1.heap.push { cls:=.type "dict_values",data:=.fields #[.ref d] } }:=I1.kept (t':=s1.toks) fun b ob q=>Heap.get?_push_of_some _ q
  refine ⟨hdo.typeIs,hdo.mapOf.noDict,?_⟩
  show wpAny _ _ (callWith cpos (.builtin "dict.values") [.ref d] [] []) _ X.xe s1
  refine method_meetsIn F.slot_dict_values F.entry_dict_values rfl (PySem.evalArgs_none ⟨rfl,hdo.typeIs,F.args_dict_values_1 _,_,meets_dict_values (mixKind X.prog X.w) d hs0,⟨vs,hdo⟩,?_⟩)
  refine Calls.spliced_nil ?_
  refine Zgk (kdl_values (knd:=mixKind X.prog X.w) (kvs:=vs) (ep:=ep)) (I1.ok.hd hc) ⟨⟨_,Heap.get?_push_size _ rfl,rfl,rfl⟩,hat.push _⟩ (by omega) (by decide) fun h' tk acc hk hacc=>?_
  have ea:=ZlI hacc
  have I3:Inv X pins σ H1 { s1 with heap:=h',toks:=tk }:=I2.kept (t':=tk) hk
  refine ⟨.ref _,_,I3.laid (t':=tk) (o:=.tup (kvs.map Prod.snd)) (fun b o e=>Heap.get?_push_of_some _ e) (Nat.le_refl _) ⟨by rw [List.length_map]; exact hz,acc.toList,by rw [ea]; exact ZmJ kv,?_⟩,rfl,q _ (I3.hok.fresh (Nat.le_refl _))⟩
  rw [Array.toArray_toList]
  exact IsTup.new h' acc
end
end Rm
set_option maxHeartbeats 2000000
set_option maxHeartbeats 4000000
namespace Fs
open PySem PySem.Spec PyProof.Rows L2
def insU (x:Int):List Int → List Int
  | []=>[x]
  | y :: ys=>if x < y then x :: y :: ys else if x = y then y :: ys else y :: insU x ys
def sset (ns:List Int):List Int:=ns.foldr insU []
def insD (x:Int):List Int → List Int
  | []=>[x]
  | y :: ys=>if x ≤ y then x :: y :: ys else y :: insD x ys
def isrt (ns:List Int):List Int:=ns.foldr insD []
theorem Zjm {x z:Int}:∀ {ys:List Int},z ∈ insU x ys ↔ z = x ∨ z ∈ ys
  | []=>by simp [insU]
  | y :: ys=>by
    unfold insU
    split
    · simp
    · split
      · rename_i h; subst h; simp
      · simp only [List.mem_cons,Zjm (ys:=ys)]
        constructor
        · rintro (h | h | h)
          · exact .inr (.inl h)
          · exact .inl h
          · exact .inr (.inr h)
        · rintro (h | h | h)
          · exact .inr (.inl h)
          · exact .inl h
          · exact .inr (.inr h)
theorem ZgO {z:Int}:∀ {ns:List Int},z ∈ sset ns ↔ z ∈ ns
  | []=>by simp [sset]
  | n :: ns=>by
    show z ∈ insU n (sset ns) ↔ _
    rw [Zjm,ZgO,List.mem_cons]
/-- the greatest,the least -/
def maxI:List Int → Option Int
  | []=>none
  | n :: ns=>match maxI ns with
    | none=>some n
    | some m=>some (if n ≤ m then m else n)
section
variable {cl:Ec} {xf:Nat → List Str} {W:WX} {ws:Nat → Bool} {A A' L L' B:Addr → Prop} {H H':Hp} {δ δ':Sl} {σ σ':L2.St} {p q b:Bool} {te ta tb tc:TE} {tA:TA} {tt tu:TT} {t u:TS} {ts:List D} {vs:List V}
variable {X:Cx} {e a c o:Expr} {es:List Expr} {pos pp p2 apos:Pos}
/-- ints -/
def intsD:List D → Option (List Int)
  | []=>some []
  | .v (.int i) :: ds=>(intsD ds).map fun ns=>i :: ns
  | _=>none
def seqI (x:D):Option (List Int):=(seqL x).bind intsD
theorem NA.one {r:V → Hp → VK → Prop} {f:D → Option D} (h:∀ A L H x u fp z,Ad cl A H → Rp cl A L H true x u fp → f x = some z → NAlt cl A L H (r u H) z):NA cl (rL1 r) (f1 f):=by
  intro A L H xs us z ad hr e
  unfold f1 at e
  split at e
  · obtain ⟨u,fp,rfl,h1⟩:=hr.one
    exact h A L H _ u fp z ad h1 e
  · cases e
theorem NA.two {r:R2} {f:D → D → Option D} (h:∀ A L H x y u w fp gp z,Ad cl A H → Rp cl A L H true x u fp → Rp cl A L H true y w gp → f x y = some z → NAlt cl A L H (r u w H) z):NA cl (rL2 r) (f2 f):=by
  intro A L H xs us z ad hr e
  unfold f2 at e
  split at e
  · obtain ⟨u,w,fp,gp,rfl,h1,h2⟩:=hr.two
    exact h A L H _ _ u w fp gp z ad h1 h2 e
  · cases e
theorem NAlt.sc {s:V} {r:VK → Prop} (hs:sc s = true) (h:∀ Q:VK,Q s H → r Q):NAlt cl A L H r (.v s):=.inl ⟨s,rfl,hs,h⟩
theorem NAlt.new {k:Kd} {w:Fl} {ds:List D} {vs:List V} {fp:List Addr} {o:HO} {r:VK → Prop} (hw:w = .own ∨ w = .shr) (hk:ds.all D.kept = true) (hr:Rps cl A L H true ds vs fp) (hs:Shape cl k 0 vs o) (h:∀ Q:VK,(∀ p0,H p0 = none → Q (.ref p0) (upd H p0 o)) → r Q) (hm:k.mut = true:=by rfl):NAlt cl A L H r (.n k w ds):=.inr (.inl ⟨k,w,ds,vs,fp,o,rfl,hw,hk,hr,hs,hm,h⟩)
theorem NAlt.old {z:D} {u:V} {fp:List Addr} {r:VK → Prop} (hk:z.kept = true) (hr:Rp cl A L H true z u fp) (h:∀ Q:VK,Q u H → r Q):NAlt cl A L H r z:=.inr (.inr ⟨u,fp,hk,hr,h⟩)
def sumD (x:D):Option D:=(seqI x).map fun ns=>.int ns.sum
/-- max(xs,default=d) -/
def maxDfD (x d:D):Option D:=(seqI x).bind fun ns=>match maxI ns with
  | some m=>some (.int m)
  | none=>if d.kept then some d else none
def sortD (x:D):Option D:=(seqI x).map fun ns=>.n .lst .own ((isrt ns).map D.int)
theorem ZhT (ns:List Int):(ns.map D.int).all D.kept = true:=by simp [D.kept]
def Zb4 (x:D):Option D:=(seqI x).bind fun ns=>if ns.length < 64 then some (.n .lst .own ((sset ns).map D.int)) else none
/-- a key as a thing -/
def keyDv:Key → D
  | .inl i=>.int i
  | .inr x=>.str x
def listD (x:D):Option D:=match x with
  | .n .lst _ xs=>if xs.all D.kept then some (.n .lst .own xs) else none
  | .n .tup _ xs=>if xs.all D.kept then some (.n .lst .own xs) else none
  | .s ns=>some (.n .lst .own (ns.map D.int))
  | .n (.dct ks) _ _=>some (.n .lst .own (ks.map keyDv))
  | _=>none
theorem Zgz:∀ {α β:Type} (ks:List α) (vs:List β),ks.length = vs.length → (ks.zip vs).map Prod.snd = vs
  | _,_,[],[],_=>rfl
  | _,_,[],_ :: _,h=>by cases h
  | _,_,_ :: _,[],h=>by cases h
  | _,_,k :: ks,v :: vs,h=>by simp [Zgz ks vs (by simpa using h)]
def tupD (x:D):Option D:=match x with
  | .n .lst _ xs=>if xs.all D.kept then some (.n .tup .shr xs) else none
  | .s ns=>some (.n .tup .shr (ns.map D.int))
  | .n .tup .shr xs=>some (.n .tup .shr xs)
  | _=>none
def rTupA (K:PySem.W.Frag):V → Hp → VK → Prop:=fun x H Q=>∃ p ys,[x] = [.ref p] ∧ ((SqL K H p ys ∧ ∀ l,H l = none → Q (.ref l) (upd H l (.tup ys))) ∨ (SqT K H p ys ∧ Q (.ref p) H))
theorem na_tup:NA cl (rL1 (rTupA cl.K)) (f1 tupD):=NA.one fun A L H x u fp z ad h e=>by
  unfold tupD at e
  split at e
  · split at e
    · rename_i w xs hk
      cases e
      obtain ⟨a,vs,fp',rfl,ho,hr⟩:=h.seqL rfl
      exact .new (.inr rfl) hk hr rfl fun Q q=>⟨a,vs,rfl,.inl ⟨ho,q⟩⟩
    · cases e
  · rename_i ns
    cases e
    obtain ⟨a,vs,fp',rfl,ho,hr⟩:=h.seqL rfl
    exact .new (.inr rfl) (ZhT _) hr rfl fun Q q=>⟨a,vs,rfl,.inl ⟨ho,q⟩⟩
  · rename_i xs
    cases e
    obtain ⟨a,vs,fp',rfl,ho,hr⟩:=h.seqT rfl
    exact .old rfl h fun Q q=>⟨a,vs,rfl,.inr ⟨ho,q⟩⟩
  · cases e
def valsTD (x:D):Option D:=match x with
  | .n (.dct ks) _ xs=>if xs.all D.kept then some (.n .tup .shr xs) else none
  | _=>none
theorem na_valsT:NA cl (rL1 Rm.rValsT) (f1 valsTD):=NA.one fun A L H x u fp z ad h e=>by
  unfold valsTD at e
  split at e
  · split at e
    · rename_i ks w xs hk
      cases e
      obtain ⟨a,vs,fp',rfl,ho,hl,hr,hf⟩:=h.nodeD
      refine .new (.inr rfl) hk hr rfl fun Q q=>⟨a,_,rfl,ho,fun p hp=>?_⟩
      rw [Zgz ks vs hl]
      exact q p hp
    · cases e
  · cases e
end
end Fs
namespace Fs
open PySem PySem.Spec PyProof.Rows L2
section
variable {cl:Ec} {xf:Nat → List Str} {W:WX} {ws:Nat → Bool} {A A' L L' B:Addr → Prop} {H H':Hp} {δ δ':Sl} {σ σ':L2.St} {p q b:Bool} {te ta tb tc:TE} {tA:TA} {tt tu:TT} {t u:TS} {ts:List D} {vs:List V}
variable {X:Cx} {e a c o:Expr} {es:List Expr} {pos pp p2 apos:Pos}
theorem ZiE {x:V} (h:sc x = true):flatV x = true:=by cases x <;> first | rfl | cases h
/-- scalars -/
def valsD:List D → Option (List V)
  | []=>some []
  | .v x :: ds=>(valsD ds).map fun vs=>x :: vs
  | _=>none
theorem ZgB:∀ {ds:List D} {vs:List V} {fp:List Addr} {ws:List V},Rps cl A L H b ds vs fp → valsD ds = some ws → vs = ws ∧ ws.all flatV = true
  | [],vs,fp,ws,h,e=>by
    cases e
    simp only [Rps] at h
    exact ⟨h.1,rfl⟩
  | d :: ds,vs,fp,ws,h,e=>by
    unfold valsD at e
    split at e
    · rename_i he; cases he
    · rename_i i ds' he
      cases he
      obtain ⟨ns',e1,rfl⟩:=Option.map_eq_some_iff.mp e
      simp only [Rps] at h
      obtain ⟨v,vs',f1,f2,rfl,rfl,h3,h4⟩:=h
      obtain ⟨rfl,_,hs⟩:=h3.leafv
      obtain ⟨rfl,h5⟩:=ZgB h4 e1
      exact ⟨rfl,by simp [ZiE hs,h5]⟩
    · cases e
def seqA (x:D):Option (List D):=match x with
  | .n .tup _ xs=>some xs
  | .n .lst _ xs=>some xs
  | .s ns=>some (ns.map D.int)
  | _=>none
theorem Rp.seqA {x:D} {v:V} {fp:List Addr} {ds:List D} (h:Rp cl A L H true x v fp) (e:Fs.seqA x = some ds):∃ a vs fp',v = .ref a ∧ (SqL cl.K H a vs ∨ SqT cl.K H a vs) ∧ Rps cl A L H true ds vs fp':=by
  unfold Fs.seqA at e
  split at e
  · cases e; obtain ⟨a,vs,fp',h1,h2,h3⟩:=h.seqT rfl; exact ⟨a,vs,fp',h1,.inr h2,h3⟩
  · cases e; obtain ⟨a,vs,fp',h1,h2,h3⟩:=h.seqL rfl; exact ⟨a,vs,fp',h1,.inl h2,h3⟩
  · cases e; obtain ⟨a,vs,fp',h1,h2,h3⟩:=h.seqL rfl; exact ⟨a,vs,fp',h1,.inl h2,h3⟩
  · cases e
/-- x in y: whether -/
def inB (x y:D):Option Bool:=match y with
  | .v (.str z)=>match x with
    | .v (.str ⟨⟨[c]⟩⟩)=>some (decide (c ∈ z.cps.toList))
    | _=>none
  | .n (.dct ks) _ xs=>(keyD x).map fun k=>(lkD ks xs k).isSome
  | _=>(seqA y).bind fun ds=>match x,valsD ds with
    | .v x,some ws=>some (inV x ws)
    | _,_=>match y,pd x,pds ds with
      | .n .lst _ _,some d,some es=>if SeqAt.shaped d = true ∧ SeqAt.shaped (.list es) = true then some (es.any fun z=>PyData.eqv z d) else none
      | _,_,_=>none
def inD (x y:D):Option D:=(inB x y).map D.bl
def notinD (x y:D):Option D:=(inB x y).map fun c=>D.bl !c
def rDIn (neg:Bool):R2:=fun y x H Q=>∃ a o,x = .ref a ∧ DGet H a y o ∧ Q (.bl (if neg then !o.isSome else o.isSome)) H
def rInA (K:PySem.W.Frag):R2:=fun x y H Q=>((∃ (c:Nat) (z:Str),x = .str ⟨#[c]⟩ ∧ y = .str z ∧ Q (.bl (decide (c ∈ z.cps.toList))) H) ∨ rIn K false x y H Q) ∨ rDIn false x y H Q ∨ rInD K x y H Q
def Zij (K:PySem.W.Frag):R2:=fun x y H Q=>((∃ (c:Nat) (z:Str),x = .str ⟨#[c]⟩ ∧ y = .str z ∧ Q (.bl (!decide (c ∈ z.cps.toList))) H) ∨ rIn K true x y H Q) ∨ rDIn true x y H Q ∨ rNotInD K x y H Q
theorem op_din (hu:X.A.units + 1 < cLine):OpR X (compareOp .In) (rDIn false):=by
  intro pins s σ H y x v u Q I ry rx h
  obtain ⟨a,o,rfl,g,q⟩:=h
  obtain rfl:u = Value.ref a:=rx
  exact d_in hu I g ry fun s3 I3=>⟨.bl o.isSome,H,I3,rfl,q⟩
theorem Zlj (hu:X.A.units + 1 < cLine):OpR X (compareOp .NotIn) (rDIn true):=by
  intro pins s σ H y x v u Q I ry rx h
  obtain ⟨a,o,rfl,g,q⟩:=h
  obtain rfl:u = Value.ref a:=rx
  exact d_notIn hu I g ry fun s3 I3=>⟨.bl (!o.isSome),H,I3,rfl,q⟩
theorem op_inA (hu:X.A.units + 65 < cLine):OpR X (compareOp .In) (rInA X.K):=(op_in_sign.or op_in_seq).or ((op_din (by omega)).or (op_inD hu))
theorem Zli (hu:X.A.units + 65 < cLine):OpR X (compareOp .NotIn) (Zij X.K):=(op_notIn_sign.or op_notIn_seq).or ((Zlj (by omega)).or (op_notInD hu))
theorem inB_ok {x y:D} {u w:V} {fp gp:List Addr} {c:Bool} (h:Rp cl A L H true x u fp) (h':Rp cl A L H true y w gp) (e:inB x y = some c) :
    (∃ (n:Nat) (z:Str),u = .str ⟨#[n]⟩ ∧ w = .str z ∧ c = decide (n ∈ z.cps.toList)) ∨ (∃ p xs,w = .ref p ∧ (SqL cl.K H p xs ∨ SqT cl.K H p xs) ∧ flatV u = true ∧ xs.all flatV = true ∧ c = inV u xs) ∨
    (∃ a o,w = .ref a ∧ DGet H a u o ∧ c = o.isSome) ∨ (∃ d ds,Dp cl.K H u d ∧ Dp cl.K H w (.list ds) ∧ SeqAt.shaped d = true ∧ SeqAt.shaped (.list ds) = true ∧ c = ds.any fun z=>PyData.eqv z d):=by
  unfold inB at e
  split at e
  · rename_i z
    split at e
    · rename_i n
      cases e
      obtain ⟨rfl,_,_⟩:=h.leafv
      obtain ⟨rfl,_,_⟩:=h'.leafv
      exact .inl ⟨n,z,rfl,rfl,rfl⟩
    · cases e
  · rename_i ks w' xs
    obtain ⟨k,e1,rfl⟩:=Option.map_eq_some_iff.mp e
    obtain ⟨a,vs,fp',rfl,ho,hl,hr,hf⟩:=h'.nodeD
    have hk:=Ziy h e1
    subst hk
    refine .inr (.inr (.inl ⟨a,_,rfl,.inl ⟨_,k,ho,rfl,rfl⟩,?_⟩))
    rw [Zfo]
    cases e2:lkD ks xs k with
    | none=>rw [hr.lkN e2]; rfl
    | some d=>obtain ⟨v,f1,g1,_⟩:=hr.lk e2; rw [g1]; rfl
  · obtain ⟨ds,e1,e2⟩:=Option.bind_eq_some_iff.mp e
    obtain ⟨a,vs,fp',rfl,ho,hr⟩:=h'.seqA e1
    split at e2
    · rename_i x' ws' hv
      cases e2
      obtain ⟨rfl,_,hs⟩:=h.leafv
      obtain ⟨rfl,hf⟩:=ZgB hr hv
      exact .inr (.inl ⟨a,vs,rfl,ho,ZiE hs,hf,rfl⟩)
    · split at e2
      · rename_i d es hd hes q1 q2
        split at e2
        · rename_i hsh
          cases e2
          cases e1
          exact .inr (.inr (.inr ⟨d,es,h.dp hd,h'.dp (e:=.list es) (by simp [pd,hes]),hsh.1,hsh.2,rfl⟩))
        · cases e2
      · cases e2
theorem na_in:NA cl (rL2 (rInA cl.K)) (f2 inD):=NA.two fun A L H x y u w fp gp z ad h h' e=>by
  obtain ⟨c,e1,rfl⟩:=Option.map_eq_some_iff.mp e
  refine .sc rfl fun Q q=>?_
  rcases inB_ok h h' e1 with ⟨n,z,rfl,rfl,rfl⟩ | ⟨p,xs,rfl,h1,h2,h3,rfl⟩ | ⟨a,o,rfl,h1,rfl⟩ | ⟨d,ds,h1,h2,h3,h4,rfl⟩
  · exact .inl (.inl ⟨n,z,rfl,rfl,q⟩)
  · exact .inl (.inr ⟨p,xs,rfl,h1,h2,h3,q⟩)
  · exact .inr (.inl ⟨a,o,rfl,h1,q⟩)
  · exact .inr (.inr ⟨d,ds,h1,h2,h3,h4,q⟩)
theorem na_notin:NA cl (rL2 (Zij cl.K)) (f2 notinD):=NA.two fun A L H x y u w fp gp z ad h h' e=>by
  obtain ⟨c,e1,rfl⟩:=Option.map_eq_some_iff.mp e
  refine .sc rfl fun Q q=>?_
  rcases inB_ok h h' e1 with ⟨n,z,rfl,rfl,rfl⟩ | ⟨p,xs,rfl,h1,h2,h3,rfl⟩ | ⟨a,o,rfl,h1,rfl⟩ | ⟨d,ds,h1,h2,h3,h4,rfl⟩
  · exact .inl (.inl ⟨n,z,rfl,rfl,q⟩)
  · exact .inl (.inr ⟨p,xs,rfl,h1,h2,h3,q⟩)
  · exact .inr (.inl ⟨a,o,rfl,h1,q⟩)
  · exact .inr (.inr ⟨d,ds,h1,h2,h3,h4,q⟩)
def addA (x y:D):Option D:=match x,y with
  | .v (.int i),.v (.int j)=>some (.int (i + j))
  | .v (.str s),.v (.str t)=>if s.length + t.length ≤ 100000 then some (.str (s ++ t)) else none
  | .n .lst _ xs,.n .lst _ ys=>if xs.length + ys.length ≤ 100000 ∧ xs.all D.kept = true ∧ ys.all D.kept = true then some (.n .lst .own (xs ++ ys)) else none
  | .n .tup .shr xs,.n .tup .shr ys=>if xs.length + ys.length ≤ 100000 ∧ xs.all D.kept = true ∧ ys.all D.kept = true then some (.n .tup .shr (xs ++ ys)) else none
  | _,_=>none
def rAddB (K:PySem.W.Frag):R2:=fun x y H Q=>((rI0 fun i j=>.int (i + j)) x y H Q ∨ (∃ i j,x = .str i ∧ y = .str j ∧ i.length + j.length ≤ sizeLine ∧ Q (.str (i ++ j)) H)) ∨ rCat x y H Q ∨ rCatA K x y H Q
theorem Zon:OpR X (binaryOp .Add) (rAddB X.K):=(op_add.or op_add_str).or (op_cat.or op_catA)
theorem na_add:NA cl (rL2 (rAddB cl.K)) (f2 addA):=NA.two fun A L H x y u w fp gp z ad h1 h2 e=>by
  unfold addA at e
  split at e
  · rename_i i j'
    cases e
    obtain ⟨rfl,_,_⟩:=h1.leafv
    obtain ⟨rfl,_,_⟩:=h2.leafv
    exact .sc rfl fun Q q=>.inl (.inl ⟨i,j',rfl,rfl,q⟩)
  · rename_i s t
    split at e
    · rename_i hl
      cases e
      obtain ⟨rfl,_,_⟩:=h1.leafv
      obtain ⟨rfl,_,_⟩:=h2.leafv
      exact .sc rfl fun Q q=>.inl (.inr ⟨s,t,rfl,rfl,sz_of hl,q⟩)
    · cases e
  · rename_i w1 xs w2 ys
    split at e
    · rename_i hl
      cases e
      obtain ⟨a,o,vs,fp',rfl,ho,hs,hr,hf⟩:=h1.node
      obtain ⟨a',o',vs',fp'',rfl,ho',hs',hr',hf'⟩:=h2.node
      cases hs; cases hs'
      have hk:(xs ++ ys).all D.kept = true:=by rw [List.all_append,hl.2.1,hl.2.2]; rfl
      exact .new (.inl rfl) hk (hr.append hr') rfl fun Q q=>.inr (.inl ⟨a,a',vs,vs',rfl,rfl,ho,ho',by rw [← hr.length,← hr'.length]; exact sz_of hl.1,q⟩)
    · cases e
  · rename_i xs ys
    split at e
    · rename_i hl
      cases e
      obtain ⟨a,o,vs,fp',rfl,ho,hs,hr,hf⟩:=h1.node
      obtain ⟨a',o',vs',fp'',rfl,ho',hs',hr',hf'⟩:=h2.node
      cases hs; cases hs'
      have l1:=hr.length
      have l2:=hr'.length
      have hz:vs.length + vs'.length ≤ sizeLine:=by rw [← l1,← l2]; exact sz_of hl.1
      have hk:(xs ++ ys).all D.kept = true:=by rw [List.all_append,hl.2.1,hl.2.2]; rfl
      by_cases hx:xs = []
      · subst hx
        have hv:vs = []:=List.eq_nil_of_length_eq_zero (by rw [← l1]; rfl)
        subst hv
        rw [List.nil_append]
        exact .old rfl h2 fun Q q=>.inr (.inr ⟨a,a',[],vs',rfl,rfl,SqT.of ho,SqT.of ho',hz,fun _=>q,fun z=>absurd rfl z,fun z=>absurd rfl z⟩)
      · have hv:vs ≠ []:=fun z=>hx (List.eq_nil_of_length_eq_zero (by rw [l1,z]; rfl))
        by_cases hy:ys = []
        · subst hy
          have hv':vs' = []:=List.eq_nil_of_length_eq_zero (by rw [← l2]; rfl)
          subst hv'
          rw [List.append_nil]
          exact .old rfl h1 fun Q q=>.inr (.inr ⟨a,a',vs,[],rfl,rfl,SqT.of ho,SqT.of ho',hz,fun z=>absurd z hv,fun _ _=>q,fun _ z=>absurd rfl z⟩)
        · have hv':vs' ≠ []:=fun z=>hy (List.eq_nil_of_length_eq_zero (by rw [l2,z]; rfl))
          exact .new (.inr rfl) hk (hr.append hr') rfl fun Q q=>.inr (.inr ⟨a,a',vs,vs',rfl,rfl,SqT.of ho,SqT.of ho',hz,fun z=>absurd z hv,fun _ z=>absurd z hv',fun _ _=>q⟩)
    · cases e
  · cases e
def mulA (x y:D):Option D:=match x,y with
  | .v (.int i),.v (.int j)=>if cMul i j then some (.int (i * j)) else none
  | .n .lst _ xs,.v (.int k)=>if 0 ≤ k ∧ k ≤ 1000 ∧ xs.length ≤ 1000 ∧ xs.all D.kept = true then some (.n .lst .own (List.replicate k.toNat xs).flatten) else none
  | _,_=>none
def rMulA:R2:=fun x y H Q=>(rI CMul fun i j=>.int (i * j)) x y H Q ∨ rRep x y H Q
theorem Zom:OpR X (binaryOp .Mult) rMulA:=op_mul.or op_rep
theorem Rps.rep {xs:List D} {fp:List Addr} (h:Rps cl A L H b xs vs fp) (hk:xs.all D.kept = true):∀ n:Nat,Rps cl A L H true (List.replicate n xs).flatten (List.replicate n vs).flatten []
  | 0=>by simp [Rps]
  | n + 1=>by
    rw [List.replicate_succ,List.replicate_succ,List.flatten_cons,List.flatten_cons]
    have h2:=(h.keptS hk).weak (b:=true)
    exact h2.append (Rps.rep h hk n)
theorem na_mul:NA cl (rL2 rMulA) (f2 mulA):=NA.two fun A L H x y u w fp gp z ad h1 h2 e=>by
  unfold mulA at e
  split at e
  · rename_i i j'
    split at e
    · rename_i hc
      cases e
      obtain ⟨rfl,_,_⟩:=h1.leafv
      obtain ⟨rfl,_,_⟩:=h2.leafv
      exact .sc rfl fun Q q=>.inl ⟨i,j',rfl,rfl,Zo9 _ _ hc,q⟩
    · cases e
  · rename_i w1 xs k
    split at e
    · rename_i hl
      cases e
      obtain ⟨a,o,vs,fp',rfl,ho,hs,hr,hf⟩:=h1.node
      cases hs
      obtain ⟨rfl,_,_⟩:=h2.leafv
      have hk:((List.replicate k.toNat xs).flatten).all D.kept = true:=by
        rw [List.all_eq_true]
        intro x hx
        obtain ⟨l,hl2,hx⟩:=List.mem_flatten.mp hx
        rw [List.eq_of_mem_replicate hl2] at hx
        exact List.all_eq_true.mp hl.2.2.2 x hx
      refine .new (.inl rfl) hk (hr.rep hl.2.2.2 _) rfl fun Q q=>.inr ⟨a,k,vs,rfl,rfl,ho,by omega,by omega,?_,q⟩
      have l1:=hr.length
      have h5:vs.length * k.toNat ≤ 1000 * 1000:=Nat.mul_le_mul (by omega) (by omega)
      exact Nat.le_trans h5 (by decide)
    · cases e
  · cases e
end
end Fs
set_option maxHeartbeats 1000000
namespace Fs
open PySem PySem.Spec PyProof.Rows L2
section
variable {cl:Ec} {xf:Nat → List Str} {W:WX} {ws:Nat → Bool} {A A' L L' B:Addr → Prop} {H H':Hp} {δ δ':Sl} {σ σ':L2.St} {p q b:Bool} {te ta tb tc:TE} {tA:TA} {tt tu:TT} {t u:TS} {ts:List D} {vs:List V}
variable {X:Cx} {e a c o e2:Expr} {es:List Expr} {pos pp p2 apos:Pos}
def isiTD (ty:List String) (x:D):Option D:=(tyD x).map fun s=>.bl (ty.any fun c=>isTy s c)
def rIsiT2 (K:PySem.W.Frag) (t1 t2:String):V → Hp → VK → Prop:=fun x H Q=>[V.ty t1,V.ty t2].length ≤ sizeLine ∧ ∀ p,H p = none → rIsiT K [x,.ref p] (upd H p (.tup [.ty t1,.ty t2])) Q
theorem ZoP {K:PySem.W.Frag}:∀ t1 ∈ ["list","tuple"],∀ t2 ∈ ["list","tuple"],∀ s ∈ Zh7,PySem.W.kitAny K (.type s) [.type t1,.type t2] = some ([t1,t2].any fun c=>isTy s c):=by
  intro t1 h1 t2 h2 s hs
  have k1:=kit_ty (K:=K) (Zix t1 (by simp at h1 ⊢; rcases h1 with rfl | rfl <;> simp) s hs)
  have k2:=kit_ty (K:=K) (Zix t2 (by simp at h2 ⊢; rcases h2 with rfl | rfl <;> simp) s hs)
  unfold PySem.W.kitAny
  rw [k1]
  cases hh1:isTy s t1 with
  | true=>simp_all
  | false =>
    simp only
    unfold PySem.W.kitAny
    rw [k2]
    cases hh2:isTy s t2 with
    | true=>simp_all
    | false=>simp_all [PySem.W.kitAny]
theorem Zlo {t1 t2:String} (h1:t1 ∈ ["list","tuple"]) (h2:t2 ∈ ["list","tuple"]):NOp cl (rL1 (rIsiT2 cl.K t1 t2)) (f1 (isiTD [t1,t2])):=by
  intro p A L B H ts ws δ σ xs us z Q j hr e k
  unfold f1 at e
  split at e
  · obtain ⟨u,fp,rfl,h⟩:=hr.one
    obtain ⟨s,e1,rfl⟩:=Option.map_eq_some_iff.mp e
    refine ⟨by show 2 ≤ sizeLine; decide,fun p0 hp=>?_⟩
    have hs:∀ a o,H a = some o → (upd H p0 (.tup [.ty t1,.ty t2])) a = some o:=fun a o q=>by rw [upd_ne (ne_of_none q hp)]; exact q
    have h':Rp cl (fun a=>A a ∧ a ≠ p0) (fun a=>L a ∧ a ≠ p0) (upd H p0 (.tup [.ty t1,.ty t2])) true _ u fp:=h.step (fun a o q n _=>⟨hs a o q,fun z=>n z.1⟩) (fun a ha=>by
      have:=h.inA a ha
      obtain ⟨q1,o,q2⟩:=this
      exact ⟨by rw [hs a o q2,q2],q1,ne_of_none q2 hp⟩) (fun _ a hl=>by
      have ha:=j.ad a (j.ba a (j.lb a hl))
      have ne:a ≠ p0:=fun z=>ha (by rw [z]; exact hp)
      exact ⟨upd_ne ne,hl,ne⟩)
    have ty:=h'.ty (K:=cl.K) e1
    have g:=j.grow (o:=.tup [.ty t1,.ty t2]) hp
    exact ⟨u,p0,_,.type s,[.type t1,.type t2],_,rfl,upd_same,.cons (.ty t1) (.cons (.ty t2) .nil),ty,ZoP t1 h1 t2 h2 s (ZkW e1),k _ _ _ g.1 (g.2.leaf rfl)⟩
  · cases e
theorem o_isiT {t1 t2:String} {n1 n2:Str} {q1 q2 q3:Pos} {kk:Nat} (hK:X.K = cl.K) (hm:X.mg "isinstance" = none) (hm1:X.mg n1 = none) (hm2:X.mg n2 = none) (hv1:bootBuiltins n1 = some (.type t1)) (hv2:bootBuiltins n2 = some (.type t2)) (hg:Gl X "isinstance":=by rfl) (hg1:Gl X n1:=by rfl) (hg2:Gl X n2:=by rfl)
    (hn1:n1 ≠ "__name__":=by decide) (hd1:(n1 == ("__debug__":Str)) = false:=by decide) (hn2:n2 ≠ "__name__":=by decide) (hd2:(n2 == ("__debug__":Str)) = false:=by decide)
    (s1:starEach [a,.Tuple [.Name n1 q1,.Name n2 q2] kk q3] X.env = (false,eval a X.env) :: starEach [.Tuple [.Name n1 q1,.Name n2 q2] kk q3] X.env:=by rfl) (s2:starEach [.Tuple [.Name n1 q1,.Name n2 q2] kk q3] X.env = (false,eval (.Tuple [.Name n1 q1,.Name n2 q2] kk q3) X.env) :: starEach [] X.env:=by rfl)
    (s3:(backTo pos (starEach [.Tuple [.Name n1 q1,.Name n2 q2] kk q3] X.env)).any (·.1) = false:=by rfl) (s4:starEach [.Name n1 q1,.Name n2 q2] X.env = (false,eval (.Name n1 q1) X.env) :: starEach [.Name n2 q2] X.env:=by rfl) (s5:starEach [.Name n2 q2] X.env = (false,eval (.Name n2 q2) X.env) :: starEach [] X.env:=by rfl) :
    BN X (.Call (.Name "isinstance" pp) [a,.Tuple [.Name n1 q1,.Name n2 q2] kk q3] [] pos) [a] (rL1 (rIsiT2 cl.K t1 t2)):=fun tes h=>by
  cases h with
  | cons h1 h=>cases h with
    | nil =>
      rw [← hK]
      have h9:=pe_callB (X:=X) (p:=pp) (pos:=pos) call_isiT hg hm PyProof.Rows.boot_isinstance (pa_cons h1 (pa_cons (pe_tup (pa_cons (pe_bltn (v:=.ty t1) hg1 hm1 hv1 rfl hn1 hd1) (pa_cons (pe_bltn (v:=.ty t2) hg2 hm2 hv2 rfl hn2 hd2) pa_nil s5) s4)) pa_nil s2) s1) (by decide) (by decide) s1 s3
      exact ⟨fun pins s σ H Q I hq=>h9.run pins s σ H Q I hq⟩
def tyF (T:String) (x:D):Option D:=match x with
  | .n .lst _ _=>if T = "list" then some x else none
  | .s _=>if T = "list" then some x else none
  | .n (.dct _) .own _=>if T = "dict" then some x else none
  | .v (.str _)=>if T = "str" then some x else none
  | _=>none
def rTy (K:PySem.W.Frag) (T:String):V → Hp → VK → Prop:=fun x H Q=>tyV K T x H ∧ Q x H
theorem tyF_ok {T:String} {x z:D} {v:V} {fp:List Addr} (h:Rp cl A L H true x v fp) (e:tyF T x = some z):z = x ∧ tyV cl.K T v H:=by
  unfold tyF at e
  split at e
  · split at e
    · rename_i hT
      cases e
      obtain ⟨a,vs,fp',rfl,ho,_⟩:=h.seqL rfl
      exact ⟨rfl,.inl ⟨hT,vs,ho⟩⟩
    · cases e
  · split at e
    · rename_i hT
      cases e
      obtain ⟨a,vs,fp',rfl,ho,_⟩:=h.seqL rfl
      exact ⟨rfl,.inl ⟨hT,vs,ho⟩⟩
    · cases e
  · split at e
    · rename_i hT
      cases e
      simp only [Rp] at h
      obtain ⟨a,o,vs,rfl,ho,hs,_⟩:=h
      obtain ⟨⟨hl,rfl⟩,_⟩:=hs.own
      exact ⟨rfl,.inr (.inr (.inl ⟨hT,.inl ⟨_,ho⟩⟩))⟩
    · cases e
  · split at e
    · rename_i hT
      cases e
      obtain ⟨rfl,_,_⟩:=h.leafv
      exact ⟨rfl,hT⟩
    · cases e
  · cases e
theorem pun_ty {T:String}:PUn cl (rTy cl.K T) (tyF T):=by
  intro A L H x u f1 z Q h e k
  obtain ⟨rfl,h2⟩:=tyF_ok h e
  exact ⟨h2,k u f1 h fun _ ha=>ha⟩
/-- the receiver as an operand -/
def RoT (cl:Ec) (xf:Nat → List Str) (X:Cx) (W:WX) (T:String) (e:Expr) (od:Od):Prop:=∃ te,PE X e te ∧ ∀ tA os,SN cl xf W tA os → SN cl xf W (tCons (tUn (rTy cl.K T) te) tA) (od :: os)
theorem rt_k {T:String} {pa:PP} (h:Rk cl X e pa):RoT cl xf X W T e (.k (pUn (tyF T) pa)):=by obtain ⟨te,h1,h2⟩:=h; exact ⟨te,h1,fun _ _ h=>sn_k (sp_un pun_ty h2) h⟩
/-- the text of such a call -/
def BM (cl:Ec) (X:Cx) (T:String) (e o:Expr) (es:List Expr) (R:List V → Hp → VK → Prop):Prop:=∀ to tes,PE X o to → PEs X es tes → PE X e (tF R (tCons (tUn (rTy cl.K T) to) (tAll tes)))
theorem d_m {T:String} {R:List V → Hp → VK → Prop} {F:List D → Option D} {od:Od} {os:List Od} (om:BM cl X T e o es R) (h:NOp cl R F) (ho:RoT cl xf X W T o od) (hr:Rn cl xf X W es os):Rd cl xf X W p e (dN F (od :: os)):=by
  obtain ⟨to,h1,h2⟩:=ho
  obtain ⟨tes,h3,h4⟩:=hr
  exact ⟨_,om _ _ h1 h3,se_n h (h2 _ _ h4)⟩
def rM (r:V → List V → Hp → VK → Prop):List V → Hp → VK → Prop:=fun us H Q=>match us with | x :: xs=>r x xs H Q | []=>False
theorem bm_1 {T id:String} {name:Str} {r:V → List V → Hp → VK → Prop} (hK:X.K = cl.K) (pa:PlainAttrs T) (slot:Slot T name id) (hty:typeOf (.builtin id) = pure (.type "method_descriptor")) (hm:MtR X id r)
    (hbase:attributeBase o name X.env (eval o X.env) = eval o X.env:=by rfl)
    (hfew:((backTo pos (starEach [e] X.env)).all (fun x=>!x.1) && (backToKw pos (keywordEach [] X.env)).all (fun x=>x.1.isSome) && decide (([e]:List Expr).length + ([]:List Keyword).length + (if ([]:List Keyword).isEmpty then 0 else 1) < 30)) = true:=by rfl)
    (hline:(apos.endLine == pos.line) = true:=by rfl) (hs:starEach [e] X.env = (false,eval e X.env) :: starEach [] X.env:=by rfl) (hplain:(backTo pos (starEach [] X.env)).any (·.1) = false:=by rfl) :
    BM cl X T (.Call (.Attribute o name apos) [e] [] pos) o [e] (rM r):=fun to tes h1 h=>by
  cases h with
  | cons h2 h=>cases h with
    | nil =>
      rw [← hK]
      exact pe_bm pa slot hty hm h1 (pa_cons h2 pa_nil hs) hbase hfew hline hs hplain
def idxV (x:V):List V → Option Nat
  | []=>none
  | y :: ys=>if eqV y x then some 0 else (idxV x ys).map (· + 1)
theorem ZlT {x:V}:∀ {ys:List V} {n:Nat},idxV x ys = some n → ∃ z,ys[n]? = some z ∧ eqV z x = true ∧ ∀ (m:Nat) (z':V),m < n → ys[m]? = some z' → eqV z' x = false
  | [],n,h=>by cases h
  | y :: ys,n,h=>by
    unfold idxV at h
    split at h
    · rename_i he
      cases h
      exact ⟨y,rfl,he,fun m z' hm=>absurd hm (Nat.not_lt_zero _)⟩
    · rename_i he
      obtain ⟨k,h1,rfl⟩:=Option.map_eq_some_iff.mp h
      obtain ⟨z,h2,h3,h4⟩:=ZlT h1
      refine ⟨z,h2,h3,fun m z' hm hz=>?_⟩
      cases m with
      | zero=>cases hz; exact Bool.eq_false_iff.mpr he
      | succ m=>exact h4 m z' (by omega) hz
def indexD:List D → Option D
  | [x,.v y]=>(seqL x).bind fun ds=>(valsD ds).bind fun vs=>(idxV y vs).map fun (n:Nat)=>D.int (n:Int)
  | _=>none
theorem Zne:NA cl (rM (rIndex cl.K)) indexD:=by
  intro A L H xs us z ad hr e
  unfold indexD at e
  split at e
  · obtain ⟨u,w,fp,gp,rfl,h1,h2⟩:=hr.two
    obtain ⟨ds,e1,e2⟩:=Option.bind_eq_some_iff.mp e
    obtain ⟨vs,e3,e4⟩:=Option.bind_eq_some_iff.mp e2
    obtain ⟨n,e5,rfl⟩:=Option.map_eq_some_iff.mp e4
    obtain ⟨a,vs',fp',rfl,ho,hr'⟩:=h1.seqL e1
    obtain ⟨rfl,hf⟩:=ZgB hr' e3
    obtain ⟨rfl,_,hs⟩:=h2.leafv
    obtain ⟨z,q1,q2,q3⟩:=ZlT e5
    exact .sc rfl fun Q q=>⟨a,vs',w,n,z,rfl,rfl,ho,ZiE hs,hf,q1,q2,q3,q⟩
  · cases e
/-- str(x) -/
def strD (x:D):Option D:=match x with
  | .v (.int i)=>if i.natAbs < 2 ^ 1000 then some (.str (toString i)) else none
  | .v (.str s)=>some (.str s)
  | _=>none
def rStr:V → Hp → VK → Prop:=fun x H Q=>(∃ i,[x] = [.int i] ∧ i.natAbs.log2 < 1920 ∧ Q (.str (toString i)) H) ∨ (∃ a,[x] = [.str a] ∧ Q (.str a) H)
theorem na_str:NA cl (rL1 rStr) (f1 strD):=NA.one fun A L H x u fp z ad h e=>by
  unfold strD at e
  split at e
  · rename_i i
    split at e
    · rename_i hi
      cases e
      obtain ⟨rfl,_,_⟩:=h.leafv
      refine .sc rfl fun Q q=>.inl ⟨i,rfl,?_,q⟩
      by_cases h0:i.natAbs = 0
      · rw [h0]; decide
      · exact Nat.lt_of_lt_of_le ((Nat.log2_lt h0).mpr hi) (by decide)
    · cases e
  · rename_i s
    cases e
    obtain ⟨rfl,_,_⟩:=h.leafv
    exact .sc rfl fun Q q=>.inr ⟨s,rfl,q⟩
  · cases e
def rev3:List D → Option D
  | [x,.v (.int k)]=>(seqL x).bind fun ds=>if ds.all D.kept then (if k = 1 then some (.n .lst .own ds) else if k = -1 then some (.n .lst .own ds.reverse) else none) else none
  | _=>none
theorem Rps.reverse:∀ {ds:List D} {vs:List V} {fp:List Addr},Rps cl A L H b ds vs fp → ds.all D.kept = true → Rps cl A L H b ds.reverse vs.reverse []
  | [],vs,fp,h,_=>by simp only [Rps] at h; rw [h.1]; simp [Rps]
  | d :: ds,vs,fp,h,hk=>by
    have h0:=h.keptS hk
    simp only [Rps] at h
    obtain ⟨v,vs',f1,f2,rfl,rfl,h3,h4⟩:=h
    simp only [List.all_cons,Bool.and_eq_true] at hk
    rw [List.reverse_cons,List.reverse_cons]
    have h5:=(h3.strong hk.1).1.weak (b:=b)
    have e5:=(h3.strong hk.1).2
    subst e5
    have h6:Rps cl A L H b [d] [v] []:=by simp only [Rps]; exact ⟨v,[],[],[],rfl,rfl,h5,rfl,rfl⟩
    exact (Rps.reverse h4 hk.2).append h6
end
end Fs
set_option maxHeartbeats 1000000
namespace Fs
open PySem PySem.Spec PyProof.Rows L2
def getP:List Nat → D → Option D
  | [],d=>some d
  | i :: π,.n _ _ ds=>(ds[i]?).bind (getP π)
  | _ :: _,_=>none
def Kd.isDcl:Kd → Bool | .dcl _=>true | _=>false
/-- owned all along the path -/
def ownP:List Nat → D → Bool
  | [],_=>true
  | i :: π,.n k .own ds=>!k.isDcl && (match ds[i]? with
    | some c=>ownP π c
    | none=>false)
  | _ :: _,_=>false
def setP:List Nat → D → D → D
  | [],_,d'=>d'
  | i :: π,.n k w ds,d'=>.n k w (match ds[i]? with
    | some c=>ds.set i (setP π c d')
    | none=>ds)
  | _ :: _,d,_=>d
/-- what an object holds -/
def kids:HO → Option (List V)
  | .lst xs=>some xs
  | .tup xs=>some xs
  | .dK kvs=>some (kvs.map Prod.snd)
  | .ins _ _ fs=>some (fs.map Prod.snd)
  | _=>none
def AtP (H:Hp):V → List Nat → V → Prop
  | v,[],w=>v = w
  | v,i :: π,w=>∃ a o vs v1,v = .ref a ∧ H a = some o ∧ kids o = some vs ∧ vs[i]? = some v1 ∧ AtP H v1 π w
section
variable {cl:Ec} {xf:Nat → List Str} {W:WX} {ws:Nat → Bool} {A A' L L' B:Addr → Prop} {H H':Hp} {δ δ':Sl} {σ σ':L2.St} {p q b:Bool} {te ta tb tc:TE} {tA:TA} {tt tu:TT} {t u:TS} {ts:List D} {vs:List V}
theorem Shape.kids {k:Kd} {a:Addr} {o:HO} (h:Shape cl k a vs o) (hm:k.mut = true) (hk:k.isDcl = false):kids o = some vs:=by
  cases k with
  | tup=>cases h; rfl
  | lst=>cases h; rfl
  | dct ks=>obtain ⟨hl,rfl⟩:=h; simp only [Fs.kids]; rw [Zgz ks vs hl]
  | dcl ks=>cases hk
  | obj c fs=>obtain ⟨hl,dx,rfl⟩:=h; simp only [Fs.kids]; rw [Zgz fs vs hl]
  | fn i=>cases hm
  | code q=>cases hm
  | cell=>cases hm
theorem Rps.at_:∀ {ds:List D} {vs:List V} {fp:List Addr} {n:Nat} {d:D},Rps cl A L H false ds vs fp → ds[n]? = some d → ∃ v f1 fn f2,vs[n]? = some v ∧ fp = f1 ++ (fn ++ f2) ∧ Rp cl A L H false d v fn ∧
    ∀ A2 L2 H2 d' fn',(∀ a o,H a = some o → ¬ A a → NT o → H2 a = some o ∧ ¬ A2 a) → (∀ a ∈ f1 ++ f2,H2 a = H a ∧ A2 a) → Rp cl A2 L2 H2 false d' v fn' → Rps cl A2 L2 H2 false (ds.set n d') vs (f1 ++ (fn' ++ f2))
  | [],vs,fp,n,d,h,e=>by simp at e
  | d0 :: ds,vs,fp,0,d,h,e=>by
    simp only [Rps] at h
    obtain ⟨v,vs',f1,f2,rfl,rfl,h3,h4⟩:=h
    cases e
    refine ⟨v,[],f1,f2,rfl,rfl,h3,fun A2 L2 H2 d' fn' hk hf hd=>?_⟩
    simp only [List.set_cons_zero,List.nil_append,Rps]
    exact ⟨v,vs',fn',f2,rfl,rfl,hd,h4.step hk (fun a ha=>hf a (by simpa using ha)) (by simp)⟩
  | d0 :: ds,vs,fp,n + 1,d,h,e=>by
    simp only [Rps] at h
    obtain ⟨v,vs',f1,f2,rfl,rfl,h3,h4⟩:=h
    obtain ⟨w,g1,gn,g2,k1,rfl,k3,k4⟩:=Rps.at_ h4 (by simpa using e)
    refine ⟨w,f1 ++ g1,gn,g2,by simpa using k1,by simp,k3,fun A2 L2 H2 d' fn' hk hf hd=>?_⟩
    simp only [List.set_cons_succ,Rps,List.append_assoc]
    refine ⟨v,vs',f1,g1 ++ (fn' ++ g2),rfl,rfl,h3.step hk (fun a ha=>hf a (by simp [ha])) (by simp),k4 A2 L2 H2 d' fn' hk (fun a ha=>hf a ?_) hd⟩
    rcases List.mem_append.mp ha with ha | ha
    · simp [ha]
    · simp [ha]
theorem Zim {xs ys:List Addr} (h:∀ x,xs.count x = ys.count x):xs.Perm ys:=List.perm_iff_count.mpr h
theorem Rp.focus:∀ {π:List Nat} {d c:D} {v:V} {fp:List Addr},Rp cl A L H false d v fp → getP π d = some c → ownP π d = true → ∃ vc fc fr,AtP H v π vc ∧ Rp cl A L H false c vc fc ∧ fp.Perm (fc ++ fr) ∧
    ∀ A2 L2 H2 c' fc',(∀ a o,H a = some o → ¬ A a → NT o → H2 a = some o ∧ ¬ A2 a) → (∀ a ∈ fr,H2 a = H a ∧ A2 a) → Rp cl A2 L2 H2 false c' vc fc' → ∃ fp',Rp cl A2 L2 H2 false (setP π d c') v fp' ∧ fp'.Perm (fc' ++ fr)
  | [],d,c,v,fp,h,e,_=>by
    cases e
    refine ⟨v,fp,[],rfl,h,by simp,fun A2 L2 H2 c' fc' hk hf hc=>⟨fc',hc,by simp⟩⟩
  | i :: π,.v x,c,v,fp,h,e,_=>by simp [getP] at e
  | i :: π,.s x,c,v,fp,h,e,_=>by simp [getP] at e
  | i :: π,.n k .shr ds,c,v,fp,h,e,ho=>by simp [ownP] at ho
  | i :: π,.n k .bor ds,c,v,fp,h,e,ho=>by simp [ownP] at ho
  | i :: π,.n k .own ds,c,v,fp,h,e,ho=>by
    simp only [getP] at e
    obtain ⟨d1,e1,e2⟩:=Option.bind_eq_some_iff.mp e
    simp only [ownP,e1,Bool.and_eq_true,Bool.not_eq_true'] at ho
    simp only [Rp] at h
    obtain ⟨a,o,vs,rfl,h2,h3,h4,fp',rfl,h6⟩:=h
    obtain ⟨v1,f1,fn,f2,k1,rfl,k3,k4⟩:=h6.at_ e1
    obtain ⟨vc,fc,fr,q1,q2,q3,q5⟩:=Rp.focus k3 e2 ho.2
    refine ⟨vc,fc,a :: (f1 ++ (fr ++ f2)),⟨a,o,vs,v1,rfl,h2,h3.own.1.kids h3.own.2 ho.1,k1,q1⟩,q2,Zim fun x=>?_,fun A2 L2 H2 c' fc' hk hf hc=>?_⟩
    · have:=List.perm_iff_count.mp q3 x
      simp only [List.count_cons,List.count_append] at this ⊢
      omega
    · obtain ⟨fn',r1,r2⟩:=q5 A2 L2 H2 c' fc' hk (fun x hx=>hf x (by simp [hx])) hc
      have r3:=k4 A2 L2 H2 _ fn' hk (fun x hx=>hf x (by rcases List.mem_append.mp hx with z | z <;> simp [z])) r1
      have ha:=hf a (by simp)
      refine ⟨a :: (f1 ++ (fn' ++ f2)),?_,Zim fun x=>?_⟩
      · simp only [setP,e1,Rp]
        exact ⟨a,o,vs,rfl,ha.1.trans h2,h3,ha.2,_,rfl,r3⟩
      · have:=List.perm_iff_count.mp r2 x
        simp only [List.count_cons,List.count_append] at this ⊢
        omega
/-- a thing within a slot,to be changed -/
theorem Jt.focus {i:Nat} {π:List Nat} {d c:D} (j:Jt false cl A L B H ts vs δ σ) (hi:(δ[i]?).join = some d) (hfr:d.free = true) (hp:getP π d = some c) (ho:ownP π d = true) :
    ∃ v0 vc B',σ[i]? = some (some v0) ∧ AtP H v0 π vc ∧ (∀ a,B a → B' a) ∧ (∀ a,L a → B' a) ∧ Jt false cl A L B' H (c :: ts) (vc :: vs) (δ.set i none) σ ∧
    ∀ A2 H2 c' ts2 ws2 δ2,δ2[i]? = some none → Nx A B' H A2 H2 → Jt false cl A2 L B' H2 (c' :: ts2) (vc :: ws2) δ2 σ → Jt false cl A2 L B H2 ts2 ws2 (δ2.set i (some (setP π d c'))) σ:=by
  obtain ⟨f,g,h1,h2,h3,h4,h5⟩:=j.ex
  have nd:=List.nodup_append.mp h3
  obtain ⟨v0,f1,f2,k1,k2,k3,k4,k5⟩:=h2.take (join_some hi) nd.2.1
  obtain ⟨vc,fc,fr,q1,q2,q3,q4⟩:=(k2.free hfr).focus hp ho
  have frA:∀ a ∈ fr,A a:=fun a ha=>(k2.inA a (q3.mem_iff.mpr (List.mem_append_right _ ha))).1
  have f1g:∀ a ∈ f1,a ∈ g:=fun a ha=>(k5 a).mp (List.mem_append_left _ ha)
  have f2g:∀ a ∈ f2,a ∈ g:=fun a ha=>(k5 a).mp (List.mem_append_right _ ha)
  have nd1:=List.nodup_append.mp k4
  have ndq:=List.nodup_append.mp (q3.nodup_iff.mp nd1.1)
  have fcf1:∀ a ∈ fc,a ∈ f1:=fun a ha=>q3.mem_iff.mpr (List.mem_append_left _ ha)
  have frf1:∀ a ∈ fr,a ∈ f1:=fun a ha=>q3.mem_iff.mpr (List.mem_append_right _ ha)
  refine ⟨v0,vc,fun a=>B a ∨ a ∈ fr,k1,q1,fun a h=>.inl h,fun a h=>.inl (j.lb a h),⟨⟨fc ++ f,f2,?_,k3,?_,?_,?_⟩,fun a h=>.inl (j.lb a h),fun a h=>h.elim (j.ba a) (frA a),j.ad,j.tb⟩,?_⟩
  · simp only [Rps]
    exact ⟨vc,vs,fc,f,rfl,rfl,q2,h1⟩
  · rw [List.append_assoc]
    refine List.nodup_append.mpr ⟨ndq.1,List.nodup_append.mpr ⟨nd.1,nd1.2.1,fun a ha c hc=>nd.2.2 a ha c (f2g c hc)⟩,fun a ha c hc e=>?_⟩
    subst e
    rcases List.mem_append.mp hc with z | z
    · exact nd.2.2 a z a (f1g a (fcf1 a ha)) rfl
    · exact nd1.2.2 a (fcf1 a ha) a z rfl
  · intro a ha
    rintro (z | z)
    · rcases List.mem_append.mp ha with q | q
      · exact h5 rfl a (f1g a (fcf1 a q)) z
      · exact h4 a q z
    · rcases List.mem_append.mp ha with q | q
      · exact ndq.2.2 a q a z rfl
      · exact nd.2.2 a q a (f1g a (frf1 a z)) rfl
  · intro _ a ha
    rintro (z | z)
    · exact h5 rfl a (f2g a ha) z
    · exact nd1.2.2 a (frf1 a z) a ha rfl
  · intro A2 H2 c' ts2 ws2 δ2 e2 n j2
    obtain ⟨F,G,m1,m2,m3,m4,m5⟩:=j2.ex
    simp only [Rps] at m1
    obtain ⟨w,ws',g1,g2,e3,rfl,m6,m7⟩:=m1
    cases e3
    have frp:∀ a ∈ fr,H2 a = H a ∧ A2 a:=fun a ha=>n.prot a (.inr ha)
    obtain ⟨fp',r1,r2⟩:=q4 A2 L H2 c' g1 n.both frp m6
    rw [List.append_assoc] at m3
    have nd3:=List.nodup_append.mp m3
    have nd4:=List.nodup_append.mp nd3.2.1
    have g1fr:∀ a ∈ g1,a ∉ fr:=fun a ha z=>m4 a (List.mem_append_left _ ha) (.inr z)
    have g2fr:∀ a ∈ g2,a ∉ fr:=fun a ha z=>m4 a (List.mem_append_right _ ha) (.inr z)
    have Gfr:∀ a ∈ G,a ∉ fr:=fun a ha z=>m5 rfl a ha (.inr z)
    have ndp:fp'.Nodup:=r2.nodup_iff.mpr (List.nodup_append.mpr ⟨nd3.1,ndq.2.1,fun a ha c hc e=>by subst e; exact g1fr a ha hc⟩)
    have hlen:i < δ2.length:=(List.getElem?_eq_some_iff.mp e2).1
    have ndG:(fp' ++ G).Nodup:=List.nodup_append.mpr ⟨ndp,nd4.2.1,fun a ha c hc e=>by
      subst e
      rcases List.mem_append.mp (r2.mem_iff.mp ha) with z | z
      · exact nd3.2.2 a z a (List.mem_append_right _ hc) rfl
      · exact Gfr a hc z⟩
    obtain ⟨G',s1,s2,s3⟩:=m2.put (d:=setP π d c') (v:=v0) hlen r1.weak ndG
    rw [ZdS k1] at s1
    have nB:∀ a,a ∈ fp' → ¬ B a:=fun a ha z=>by
      rcases List.mem_append.mp (r2.mem_iff.mp ha) with q | q
      · exact m4 a (List.mem_append_left _ q) (.inl z)
      · exact h5 rfl a (f1g a (frf1 a q)) z
    refine ⟨⟨g2,G',m7,s1,List.nodup_append.mpr ⟨nd4.1,s2,fun a ha c hc e=>?_⟩,fun a ha z=>m4 a (List.mem_append_right _ ha) (.inl z),fun _ a ha z=>?_⟩,j.lb,fun a h=>j2.ba a (.inl h),j2.ad,j2.tb⟩
    · subst e
      rcases List.mem_append.mp (s3 a hc) with z | z
      · rcases List.mem_append.mp (r2.mem_iff.mp z) with q | q
        · exact nd3.2.2 a q a (List.mem_append_left _ ha) rfl
        · exact g2fr a ha q
      · exact nd4.2.2 a ha a z rfl
    · rcases List.mem_append.mp (s3 a ha) with q | q
      · exact nB a q z
      · exact m5 rfl a q (.inl z)
end
end Fs
set_option maxHeartbeats 1000000
namespace Fs
open PySem PySem.Spec PyProof.Rows L2
section
variable {cl:Ec} {xf:Nat → List Str} {W:WX} {ws:Nat → Bool} {A A' L L' B:Addr → Prop} {H H':Hp} {δ δ':Sl} {σ σ':L2.St} {p q b:Bool} {te ta tb tc:TE} {tA:TA} {tt tu:TT} {t u:TS} {ts:List D} {vs:List V}
/-- an owned node in hand: what it holds,and how it is renewed -/
theorem Jt.renew {k:Kd} {ds:List D} {v:V} {wv:List V} (j:Jt false cl A L B H (.n k .own ds :: ts) (v :: wv) δ σ) :
    ∃ a o us,v = .ref a ∧ H a = some o ∧ Shape cl k a us o ∧ ds.length = us.length ∧ (∃ ft,Rps cl A L H false ts wv ft) ∧ ∀ k' ds' us' o' ts' wv',Shape cl k' a us' o' →
      (∀ fk ft,Rps cl A L H false ds us fk → Rps cl A L H false ts wv ft → ∃ f' g',Rps cl A L H false ds' us' f' ∧ Rps cl A L H false ts' wv' g' ∧ ∀ x,(f' ++ g').count x ≤ (fk ++ ft).count x) → (hm':k'.mut = true:=by rfl) →
      Nx A B H A (upd H a o') ∧ Jt false cl A L B (upd H a o') (.n k' .own ds' :: ts') (.ref a :: wv') δ σ:=by
  obtain ⟨f,g,h1,h2,h3,h4,h5⟩:=j.ex
  simp only [Rps,Rp] at h1
  obtain ⟨v0,vs',f1,f2,e,rfl,⟨a,o,us,rfl,ho,hs,hA,fp',rfl,hk⟩,ht⟩:=h1
  cases e
  refine ⟨a,o,us,rfl,ho,hs.own.1,hk.length,⟨f2,ht⟩,fun k' ds' us' o' ts' wv' hs' hc hm'=>?_⟩
  obtain ⟨f',g',r1,r1',r2⟩:=hc fp' f2 hk ht
  have nd:=List.nodup_append.mp h3
  rw [List.cons_append] at nd
  have nd1:=List.nodup_cons.mp nd.1
  have hsub:∀ x ∈ f' ++ g',x ∈ fp' ++ f2:=fun x hx=>by
    have:=r2 x
    exact List.count_pos_iff.mp (Nat.lt_of_lt_of_le (List.count_pos_iff.mpr hx) this)
  have ndf:(f' ++ g').Nodup:=List.nodup_iff_count.mpr fun x=>Nat.le_trans (r2 x) (List.nodup_iff_count.mp nd1.2 x)
  have af:a ∉ f' ++ g':=fun z=>nd1.1 (hsub a z)
  have hst:∀ x u,H x = some u → ¬ A x → NT u → upd H a o' x = some u ∧ ¬ A x:=fun x u q n _=>⟨by rw [upd_ne (fun z=>n (by rw [z]; exact hA))]; exact q,n⟩
  have aB:¬ B a:=h4 a (by simp)
  have sf:∀ x ∈ f' ++ g',upd H a o' x = H x ∧ A x:=fun x hx=>⟨upd_ne (fun z=>af (by rw [← z]; exact hx)),by
    rcases List.mem_append.mp hx with z | z
    · exact (r1.inA x z).1
    · exact (r1'.inA x z).1⟩
  refine ⟨⟨fun x h=>.inl h,fun x u q n t=>(hst x u q n t).1,fun x h=>⟨upd_ne (fun z=>aB (by rw [← z]; exact h)),j.ba x h⟩,fun x h=>?_⟩,⟨⟨(a :: f') ++ g',g,?_,?_,?_,?_,h5⟩,j.lb,j.ba,fun x h=>?_,Tb.put j.tb ho hs.own.1 hs.own.2⟩⟩
  · by_cases z:x = a
    · rw [z,upd_same] at h; cases h
    · rw [upd_ne z] at h; exact h
  · simp only [Rps,Rp]
    refine ⟨.ref a,wv',a :: f',g',rfl,rfl,⟨a,o',us',rfl,upd_same,.inl ⟨hs',fun _=>hm'⟩,hA,f',rfl,r1.step hst (fun x hx=>sf x (List.mem_append_left _ hx)) (by simp)⟩,r1'.step hst (fun x hx=>sf x (List.mem_append_right _ hx)) (by simp)⟩
  · exact h2.step hst (fun x hx=>⟨upd_ne (fun z=>nd.2.2 a (by simp) x hx z.symm),(h2.inA x hx).1⟩) (fun x h=>⟨upd_ne (fun z=>aB (by rw [← z]; exact j.lb x h)),h⟩)
  · rw [List.cons_append,List.cons_append]
    refine List.nodup_cons.mpr ⟨fun z=>?_,List.nodup_append.mpr ⟨ndf,nd.2.1,fun x hx c hc=>nd.2.2 x (by rcases List.mem_append.mp (hsub x hx) with z | z <;> simp [z]) c hc⟩⟩
    rcases List.mem_append.mp z with z | z
    · exact af z
    · exact nd.2.2 a (by simp) a z rfl
  · intro x hx
    rw [List.cons_append] at hx
    rcases List.mem_cons.mp hx with rfl | hx
    · exact aB
    · exact h4 x (by rcases List.mem_append.mp (hsub x hx) with z | z <;> simp [z])
  · by_cases z:x = a
    · rw [z,upd_same]; simp
    · rw [upd_ne z]; exact j.ad x h
/-- an operation that changes its first thing: the thing behind it,and what it gives -/
def MOp (cl:Ec) (r:V → List V → Hp → VK → Prop) (op:D → List D → Option (D × D)):Prop:=∀ A L B H δ σ c v xs us c' y Q,Jt false cl A L B H (c :: xs) (v :: us) δ σ → op c xs = some (c',y) →
  (∀ w A' H',Nx A B H A' H' → Jt false cl A' L B H' [c',y] [v,w] δ σ → Q w H') → r v us H Q
theorem MOp.frz {r:V → List V → Hp → VK → Prop} {op:D → List D → Option (D × D)} (h:MOp cl r op):MOp cl r (fun c xs=>op c (frzs xs)):=by
  intro A L B H δ σ c v xs us c' y Q j e k
  obtain ⟨A1,n1,j1⟩:=j.freezeTail
  exact h A1 L B H δ σ c v (frzs xs) us c' y Q j1 e fun w A2 H2 n2 j2=>k w A2 H2 (n1.trans n2) j2
theorem rps_non {f:List Addr}:Rps cl A L H b [.non] [.non] f ↔ f = []:=by
  simp only [Rps,Rp]
  constructor
  · rintro ⟨v,vs,f1,f2,e,rfl,⟨_,_,rfl⟩,_,rfl⟩; rfl
  · rintro rfl; exact ⟨.non,[],[],[],rfl,rfl,⟨rfl,rfl,rfl⟩,rfl,rfl⟩
def putKs:List Key → Key → List Key
  | [],k=>[k]
  | k' :: ks,k=>if k' = k then k' :: ks else k' :: putKs ks k
def putVs {α:Type}:List Key → List α → Key → α → List α
  | [],xs,_,y=>xs ++ [y]
  | _ :: _,[],_,y=>[y]
  | k' :: ks,x :: xs,k,y=>if k' = k then y :: xs else x :: putVs ks xs k y
theorem Ze2 {k' k:Key} {ks:List Key} (h:k' ≠ k):putKs (k' :: ks) k = k' :: putKs ks k:=by
  simp only [putKs,if_neg h]
theorem Rps.setAt:∀ {ds:List D} {vs:List V} {fk fy:List Addr} {n:Nat} {d:D} {w:V},Rps cl A L H b ds vs fk → Rp cl A L H b d w fy → ∃ f',Rps cl A L H b (ds.set n d) (vs.set n w) f' ∧ ∀ x,f'.count x ≤ (fk ++ fy).count x
  | [],vs,fk,fy,n,d,w,h,hd=>by
    simp only [Rps] at h
    obtain ⟨rfl,rfl⟩:=h
    exact ⟨[],by simp [Rps],fun x=>by simp⟩
  | d0 :: ds,vs,fk,fy,0,d,w,h,hd=>by
    simp only [Rps] at h
    obtain ⟨v,vs',f1,f2,rfl,rfl,h3,h4⟩:=h
    refine ⟨fy ++ f2,by simp only [List.set_cons_zero,Rps]; exact ⟨w,vs',fy,f2,rfl,rfl,hd,h4⟩,fun x=>?_⟩
    simp only [List.count_append]; omega
  | d0 :: ds,vs,fk,fy,n + 1,d,w,h,hd=>by
    simp only [Rps] at h
    obtain ⟨v,vs',f1,f2,rfl,rfl,h3,h4⟩:=h
    obtain ⟨f',h5,h6⟩:=Rps.setAt (n:=n) h4 hd
    refine ⟨f1 ++ f',by simp only [List.set_cons_succ,Rps]; exact ⟨v,_,f1,f',rfl,rfl,h3,h5⟩,fun x=>?_⟩
    have:=h6 x
    simp only [List.count_append] at this ⊢
    omega
theorem Zni {ks:List Key} {vs:List V} {k:Key} {y:V} (h:k ∉ ks):(ks.zip vs).map (fun kv=>if kv.1 = k then (kv.1,y) else kv) = ks.zip vs:=by
  refine (List.map_congr_left fun kv hkv=>?_).trans (List.map_id _)
  rw [if_neg fun e=>h (by rw [← e]; exact (List.of_mem_zip hkv).1)]; rfl
theorem Zi9:∀ {ks:List Key} {vs:List V} (k:Key) (y:V),ks.Nodup → ks.length = vs.length → putK (ks.zip vs) k y = (putKs ks k).zip (putVs ks vs k y)
  | [],[],k,y,_,_=>by simp [putK,putKs,putVs]
  | [],_ :: _,k,y,_,h=>by cases h
  | _ :: _,[],k,y,_,h=>by cases h
  | k' :: ks,v :: vs,k,y,hn,h=>by
    have hn':=List.nodup_cons.mp hn
    have ih:=Zi9 (ks:=ks) (vs:=vs) k y hn'.2 (by simpa using h)
    by_cases e:k' = k
    · subst e
      simp only [putK,List.zip_cons_cons,List.any_cons,decide_true,Bool.true_or,if_true,List.map_cons,putVs,putKs]
      rw [Zni hn'.1]
    · rw [Ze2 e]
      simp only [putVs,if_neg e,List.zip_cons_cons]
      rw [← ih]
      unfold putK
      simp only [List.zip_cons_cons,List.any_cons,decide_eq_false e,Bool.false_or,List.map_cons,if_neg e]
      split <;> rfl
theorem Zhu {α:Type}:∀ {ks:List Key} {xs:List α} {k:Key} {y:α},ks.length = xs.length → (putKs ks k).length = (putVs ks xs k y).length
  | [],xs,k,y,h=>by simp [putKs,putVs] at h ⊢; exact List.eq_nil_of_length_eq_zero h.symm
  | k' :: ks,[],k,y,h=>by cases h
  | k' :: ks,x :: xs,k,y,h=>by
    by_cases e:k' = k
    · subst e; simp [putKs,putVs] at h ⊢; exact h
    · rw [Ze2 e]; simp only [putVs,if_neg e,List.length_cons]; rw [Zhu (by simpa using h)]
theorem Rps.putVs:∀ {ks:List Key} {ds:List D} {vs:List V} {fk fy:List Addr} {k:Key} {d:D} {w:V},ks.length = ds.length → Rps cl A L H b ds vs fk → Rp cl A L H b d w fy → ∃ f',Rps cl A L H b (Fs.putVs ks ds k d) (Fs.putVs ks vs k w) f' ∧ ∀ x,f'.count x ≤ (fk ++ fy).count x
  | [],ds,vs,fk,fy,k,d,w,hl,h,hd=>by
    cases ds with
    | cons=>cases hl
    | nil =>
      simp only [Rps] at h
      obtain ⟨rfl,rfl⟩:=h
      refine ⟨fy,?_,fun x=>by simp⟩
      simp only [Fs.putVs,List.nil_append,Rps]
      exact ⟨w,[],fy,[],rfl,by simp,hd,rfl,rfl⟩
  | k' :: ks,[],vs,fk,fy,k,d,w,hl,h,hd=>by cases hl
  | k' :: ks,d0 :: ds,vs,fk,fy,k,d,w,hl,h,hd=>by
    simp only [Rps] at h
    obtain ⟨v,vs',f1,f2,rfl,rfl,h3,h4⟩:=h
    simp only [Fs.putVs]
    by_cases e:k' = k
    · rw [if_pos e,if_pos e]
      refine ⟨fy ++ f2,by simp only [Rps]; exact ⟨w,vs',fy,f2,rfl,rfl,hd,h4⟩,fun x=>?_⟩
      simp only [List.count_append]; omega
    · rw [if_neg e,if_neg e]
      obtain ⟨f',h5,h6⟩:=Rps.putVs (k:=k) (by simpa using hl) h4 hd
      refine ⟨f1 ++ f',by simp only [Rps]; exact ⟨v,_,f1,f',rfl,rfl,h3,h5⟩,fun x=>?_⟩
      have:=h6 x
      simp only [List.count_append] at this ⊢
      omega
def rSetA:V → List V → Hp → VK → Prop:=fun o us H Q=>match us with
  | [i,v]=>rSetL o i v H (fun H'=>Q .non H') ∨ rSetD o i v H (fun H'=>Q .non H')
  | _=>False
def mSet:D → List D → Option (D × D)
  | .n .lst .own xs,[.v (.int i),y]=>(ixN xs.length i).map fun k=>(.n .lst .own (xs.set k y),.non)
  | .n (.dct ks) .own xs,[k,y]=>(keyD k).bind fun k=>if ks.Nodup ∧ xs.length < 100000 then some (.n (.dct (putKs ks k)) .own (putVs ks xs k y),.non) else none
  | _,_=>none
theorem mo_set:MOp cl rSetA mSet:=by
  intro A L B H δ σ c v xs us c' y Q j e k
  unfold mSet at e
  split at e
  · rename_i ys i z
    obtain ⟨n,e1,e2⟩:=Option.map_eq_some_iff.mp e
    cases e2
    obtain ⟨a,o,ks,rfl,ho,hs,hlen,⟨ft,ht⟩,rn⟩:=j.renew
    cases hs
    simp only [Rps] at ht
    obtain ⟨w,_,f1,f2,rfl,rfl,hw,w2,_,f3,f4,rfl,rfl,hw2,rfl,rfl⟩:=ht
    obtain ⟨rfl,rfl,_⟩:=hw.leafv
    obtain ⟨q1,q2,q3,q4⟩:=ixN_seq e1
    have h:=rn .lst (ys.set n z) (ks.set n w2) (.lst (ks.set n w2)) [.non] [.non] rfl fun fk ft hk ht=>by
      simp only [Rps] at ht
      obtain ⟨_,_,g1,g2,e5,rfl,hg,w3,_,g3,g4,e6,rfl,hg2,rfl,rfl⟩:=ht
      cases e5; cases e6
      obtain ⟨_,rfl,_⟩:=hg.leafv
      obtain ⟨f',h5,h6⟩:=Rps.setAt (n:=n) hk hg2
      refine ⟨f',[],h5,rps_non.mpr rfl,fun x=>?_⟩
      have:=h6 x
      simp only [List.count_append,List.count_nil] at this ⊢
      omega
    exact .inl ⟨a,ks,i,n,rfl,rfl,ho,by rw [← hlen]; exact e1,k .non _ _ h.1 h.2⟩
  · rename_i ks ys kk z
    obtain ⟨n,e1,e2⟩:=Option.bind_eq_some_iff.mp e
    split at e2
    · rename_i hl
      cases e2
      obtain ⟨a,o,us,rfl,ho,hs,hlen,⟨ft,ht⟩,rn⟩:=j.renew
      obtain ⟨hkl,rfl⟩:=hs
      simp only [Rps] at ht
      obtain ⟨w,_,f1,f2,rfl,rfl,hw,w2,_,f3,f4,rfl,rfl,hw2,rfl,rfl⟩:=ht
      have hk:=Ziy hw e1
      subst hk
      have h:=rn (.dct (putKs ks n)) (putVs ks ys n z) (putVs ks us n w2) (.dK ((putKs ks n).zip (putVs ks us n w2))) [.non] [.non] ⟨Zhu hkl,rfl⟩ fun fk ft hk ht=>by
        simp only [Rps] at ht
        obtain ⟨_,_,g1,g2,e5,rfl,hg,w3,_,g3,g4,e6,rfl,hg2,rfl,rfl⟩:=ht
        cases e5; cases e6
        obtain ⟨f',h5,h6⟩:=Rps.putVs (k:=n) (hkl.trans hlen.symm) hk hg2
        refine ⟨f',[],h5,rps_non.mpr rfl,fun x=>?_⟩
        have:=h6 x
        simp only [List.count_append,List.count_nil] at this ⊢
        omega
      refine .inr ⟨a,_,rfl,DPut.k ho ?_,?_⟩
      · rw [List.length_zip,hkl,Nat.min_self,← hlen]; exact sz_lt hl.2
      · rw [Zi9 n w2 hl.1 hkl]
        exact k .non _ _ h.1 h.2
    · cases e2
  · cases e
def putFs:List Str → Str → List Str
  | [],f=>[f]
  | g :: fs,f=>if g = f then g :: fs else g :: putFs fs f
def putXs {α:Type}:List Str → List α → Str → α → List α
  | [],xs,_,y=>xs ++ [y]
  | _ :: _,[],_,y=>[y]
  | g :: fs,x :: xs,f,y=>if g = f then y :: xs else x :: putXs fs xs f y
theorem Zja:∀ {fs:List Str} {vs:List V} (f:Str) (y:V),fs.length = vs.length → putF f y (fs.zip vs) = (putFs fs f).zip (putXs fs vs f y)
  | [],[],f,y,_=>rfl
  | [],_ :: _,f,y,h=>by cases h
  | _ :: _,[],f,y,h=>by cases h
  | g :: fs,v :: vs,f,y,h=>by
    simp only [List.zip_cons_cons,putF,putFs,putXs]
    by_cases e:g = f
    · simp only [if_pos e,List.zip_cons_cons]
    · simp only [if_neg e,List.zip_cons_cons]; rw [Zja f y (by simpa using h)]
theorem Zht {α:Type}:∀ {fs:List Str} {xs:List α} {f:Str} {y:α},fs.length = xs.length → (putFs fs f).length = (putXs fs xs f y).length
  | [],xs,f,y,h=>by simp [putFs,putXs] at h ⊢; exact List.eq_nil_of_length_eq_zero h.symm
  | g :: fs,[],f,y,h=>by cases h
  | g :: fs,x :: xs,f,y,h=>by
    simp only [putFs,putXs]
    by_cases e:g = f
    · simp only [if_pos e,List.length_cons]; simpa using h
    · simp only [if_neg e,List.length_cons]; rw [Zht (by simpa using h)]
theorem Rps.putXs:∀ {fs:List Str} {ds:List D} {vs:List V} {fk fy:List Addr} {f:Str} {d:D} {w:V},fs.length = ds.length → Rps cl A L H b ds vs fk → Rp cl A L H b d w fy → ∃ f',Rps cl A L H b (Fs.putXs fs ds f d) (Fs.putXs fs vs f w) f' ∧ ∀ x,f'.count x ≤ (fk ++ fy).count x
  | [],ds,vs,fk,fy,k,d,w,hl,h,hd=>by
    cases ds with
    | cons=>cases hl
    | nil =>
      simp only [Rps] at h
      obtain ⟨rfl,rfl⟩:=h
      refine ⟨fy,?_,fun x=>by simp⟩
      simp only [Fs.putXs,List.nil_append,Rps]
      exact ⟨w,[],fy,[],rfl,by simp,hd,rfl,rfl⟩
  | k' :: ks,[],vs,fk,fy,k,d,w,hl,h,hd=>by cases hl
  | k' :: ks,d0 :: ds,vs,fk,fy,k,d,w,hl,h,hd=>by
    simp only [Rps] at h
    obtain ⟨v,vs',f1,f2,rfl,rfl,h3,h4⟩:=h
    simp only [Fs.putXs]
    by_cases e:k' = k
    · rw [if_pos e,if_pos e]
      refine ⟨fy ++ f2,by simp only [Rps]; exact ⟨w,vs',fy,f2,rfl,rfl,hd,h4⟩,fun x=>?_⟩
      simp only [List.count_append]; omega
    · rw [if_neg e,if_neg e]
      obtain ⟨f',h5,h6⟩:=Rps.putXs (f:=k) (by simpa using hl) h4 hd
      refine ⟨f1 ++ f',by simp only [Rps]; exact ⟨v,_,f1,f',rfl,rfl,h3,h5⟩,fun x=>?_⟩
      have:=h6 x
      simp only [List.count_append] at this ⊢
      omega
def rPutF (K:PySem.W.Frag) (f:Str):V → List V → Hp → VK → Prop:=fun x us H Q=>match us with
  | [y]=>∃ a C dx fs,x = .ref a ∧ H a = some (.ins C dx fs) ∧ Cls K C ∧ NoAttr K C f ∧ fs.length < 1000 ∧ Q .non (upd H a (.ins C dx (putF f y fs)))
  | _=>False
def mFld (c:Nat) (f:Str):D → List D → Option (D × D)
  | .n (.obj c' fs) .own xs,[y]=>if c' = c ∧ fs.length < 1000 then some (.n (.obj c' (putFs fs f)) .own (putXs fs xs f y),.non) else none
  | _,_=>none
theorem mo_fld {K:PySem.W.Frag} {c:Nat} {f:Str} (hc:Cls K (cl.c c)) (hn:NoAttr K (cl.c c) f):MOp cl (rPutF K f) (mFld c f):=by
  intro A L B H δ σ c0 v xs us c' y Q j e k
  unfold mFld at e
  split at e
  · rename_i cc fs ys z
    split at e
    · rename_i hl
      cases e
      obtain ⟨rfl,hl⟩:=hl
      obtain ⟨a,o,us,rfl,ho,hs,hlen,⟨ft,ht⟩,rn⟩:=j.renew
      obtain ⟨hkl,dx,rfl⟩:=hs
      simp only [Rps] at ht
      obtain ⟨w,_,f1,f2,rfl,rfl,hw,rfl,rfl⟩:=ht
      have h:=rn (.obj cc (putFs fs f)) (putXs fs ys f z) (putXs fs us f w) (.ins (cl.c cc) dx ((putFs fs f).zip (putXs fs us f w))) [.non] [.non] ⟨Zht hkl,dx,rfl⟩ fun fk ft hk ht=>by
        simp only [Rps] at ht
        obtain ⟨_,_,g1,g2,e5,rfl,hg,rfl,rfl⟩:=ht
        cases e5
        obtain ⟨f',h5,h6⟩:=Rps.putXs (f:=f) (hkl.trans hlen.symm) hk hg
        refine ⟨f',[],h5,rps_non.mpr rfl,fun x=>?_⟩
        have:=h6 x
        simp only [List.count_append,List.count_nil] at this ⊢
        omega
      refine ⟨a,_,dx,_,rfl,ho,hc,hn,?_,?_⟩
      · rw [List.length_zip,hkl,Nat.min_self,← hkl]; exact hl
      · rw [Zja f w hkl]
        exact k .non _ _ h.1 h.2
    · cases e
  · cases e
end
end Fs
set_option maxHeartbeats 1000000
namespace Fs
open PySem PySem.Spec PyProof.Rows L2
abbrev PL:=Sl → Option (Nat × List Nat)
def SL (cl:Ec) (te:TE) (pl:PL):Prop:=∀ A L H δ σ g i π d c v0 vc Q,Rpo cl A L H δ σ g → pl δ = some (i,π) → (δ[i]?).join = some d → getP π d = some c → σ[i]? = some (some v0) → AtP H v0 π vc → Q vc H → te σ H Q
def plV (i:Nat):PL:=fun _=>some (i,[])
section
variable {cl:Ec} {xf:Nat → List Str} {W:WX} {ws:Nat → Bool} {A A' L L' B:Addr → Prop} {H H':Hp} {δ δ':Sl} {σ σ':L2.St} {p q b:Bool} {te ta tb tc:TE} {tA:TA} {tt tu:TT} {t u:TS} {ts:List D} {vs:List V}
theorem sl_var {i:Nat}:SL cl (tVar i) (plV i):=by
  intro A L H δ σ g j π d c v0 vc Q h e hd hp hv ha k
  cases e
  cases ha
  exact ⟨v0,hv,k⟩
theorem AtP.det:∀ {π:List Nat} {v w w':V},AtP H v π w → AtP H v π w' → w = w'
  | [],v,w,w',h,h'=>by cases h; cases h'; rfl
  | i :: π,v,w,w',h,h'=>by
    obtain ⟨a,o,us,v1,rfl,h2,h3,h4,h5⟩:=h
    obtain ⟨a',o',us',v1',e,h2',h3',h4',h5'⟩:=h'
    cases e
    rw [h2] at h2'; cases h2'
    rw [h3] at h3'; cases h3'
    rw [h4] at h4'; cases h4'
    exact AtP.det h5 h5'
def ExT (H H':Hp):Prop:=∀ a o,H a = some o → NT o → H' a = some o
theorem AtP.ex:∀ {π:List Nat} {v w:V},AtP H v π w → ExT H H' → AtP H' v π w
  | [],v,w,h,_=>h
  | i :: π,v,w,h,x=>by
    obtain ⟨a,o,us,v1,rfl,h2,h3,h4,h5⟩:=h
    exact ⟨a,o,us,v1,rfl,x a o h2 (fun ps e=>by rw [e] at h3; cases h3),h3,h4,h5.ex x⟩
theorem Nx.ex (n:Nx A A H A' H'):ExT H H':=fun a o h t=>by
  by_cases hA:A a
  · rw [(n.prot a hA).1]; exact h
  · exact n.keep a o h hA t
/-- a pure run beside temporaries -/
theorem Jt.backQ {us:List D} {xs:List V} (h0:Jt p cl A L B H ts vs δ σ) (x:Nx A A H A' H') (j:Jt true cl A' L A H' us xs δ σ):Jt p cl A' L B H' (ts ++ us) (vs ++ xs) δ σ:=by
  obtain ⟨f,g,h1,h2,h3,h4,h5⟩:=h0.ex
  obtain ⟨f2,g2,k1,k2,k3,k4,k5⟩:=j.ex
  have nd:=List.nodup_append.mp h3
  have fA:∀ a ∈ f,A a:=fun a ha=>(h1.inA a ha).1
  have gA:∀ a ∈ g,A a:=fun a ha=>(h2.inA a ha).1
  have nd2:=List.nodup_append.mp k3
  refine ⟨⟨f ++ f2,g,Rps.append (h1.step x.both (fun a ha=>x.prot a (fA a ha)) (by simp)) k1,h2.step x.both (fun a ha=>x.prot a (gA a ha)) (fun a h=>⟨(x.prot a (h0.ba a (h0.lb a h))).1,h⟩),?_,?_,h5⟩,h0.lb,fun a h=>(x.prot a (h0.ba a h)).2,j.ad,j.tb⟩
  · rw [List.append_assoc]
    refine List.nodup_append.mpr ⟨nd.1,List.nodup_append.mpr ⟨nd2.1,nd.2.1,fun a ha c hc e=>?_⟩,fun a ha c hc e=>?_⟩
    · subst e; exact k4 a ha (gA a hc)
    · subst e
      rcases List.mem_append.mp hc with hc | hc
      · exact k4 a hc (fA a ha)
      · exact nd.2.2 a ha a hc rfl
  · intro a ha q
    rcases List.mem_append.mp ha with ha | ha
    · exact h4 a ha q
    · exact k4 a ha (h0.ba a q)
theorem Jt.swap {x y:D} {u w:V} (j:Jt p cl A L B H [x,y] [u,w] δ σ):Jt p cl A L B H [y,x] [w,u] δ σ:=by
  obtain ⟨f,g,h1,h2,h3,h4,h5⟩:=j.ex
  simp only [Rps] at h1
  obtain ⟨_,_,f1,f2,e,rfl,hx,_,_,f3,f4,e2,rfl,hy,rfl,rfl⟩:=h1
  cases e; cases e2
  refine ⟨⟨f3 ++ (f1 ++ []),g,by simp only [Rps]; exact ⟨w,[u],f3,f1 ++ [],rfl,rfl,hy,u,[],f1,[],rfl,rfl,hx,rfl,rfl⟩,h2,?_,fun a ha=>h4 a (by simp at ha ⊢; exact ha.symm),h5⟩,j.lb,j.ba,j.ad,j.tb⟩
  have hp:(f3 ++ (f1 ++ []) ++ g).Perm (f1 ++ (f3 ++ []) ++ g):=Zim fun x=>by simp only [List.count_append,List.count_nil]; omega
  exact hp.nodup_iff.mpr h3
end
end Fs
set_option maxHeartbeats 1000000
namespace Fs
open PySem PySem.Spec PyProof.Rows L2
def stEnd (op:D → List D → Option (D × D)) (i:Nat) (π:List Nat) (d c:D) (xs:List D) (δ1:Sl):Out Flow:=match op c xs with
  | some r=>.ok .nx (δ1.set i (some (setP π d r.1)))
  | none=>.bad
def stC (pl:PL) (δ:Sl) (k:Nat → List Nat → D → D → Out Flow):Out Flow:=match pl δ with
  | none=>.bad
  | some (i,π)=>match (δ[i]?).join with
    | none=>.bad
    | some d=>match getP π d with
      | none=>.bad
      | some c=>if d.free && ownP π d then k i π d c else .bad
/-- place[key] = e -/
def Zby (pl:PL) (kd:DE) (fz:Bool) (e:DE):DS:=fun δ=>(e δ).bind fun y δ1=>stC pl δ1 fun i π d c=>(noX (kd δ1)).bind fun kk δ2=>stEnd mSet i π d c [kk,if fz then frz y else y] δ2
/-- place.f = e -/
def dsFldS (pl:PL) (c0:Nat) (f:Str) (e:DE):DS:=fun δ=>(e δ).bind fun y δ1=>stC pl δ1 fun i π d c=>stEnd (mFld c0 f) i π d c [y] δ1
section
variable {cl:Ec} {xf:Nat → List Str} {W:WX} {ws:Nat → Bool} {A A' L L' B:Addr → Prop} {H H':Hp} {δ δ':Sl} {σ σ':L2.St} {p q b:Bool} {te ta tb tc:TE} {tA:TA} {tt tu:TT} {t u:TS} {ts:List D} {vs:List V}
/-- the end of a store: the thing in hand is put in -/
theorem st_run {rr:V → List V → Hp → VK → Prop} {op:D → List D → Option (D × D)} {E:Ends} {i:Nat} {π:List Nat} {d c:D} {xs:List D} {us:List V} {v0 vc:V} (mo:MOp cl rr op) (j:Jt false cl A L B H xs us δ σ) (e2:(δ[i]?).join = some d) (hfr:d.free = true) (e3:getP π d = some c) (how:ownP π d = true) (h1:σ[i]? = some (some v0)) (h2:AtP H v0 π vc)
    (k:PostS cl xf W ws (stEnd op i π d c xs δ) A L B H σ E):rr vc us H fun _ H'=>E.nx σ H':=by
  obtain ⟨v0',vc',B2,q1,q2,q3,q3',q4,q5⟩:=j.focus e2 hfr e3 how
  rw [h1] at q1
  cases q1
  have ev:=h2.det q2
  subst ev
  unfold stEnd at k
  cases e5:op c xs with
  | none=>rw [e5] at k; exact k.elim
  | some rs =>
    obtain ⟨c',y⟩:=rs
    rw [e5] at k
    simp only at k
    have hlen:i < δ.length:=(List.getElem?_eq_some_iff.mp (join_some e2)).1
    refine mo A L B2 H (δ.set i none) σ c vc xs us c' y _ q4 e5 fun w A2 H2 n2 j2=>?_
    have j3:=q5 A2 H2 c' [y] [w] (δ.set i none) (by simp [hlen]) n2 j2
    rw [List.set_set] at j3
    exact k A2 H2 σ (n2.weak q3) (Kp.refl σ) j3.drop
theorem ZmP {pl:PL} {kd e:DE} {fz:Bool} (ho:SL cl te pl) (hk:SE cl xf W true tb kd) (he:SE cl xf W false ta e):SS cl xf W ws (tAsg ta (gSub te tb fun o i v H Q=>rSetL o i v H Q ∨ rSetD o i v H Q)) (Zby pl kd fz e):=fun A L B H δ σ E j k=>by
  refine he.run A L B H δ σ _ j (PostS.bind k fun y δ1 vs A1 H1 e0 n1 j1 k1 v ev=>?_)
  subst ev
  unfold stC at k1
  split at k1
  · exact k1.elim
  · rename_i i π e1
    split at k1
    · exact k1.elim
    · rename_i d e2
      split at k1
      · exact k1.elim
      · rename_i c e3
        split at k1
        · rename_i hc
          simp only [Bool.and_eq_true] at hc
          obtain ⟨hfr,how⟩:=hc
          dsimp only at k1
          obtain ⟨v0,vc,B1,h1,h2,_,_,_,_⟩:=j1.focus e2 hfr e3 how
          obtain ⟨g,hg,nd,_⟩:=j1.drop0
          refine ho A1 L H1 δ1 σ g i π d c v0 vc _ hg e1 e2 e3 h1 h2 ?_
          have hp:=hk.pure rfl δ1
          refine hk.run A1 L A1 H1 δ1 σ _ j1.drop.toPure ?_
          cases e4:kd δ1 with
          | bad=>rw [e4] at k1; exact k1.elim
          | exc cc xs s=>rw [e4] at k1; exact k1.elim
          | ok kk s =>
            rw [e4] at k1 hp
            cases (show s = δ1 from hp)
            simp only [noX,Out.bind] at k1
            intro us A2 H2 n2 j2 kv ek
            subst ek
            have j3:Jt false cl A2 L B H2 [kk,y] [kv,v] δ1 σ:=(Jt.backQ j1 n2 j2).swap
            have n3:Nx A B H A2 H2:=n1.trans (n2.weak j1.ba)
            cases fz with
            | false=>exact st_run (rr:=rSetA) mo_set j3 e2 hfr e3 how h1 (h2.ex n2.ex) (PostS.step k1 n3 (Kp.refl σ))
            | true =>
              obtain ⟨A3,n4,j4⟩:=j3.freezeTail
              simp only [frzs] at j4
              exact st_run (rr:=rSetA) mo_set j4 e2 hfr e3 how h1 (h2.ex n2.ex) (PostS.step k1 (n3.trans n4) (Kp.refl σ))
        · exact k1.elim
theorem ZnT {pl:PL} {c0:Nat} {f:Str} {e:DE} (hc0:Cls cl.K (cl.c c0)) (hn0:NoAttr cl.K (cl.c c0) f) (ho:SL cl te pl) (he:SE cl xf W false ta e):SS cl xf W ws (sFld cl.K te ta f) (dsFldS pl c0 f e):=fun A L B H δ σ E j k=>by
  refine he.run A L B H δ σ _ j (PostS.bind k fun y δ1 vs A1 H1 e0 n1 j1 k1 v ev=>?_)
  subst ev
  unfold stC at k1
  split at k1
  · exact k1.elim
  · rename_i i π e1
    split at k1
    · exact k1.elim
    · rename_i d e2
      split at k1
      · exact k1.elim
      · rename_i c e3
        split at k1
        · rename_i hc
          simp only [Bool.and_eq_true] at hc
          obtain ⟨hfr,how⟩:=hc
          dsimp only at k1
          obtain ⟨v0,vc,B1,h1,h2,_,_,_,_⟩:=j1.focus e2 hfr e3 how
          obtain ⟨g,hg,nd,_⟩:=j1.drop0
          refine ho A1 L H1 δ1 σ g i π d c v0 vc _ hg e1 e2 e3 h1 h2 ?_
          exact st_run (rr:=rPutF cl.K f) (mo_fld hc0 hn0) j1 e2 hfr e3 how h1 h2 (PostS.step k1 n1 (Kp.refl σ))
        · exact k1.elim
end
end Fs
namespace Rm
open PySem PySem.W PySem.Spec PyProof.Rows L2
abbrev tupIt (a:Addr):Obj:={ cls:=.type "tuple_iterator",data:=.fields #[.ref a,.int 0 0] }
abbrev enObj (i:Addr):Obj:={ cls:=.type "enumerate",data:=.fields #[.none,.bool false,.ref i,rawInt 0,.none,.none] }
/-- the machine's enumerate of one thing whose walk begins with a new object -/
theorem Zl4 {v:Value} {o:Obj} {G:Heap → Prop} (B:Begins v o G):Meets (Builtin.«enumerate.__new__» ⟨[.type "enumerate",v],[]⟩) (fun _ R s=>G s.heap ∧ R (.ok (.ret (.ref (s.heap.push o).objs.size))) { s with heap:=(s.heap.push o).push (enObj s.heap.objs.size) }):=.of_wp fun P wo B0 R st hR=>by
    rcases st with ⟨hp,gn,dr,n,out⟩
    have sub:=sub_enumerate
    have walk:∀ {B1:Around} {E1:Value → Shared → Prop} {Q1:Value → Shared → Prop},Q1 (.ref hp.objs.size) ⟨hp.push o,gn,dr,n,out⟩ → wpAny (model P wo) B1 (pyIter v) Q1 E1 ⟨hp,gn,dr,n,out⟩:=B.iter P wo _ _ ⟨hp,gn,dr,n,out⟩ _ hR.1
    have fin:=hR.2
    wp_walk using walk
    apply wpAny_stack_any
    intro fr
    apply wpAny_pure
    split
    case h_1 c _ _ _ _ _=>cases (c == Value.type "enumerate") <;> (wp_walk using walk; exact ⟨_,rfl,fin⟩)
    all_goals (wp_walk using walk; exact ⟨_,rfl,fin⟩)
section
variable {P:Program} {wo:World} {B0:Around} {E0:Value → Shared → Prop} {st:Shared}
theorem Znf {a:Addr} {vs:Array Value} {Q:Value → Shared → Prop} (ht:IsTup st.heap a vs) (k:∀ hp,IsEnum hp (st.heap.objs.size + 1) st.heap.objs.size 0 .none → hp.IsTupleIter st.heap.objs.size a 0 → (∀ b o,st.heap.get? b = some o → hp.get? b = some o) → Q (.ref (st.heap.objs.size + 1)) { st with heap:=hp }):wpAny (model P wo) B0 (call (.type "enumerate") [.ref a]) Q E0 st:=by
  have g0:(st.heap.push (tupIt a)).get? st.heap.objs.size = some (tupIt a):=Heap.get?_push_size _ rfl
  have n1:(st.heap.push (tupIt a)).objs.size = st.heap.objs.size + 1:=Heap.size_push ..
  have g1:((st.heap.push (tupIt a)).push (enObj st.heap.objs.size)).get? (st.heap.objs.size + 1) = some (enObj st.heap.objs.size):=n1 ▸ Heap.get?_push_size _ rfl
  refine callType_new F.called_enumerate (by decide) (F.typeCall_enumerate_1 _) (F.newCall_enumerate_1 _) (fun ob=>F.args_object_init_2 ob _) F.entry_enumerate_new (Zl4 (begins_tuple a vs)) ⟨ht,?_⟩
  rw [n1]
  exact ⟨⟨_,g1,rfl⟩,k _ g1 ⟨_,Heap.get?_push_of_some _ g0,rfl,rfl⟩ fun b o q=>Heap.get?_push_of_some _ (Heap.get?_push_of_some _ q)⟩
/-- the walk is over -/
theorem Zl5 {e i a:Addr} {j:Nat} {vs:Array Value} {c:Int} {z:Value} {Q:Option Value → Shared → Prop} (nh:B0.handled = none) (g1:IsEnum st.heap e i c z) (g2:st.heap.IsTupleIter i a j) (ht:IsTup st.heap a vs) (hj:vs[j]? = none) (k:∀ hp,Heap.ExtBut i st.heap hp → Q none { st with heap:=hp }):wpAny (model P wo) B0 (pyNext (.ref e)) Q E0 st:=by
  have ty:st.TypeIs (.ref e) "enumerate":=⟨_,g1,rfl⟩
  exact wpAny_pyNext_enum_endD (n:=0) (P:=fun _ _=>False) (St:=fun m hp=>m = 0 ∧ hp.IsTupleIter i a j ∧ IsTup hp a vs) (fp:=[i,a])
    { live:=fun _ _ q=>let ⟨o,ho,_⟩:=q.2.1; ⟨o,ho⟩
      frame:=fun _ _ _ q hk=>⟨q.1,q.2.1.at fun o=>hk i (by simp) o,Heap.IsTuple.at (show Heap.IsTuple _ _ _ from q.2.2) fun o=>hk a (by simp) o⟩
      item:=fun m _ _ _ hm=>absurd hm (Nat.not_lt_zero m)
      done:=fun s1 Q1 E1 q hE=>wpAny_nextOf_tuple_end (A:=B0.in1) nh q.2.1 q.2.2 hj hE } g1 ⟨rfl,g2,ht⟩ k
end
/-- a tuple's things,each with its place in a new pair -/
def IteT (K:Frag) (a:Addr):It where
  go j G:=∃ (vs:List V) (x:V),SqT K G a vs ∧ vs[j]? = some x
  yld j G v G':=∃ n x,v = .ref n ∧ G n = none ∧ G' = upd G n (.tup [.int (j:Nat),x]) ∧ ∀ vs,SqT K G a vs → vs[j]? = some x
  stop j G:=∃ vs:List V,SqT K G a vs ∧ vs.length ≤ j
/-- how enumerate's object and the tuple's walk stand ahead of turn j -/
def EnT (a e i:Addr) (j:Nat) (hp:Heap):Prop:=(∃ z,IsEnum hp e i ((j:Nat):Int) z) ∧ hp.IsTupleIter i a j ∧ e ≠ i
theorem cls_ne {hp:Heap} {a b:Addr} {o o':Obj} {n m:String} (g:hp.get? a = some o) (g':hp.get? b = some o') (c:o.cls = .type n) (c':o'.cls = .type m) (h:n ≠ m):a ≠ b:=fun q=>by
  subst q
  rw [g'] at g
  obtain rfl:=Option.some.inj g
  rw [c'] at c
  exact h (Value.type.inj c).symm
theorem Zh8 {P:Addr → Prop} {e i:Addr} (h1:P e) (h2:P i):∀ b ∈ [e,i],P b:=fun b q=>by
  cases q with
  | head=>exact h1
  | tail _ q=>cases q with
    | head=>exact h2
    | tail _ q=>cases q
theorem Zj6 {P:Program} {wo:World} {K:Frag} {es:List Expr} {c:Nat} {ps:Pos} (a e i:Addr):Turn P wo K (.Tuple es c ps) (IteT K a) [e,i] e (EnT a e i):=by
  refine ⟨List.mem_cons_self,?_,?_,?_,?_,?_⟩
  case refine_1 =>
    rintro j hp ⟨⟨z,g1⟩,⟨o,g2,_,g3⟩,_⟩
    exact Zh8 ⟨_,g1,fun _ q=>by cases q⟩ ⟨o,g2,fun _ q=>by rw [g3] at q; cases q⟩
  case refine_2 =>
    rintro j hp hp' ⟨⟨z,g1⟩,g2,ne⟩ k
    exact ⟨⟨z,k e List.mem_cons_self _ g1⟩,g2.at (k i (List.mem_cons_of_mem _ List.mem_cons_self)),ne⟩
  case refine_3 =>
    rintro X rfl rfl rfl calm j pn st σ G E I fr ⟨⟨z,g1⟩,g2,ne⟩ ⟨vs,x,sq,gx⟩
    obtain ⟨us,rel,tup,_⟩:=I.tuple sq
    obtain ⟨u,gu,ru⟩:=rel.get gx
    have lt1:=Heap.lt_size g1
    have lt2:i < st.heap.objs.size:=let ⟨_,q,_⟩:=g2; Heap.lt_size q
    have ai:a ≠ i:=let ⟨_,q1,q2,_⟩:=tup; let ⟨_,q3,q4,_⟩:=g2; cls_ne q1 q3 q2 q4 (by decide)
    have ea:e ≠ a:=let ⟨_,q1,q2,_⟩:=tup; cls_ne g1 q1 rfl q2 (by decide)
    have lj:j < us.toArray.size:=by rw [List.size_toArray]; exact (List.getElem?_eq_some_iff.mp gu).1
    have efp:e ∉ [i,a]:=by simp [ne,ea]
    refine wpAny_pyNext_enum_itemD (Draws.tuple (A:=X.A.in1) (I.ok.hd calm) i a ai us.toArray) g1 ⟨g2,tup⟩ lj ne efp ?_
    intro y hp tk hy out stp gT _ kp
    have hyu:y = u:=Option.some.inj (((show us.toArray[j]? = some y from hy).symm.trans (by simp)).trans gu)
    subst hyu
    refine ⟨_,rfl,wpAny_letOwnedTupleGo_enum (s:={ st with heap:=hp,toks:=tk + 1 }) out ?_⟩
    intro hp2 g3 sb
    have gT2:=(sb.2 _ (Nat.ne_of_gt lt1)).trans gT
    have I1:=I.turnedNew (t':=tk + 1) (ch:=[e,i]) (T:=st.heap.objs.size) (ob:=.tup [.int (j:Nat),x]) (h':=hp2) (fun b o nb q=>by
      simp only [List.mem_cons,List.not_mem_nil,or_false,not_or] at nb
      exact (sb.2 b nb.1).trans (kp b o nb.1 nb.2 q)) fr (Nat.le_refl _) ⟨by show 2 ≤ sizeLine; decide,[.int j tk,y],.cons ⟨_,rfl⟩ (.cons ru .nil),⟨_,gT2,rfl,_,rfl⟩⟩
    have g4:∃ z,IsEnum hp2 e i ((j + 1:Nat):Int) z:=⟨y,by rw [Int.natCast_add]; exact g3⟩
    refine ⟨.ref _,_,I1,rfl,⟨_,x,rfl,I.hok.fresh (Nat.le_refl _),rfl,fun ws q=>I.tuple_inj sq q ▸ gx⟩,⟨g4,stp.1.at fun o q=>(sb.2 i ne.symm).trans q,ne⟩,?_⟩
    intro b hb
    have lb:=Zh8 (P:=fun b=>b < st.heap.objs.size) lt1 lt2 b hb
    rw [upd_ne (Nat.ne_of_lt lb)]
    exact (fr b hb).1
  case refine_4 =>
    rintro X rfl rfl rfl calm j pn st σ G E I fr ⟨⟨z,g1⟩,g2,ne⟩ ⟨vs,sq,le⟩
    obtain ⟨us,rel,tup,_⟩:=I.tuple sq
    have hn:us.toArray[j]? = none:=by
      have:=rel.length
      simp only [List.getElem?_toArray,List.getElem?_eq_none_iff]
      omega
    obtain ⟨q0,q1,_,q3,q4,q5⟩:=fr i (List.mem_cons_of_mem _ List.mem_cons_self)
    exact Zl5 (I.ok.hd calm) g1 g2 tup hn fun hp xb=>⟨rfl,I.turned (t':=st.toks) xb q0 q1 q3 q4 q5⟩
  case refine_5 =>
    rintro B j st Q E ⟨⟨z,g1⟩,_⟩ q
    exact wpAny_pyIter_enum g1 q
/-- enumerate of a list or of a tuple -/
def iEnX (K:Frag) (ta:TA):TI:=fun σ G R=>ta σ G fun vs G1=>∃ a xs,vs = [.ref a] ∧ (SqL K G1 a xs ∧ R (Ite K a) G1 ∨ SqT K G1 a xs ∧ R (IteT K a) G1)
theorem pi_enX {X:Cx} {e:Expr} {ta:TA} {p1 p2 p3:Pos} {es:List Expr} {c:Nat} (gl:Gl X "enumerate") (hm:X.mg "enumerate" = none) (ha:PA X [e] ta) (hs:starEach [e] X.env = [(false,eval e X.env)]:=by rfl):PI X (.Tuple es c p3) (.Call (.Name "enumerate" p1) [e] [] p2) (iEnX X.K ta) where
  run pn st σ G R I h:=by
    refine Call_ (ld_blt I gl hm boot_enumerate (PyProof.Rows.callWith_type1 (thn (ha.run p2 pn st σ G _ I h) ?_) hs rfl))
    rintro us s1 ⟨vs,G1,I1,rel,a,xs,rfl,q⟩
    rcases rel with _ | ⟨r,r'⟩
    cases r'
    cases r
    have new:∀ b ∈ [s1.heap.objs.size + 1,s1.heap.objs.size],FpOk X pn G1 b:=Zh8 (I1.fpOk (Nat.le_succ _) (I1.hok.fresh (Nat.le_succ _))) (I1.fpOk (Nat.le_refl _) (I1.hok.fresh (Nat.le_refl _)))
    rcases q with ⟨sq,q⟩ | ⟨sq,q⟩
    · obtain ⟨_,_,l,_⟩:=I1.list sq
      refine call_enumerate_list l.isList fun hp g1 g2 _ kp=>wpAny_pyIter_enum g1 ?_
      exact ⟨_,_,_,_,G1,rfl,I1.kept (t':=s1.toks) kp,turn_enum a _ _,⟨⟨_,g1⟩,g2,Nat.succ_ne_self _⟩,new,q⟩
    · obtain ⟨_,_,l,_⟩:=I1.tuple sq
      refine Znf l fun hp g1 g2 kp=>wpAny_pyIter_enum g1 ?_
      exact ⟨_,_,_,_,G1,rfl,I1.kept (t':=s1.toks) kp,Zj6 a _ _,⟨⟨_,g1⟩,g2,Nat.succ_ne_self _⟩,new,q⟩
end Rm
set_option maxHeartbeats 1000000
namespace Fs
open PySem PySem.Spec PyProof.Rows L2
def iAny (K:PySem.W.Frag) (te:TE):TI:=fun σ H R=>te σ H fun x H1=>(∃ a,x = .ref a ∧ (∃ xs,SqL K H1 a xs) ∧ R (Itl K a) H1) ∨ (∃ a,x = .ref a ∧ (∃ xs,SqT K H1 a xs) ∧ R (Itt K a) H1) ∨ (∃ z,x = .str z ∧ R (Its z) H1)
theorem pi_any {X:Cx} {tg e:Expr} {te:TE} (he:PE X e te):PI X tg e (iAny X.K te):=by
  refine ⟨fun pins s σ H R I h=>thn (he.run pins s σ H _ I h) fun v s1 ⟨x,H1,I1,r1,q1⟩=>?_⟩
  have fp:∀ b ∈ [s1.heap.objs.size],FpOk X pins H1 b:=fun b hb=>by
    have e:b = s1.heap.objs.size:=by simpa using hb
    rw [e]; exact I1.fpOk (Nat.le_refl _) (I1.hok.fresh (Nat.le_refl _))
  rcases q1 with ⟨a,rfl,⟨xs,hq⟩,q⟩ | ⟨a,rfl,⟨xs,hq⟩,q⟩ | ⟨z,rfl,q⟩
  · cases r1
    obtain ⟨its,rv,pl,hz⟩:=I1.list hq
    exact wpAny_pyIter_list pl.isList ⟨s1.heap.objs.size,[s1.heap.objs.size],_,_,H1,rfl,I1.kept (t':=s1.toks) fun b o e=>Heap.get?_push_of_some _ e,turn_list a _,⟨_,Heap.get?_push_size _ rfl,rfl,rfl⟩,fp,q⟩
  · cases r1
    obtain ⟨its,rv,pl,hz⟩:=I1.tuple hq
    exact wpAny_pyIter_tuple (show s1.heap.IsTuple a its.toArray from pl) ⟨s1.heap.objs.size,[s1.heap.objs.size],_,_,H1,rfl,I1.kept (t':=s1.toks) fun b o e=>Heap.get?_push_of_some _ e,turn_tuple a _,⟨_,Heap.get?_push_size _ rfl,rfl,rfl⟩,fp,q⟩
  · obtain ⟨t,rfl⟩:=r1
    cases ha:z.cps.all (· < 128)
    · exact wpAny_pyIter_wide ha (pi_one (tk:=s1.toks) I1 _ (turn_str _ z t "str_iterator" (.inr rfl)) ⟨_,Heap.get?_push_size _ rfl,rfl,rfl⟩ q)
    · exact wpAny_pyIter_ascii ha (pi_one (tk:=s1.toks) I1 _ (turn_str _ z t "str_ascii_iterator" (.inl rfl)) ⟨_,Heap.get?_push_size _ rfl,rfl,rfl⟩ q)
/-- the things that are walked -/
def itA (p:Bool):D → Option (List D)
  | .n .lst w xs=>if xs.all D.kept = true ∧ (p = true ∨ w ≠ .own) then some xs else none
  | .n .tup w xs=>if xs.all D.kept = true ∧ (p = true ∨ w ≠ .own) then some xs else none
  | .s ns=>some (ns.map D.int)
  | .v (.str s)=>some (s.cps.toList.map fun c=>D.str ⟨#[c]⟩)
  | _=>none
section
variable {cl:Ec} {xf:Nat → List Str} {W:WX} {ws:Nat → Bool} {A A' L L' B:Addr → Prop} {H H':Hp} {δ δ':Sl} {σ σ':L2.St} {p q b:Bool} {te ta tb tc:TE} {tA:TA} {tt tu:TT} {t u:TS} {ts:List D} {vs:List V}
theorem it_str {s:Str}:ItOk cl L B (Its s) (s.cps.toList.map fun c=>D.str ⟨#[c]⟩) A H:=by
  intro A1 H1 n1
  refine ⟨fun i hi=>by simpa [Its] using hi,fun i hi=>by simpa [Its] using hi,fun i x H2 d e hy p B1 δ σ hb j=>?_⟩
  obtain ⟨rfl,c,hc,rfl⟩:=hy
  have ed:d = D.str ⟨#[c]⟩:=by
    rw [List.getElem?_map] at e
    have:s.cps.toList[i]? = some c:=by rw [Array.getElem?_toList]; exact hc
    rw [this] at e
    simpa using e.symm
  subst ed
  exact ⟨A1,Nx.refl j.ba,j.leaf rfl⟩
/-- a thing that stands,walked -/
theorem ZlL {d:D} {v:V} {fp:List Addr} {its:List D} {R:It → Hp → Prop} (lb:∀ a,L a → B a) (h1:Rp cl A L H true d v fp) (hb:∀ a,B a → A a) (hw:∀ w:Fl,(p = true ∨ w ≠ .own) → w = .own → ∀ a ∈ fp,B a) (e2:itA p d = some its) (k:∀ J,ItOk cl L B J its A H → R J H) :
    (∃ a,v = .ref a ∧ (∃ xs,SqL cl.K H a xs) ∧ R (Itl cl.K a) H) ∨ (∃ a,v = .ref a ∧ (∃ xs,SqT cl.K H a xs) ∧ R (Itt cl.K a) H) ∨ (∃ z,v = .str z ∧ R (Its z) H):=by
  unfold itA at e2
  split at e2
  · split at e2
    · rename_i w xs hk
      cases e2
      obtain ⟨a0,o,us,fp',rfl,hs,hst,hr⟩:=h1.stands (B:=B) lb (hw w hk.2)
      cases hs
      exact .inl ⟨a0,rfl,⟨us,SqL.of (hst A H (Nx.refl hb))⟩,k _ (ZlJ lb (fun A1 H1 n=>SqL.of (hst A1 H1 n)) hr hk.1)⟩
    · cases e2
  · split at e2
    · rename_i w xs hk
      cases e2
      obtain ⟨a0,o,us,fp',rfl,hs,hst,hr⟩:=h1.stands (B:=B) lb (hw w hk.2)
      cases hs
      exact .inr (.inl ⟨a0,rfl,⟨us,SqT.of (hst A H (Nx.refl hb))⟩,k _ (it_tup lb (fun A1 H1 n=>SqT.of (hst A1 H1 n)) hr hk.1)⟩)
    · cases e2
  · cases e2
    obtain ⟨a0,rfl,hs,rfl,hor⟩:=h1.scr
    exact .inl ⟨a0,rfl,⟨_,hs⟩,k _ (it_scr hor lb)⟩
  · rename_i s
    cases e2
    obtain ⟨rfl,_,_⟩:=h1.leafv
    exact .inr (.inr ⟨s,rfl,k _ it_str⟩)
  · cases e2
theorem ZnY {a:PP} (ha:SP cl ta a):SI cl xf W p (iAny cl.K ta) (diP (itA p) a):=by
  refine ⟨fun _ δ=>Out.same_ofO,fun A L B H δ σ R j k=>?_⟩
  unfold diP at k
  cases e:(a δ).bind (itA p) with
  | none=>rw [e] at k; exact k.elim
  | some its =>
    rw [e] at k
    obtain ⟨d,e1,e2⟩:=Option.bind_eq_some_iff.mp e
    obtain ⟨g,hg,_,_⟩:=j.drop0
    refine ha A L H δ σ g d _ hg e1 fun v fp h1 n1=>?_
    have key:∃ B',(∀ a,B a → B' a) ∧ Jt p cl A L B' H [] [] δ σ ∧ ∀ w:Fl,(p = true ∨ w ≠ .own) → w = .own → ∀ a ∈ fp,B' a:=by
      cases p with
      | true=>exact ⟨A,j.ba,j.toPure,fun w _ _ a ha=>(h1.inA a ha).1⟩
      | false=>exact ⟨B,fun _ h=>h,j,fun w hw e=>absurd e (hw.resolve_left (by simp))⟩
    obtain ⟨B',hb,j',hw⟩:=key
    exact ZlL (p:=p) j'.lb h1 j'.ba hw e2 fun J hJ=>k J A H B' (Nx.refl j.ba) hb j' hJ
/-- a value in hand,walked: kept in B -/
theorem ZlV {d:D} {v:V} (j1:Jt p cl A L B H [d] [v] δ σ):∃ B' fp,(∀ a,B a → B' a) ∧ Jt p cl A L B' H [] [] δ σ ∧ Rp cl A L H true d v fp ∧ ∀ a ∈ fp,B' a:=by
  obtain ⟨v',f1,e0,h1⟩:=j1.one
  cases e0
  cases p with
  | true=>exact ⟨A,f1,j1.ba,j1.drop.toPure,h1.weak,fun a ha=>(h1.inA a ha).1⟩
  | false =>
    obtain ⟨f,q1,q2,q3,q4⟩:=j1.hide
    simp only [Rps] at q1
    obtain ⟨v0,vs0,f2,f3,e1,rfl,q1,rfl,rfl⟩:=q1
    cases e1
    exact ⟨_,f2,fun a h=>.inl h,q4,q1.weak,fun a ha=>.inr (by simpa using ha)⟩
theorem ZnZ {a:DE} (ha:SE cl xf W p ta a):SI cl xf W p (iAny cl.K ta) (diD (itA true) a):=by
  refine ⟨fun hp δ=>Out.same_bind (ha.pure hp δ) fun x=>Out.same_ofO,fun A L B H δ σ R j k=>?_⟩
  unfold diD at k
  refine ha.run A L B H δ σ _ j ?_
  cases e:a δ with
  | bad=>rw [e] at k; exact k
  | exc c xs s=>rw [e] at k; exact k
  | ok d s =>
    rw [e] at k
    simp only [Out.bind] at k
    intro us A1 H1 n1 j1 v ev
    subst ev
    cases e2:itA true d with
    | none=>rw [e2] at k; exact k.elim
    | some its =>
      rw [e2] at k
      obtain ⟨B',fp,hb,j',h1,hfp⟩:=ZlV j1
      exact ZlL (p:=true) j'.lb h1 j'.ba (fun _ _ _=>hfp) e2 fun J hJ=>k J A1 H1 B' n1 hb j' hJ
def pairsE:Nat → List D → List D
  | _,[]=>[]
  | n,x :: xs=>.n .tup .shr [.int (n:Int),x] :: pairsE (n + 1) xs
theorem Ze4:∀ {xs:List D} {n i:Nat} {d:D},(pairsE n xs)[i]? = some d → ∃ x,xs[i]? = some x ∧ d = .n .tup .shr [.int ((n + i:Nat):Int),x]
  | [],n,i,d,h=>by simp [pairsE] at h
  | x :: xs,n,0,d,h=>by simp [pairsE] at h; exact ⟨x,rfl,by rw [← h]; simp⟩
  | x :: xs,n,i + 1,d,h=>by
    simp only [pairsE,List.getElem?_cons_succ] at h
    obtain ⟨y,h1,h2⟩:=Ze4 h
    exact ⟨y,by simpa using h1,by rw [h2]; congr 4; omega⟩
theorem Ze3:∀ {xs:List D} {n:Nat},(pairsE n xs).length = xs.length
  | [],_=>rfl
  | x :: xs,n=>by simp [pairsE,Ze3]
theorem ZlK {K:PySem.W.Frag} {a:Addr} {us:List V} {ds:List D} {fp:List Addr} (lb:∀ a,L a → B a) (hst:∀ A1 H1,Nx A B H A1 H1 → SqL K H1 a us) (hr:Rps cl A L H b ds us fp) (hk:ds.all D.kept = true):ItOk cl L B (Ite K a) (pairsE 0 ds) A H:=by
  intro A1 H1 n1
  have hs:=hst A1 H1 n1
  have hl:=hr.length
  rw [Ze3]
  refine ⟨fun i hi=>⟨us,us[i]'(by omega),hs,List.getElem?_eq_getElem (by omega)⟩,fun i hi=>⟨us,hs,by omega⟩,fun i x H2 d e hy p B1 δ σ hb j=>?_⟩
  obtain ⟨T,y,rfl,hT,rfl,hy⟩:=hy
  obtain ⟨dx,e1,rfl⟩:=Ze4 e
  obtain ⟨v,f1,g1,g2,_⟩:=(hr.keptS hk).get e1
  rw [hy us hs] at g1
  cases g1
  have hkd:dx.kept = true:=List.all_eq_true.mp hk dx (List.mem_of_getElem? e1)
  obtain ⟨g3,rfl⟩:=g2.strong hkd
  have g4:=g3.step (A':=A1) (L':=L) (H':=H1) n1.both (by simp) (by simp)
  have hr2:Rps cl A1 L H1 true [.int ((0 + i:Nat):Int),dx] [.int ((0 + i:Nat):Int),y] []:=by
    simp only [Rps]
    exact ⟨_,[y],[],[],rfl,rfl,Rp.leaf rfl,y,[],[],[],rfl,rfl,g4.weak,rfl,rfl⟩
  have hk2:([.int ((0 + i:Nat):Int),dx]:List D).all D.kept = true:=by rw [List.all_cons,List.all_cons,hkd]; rfl
  rw [Nat.zero_add] at hr2 hk2 ⊢
  have h:=(j.keptL hk2 hr2).allocS (k:=.tup) hk2 hT rfl
  exact ⟨A1,h.1,h.2⟩
theorem Znu {K:PySem.W.Frag} {a:Addr} {us:List V} {ds:List D} {fp:List Addr} (lb:∀ a,L a → B a) (hst:∀ A1 H1,Nx A B H A1 H1 → SqT K H1 a us) (hr:Rps cl A L H b ds us fp) (hk:ds.all D.kept = true):ItOk cl L B (Rm.IteT K a) (pairsE 0 ds) A H:=by
  intro A1 H1 n1
  have hs:=hst A1 H1 n1
  have hl:=hr.length
  rw [Ze3]
  refine ⟨fun i hi=>⟨us,us[i]'(by omega),hs,List.getElem?_eq_getElem (by omega)⟩,fun i hi=>⟨us,hs,by omega⟩,fun i x H2 d e hy p B1 δ σ hb j=>?_⟩
  obtain ⟨T,y,rfl,hT,rfl,hy⟩:=hy
  obtain ⟨dx,e1,rfl⟩:=Ze4 e
  obtain ⟨v,f1,g1,g2,_⟩:=(hr.keptS hk).get e1
  rw [hy us hs] at g1
  cases g1
  have hkd:dx.kept = true:=List.all_eq_true.mp hk dx (List.mem_of_getElem? e1)
  obtain ⟨g3,rfl⟩:=g2.strong hkd
  have g4:=g3.step (A':=A1) (L':=L) (H':=H1) n1.both (by simp) (by simp)
  have hr2:Rps cl A1 L H1 true [.int ((0 + i:Nat):Int),dx] [.int ((0 + i:Nat):Int),y] []:=by
    simp only [Rps]
    exact ⟨_,[y],[],[],rfl,rfl,Rp.leaf rfl,y,[],[],[],rfl,rfl,g4.weak,rfl,rfl⟩
  have hk2:([.int ((0 + i:Nat):Int),dx]:List D).all D.kept = true:=by rw [List.all_cons,List.all_cons,hkd]; rfl
  rw [Nat.zero_add] at hr2 hk2 ⊢
  have h:=(j.keptL hk2 hr2).allocS (k:=.tup) hk2 hT rfl
  exact ⟨A1,h.1,h.2⟩
def itEn (p:Bool):D → Option (List D)
  | .n .lst w xs=>if xs.all D.kept = true ∧ (p = true ∨ w ≠ .own) then some (pairsE 0 xs) else none
  | .s ns=>some (pairsE 0 (ns.map D.int))
  | .n .tup w xs=>if xs.all D.kept = true ∧ (p = true ∨ w ≠ .own) then some (pairsE 0 xs) else none
  | _=>none
def iEn1 (K:PySem.W.Frag) (te:TE):TI:=fun σ H R=>te σ H fun v H1=>∃ a xs,[v] = [V.ref a] ∧ (SqL K H1 a xs ∧ R (Ite K a) H1 ∨ SqT K H1 a xs ∧ R (Rm.IteT K a) H1)
theorem Znv {d:D} {v:V} {fp:List Addr} {its:List D} {R:It → Hp → Prop} (lb:∀ a,L a → B a) (h1:Rp cl A L H true d v fp) (hb:∀ a,B a → A a) (hw:∀ w:Fl,(p = true ∨ w ≠ .own) → w = .own → ∀ a ∈ fp,B a) (e2:itEn p d = some its) (k:∀ J,ItOk cl L B J its A H → R J H) :
    ∃ a xs,[v] = [V.ref a] ∧ (SqL cl.K H a xs ∧ R (Ite cl.K a) H ∨ SqT cl.K H a xs ∧ R (Rm.IteT cl.K a) H):=by
  unfold itEn at e2
  split at e2
  · split at e2
    · rename_i w xs hk
      cases e2
      obtain ⟨a0,o,us,fp',rfl,hs,hst,hr⟩:=h1.stands (B:=B) lb (hw w hk.2)
      cases hs
      exact ⟨a0,us,rfl,.inl ⟨SqL.of (hst A H (Nx.refl hb)),k _ (ZlK lb (fun A1 H1 n=>SqL.of (hst A1 H1 n)) hr hk.1)⟩⟩
    · cases e2
  · rename_i ns
    cases e2
    obtain ⟨a0,rfl,hs,rfl,hor⟩:=h1.scr
    refine ⟨a0,_,rfl,.inl ⟨hs,k _ (ZlK lb (fun A1 H1 n=>?_) (Rps.ints (b:=true)) (ZhT ns))⟩⟩
    rcases hor with ⟨ob,h1,h2⟩ | h
    · exact .inl (.inr ⟨ob,n.keep a0 _ h1 h2 NT.frz⟩)
    · exact .inr h
  · split at e2
    · rename_i w xs hk
      cases e2
      obtain ⟨a0,o,us,fp',rfl,hs,hst,hr⟩:=h1.stands (B:=B) lb (hw w hk.2)
      cases hs
      exact ⟨a0,us,rfl,.inr ⟨SqT.of (hst A H (Nx.refl hb)),k _ (Znu lb (fun A1 H1 n=>SqT.of (hst A1 H1 n)) hr hk.1)⟩⟩
    · cases e2
  · cases e2
theorem si_enP {a:PP} (ha:SP cl ta a):SI cl xf W p (iEn1 cl.K ta) (diP (itEn p) a):=by
  refine ⟨fun _ δ=>Out.same_ofO,fun A L B H δ σ R j k=>?_⟩
  unfold diP at k
  cases e:(a δ).bind (itEn p) with
  | none=>rw [e] at k; exact k.elim
  | some its =>
    rw [e] at k
    obtain ⟨d,e1,e2⟩:=Option.bind_eq_some_iff.mp e
    obtain ⟨g,hg,_,_⟩:=j.drop0
    refine ha A L H δ σ g d _ hg e1 fun v fp h1 n1=>?_
    have key:∃ B',(∀ a,B a → B' a) ∧ Jt p cl A L B' H [] [] δ σ ∧ ∀ w:Fl,(p = true ∨ w ≠ .own) → w = .own → ∀ a ∈ fp,B' a:=by
      cases p with
      | true=>exact ⟨A,j.ba,j.toPure,fun w _ _ a ha=>(h1.inA a ha).1⟩
      | false=>exact ⟨B,fun _ h=>h,j,fun w hw e=>absurd e (hw.resolve_left (by simp))⟩
    obtain ⟨B',hb,j',hw⟩:=key
    exact Znv (p:=p) j'.lb h1 j'.ba hw e2 fun J hJ=>k J A H B' (Nx.refl j.ba) hb j' hJ
variable {X:Cx} {e a tg:Expr} {pos pp tpos:Pos} {pa:PP} {da:DE}
theorem i_anyP (hK:X.K = cl.K) (ha:Rk cl X a pa):Ri cl xf X W p tg a (diP (itA p) pa):=by obtain ⟨ta,h1,h2⟩:=ha; exact ⟨_,pi_any h1,by rw [hK]; exact ZnY h2⟩
theorem i_anyD (hK:X.K = cl.K) (ha:Rd cl xf X W p a da):Ri cl xf X W p tg a (diD (itA true) da):=by obtain ⟨ta,h1,h2⟩:=ha; exact ⟨_,pi_any h1,by rw [hK]; exact ZnZ h2⟩
theorem i_enP {elts:List Expr} {kk:Nat} (hK:X.K = cl.K) (hm:X.mg "enumerate" = none) (ha:Rk cl X a pa) (hg:Gl X "enumerate":=by rfl) (hs:starEach [a] X.env = [(false,eval a X.env)]:=by rfl) (hs2:starEach (a :: []) X.env = (false,eval a X.env) :: starEach [] X.env:=by rfl):Ri cl xf X W p (.Tuple elts kk tpos) (.Call (.Name "enumerate" pp) [a] [] pos) (diP (itEn p) pa):=by
  obtain ⟨ta,h1,h2⟩:=ha
  exact ⟨iEn1 X.K ta,Rm.pi_enX hg hm (pa_cons h1 pa_nil hs2) hs,by rw [hK]; exact si_enP h2⟩
end
end Fs
set_option maxHeartbeats 1000000
namespace Fs
open PySem PySem.Spec PyProof.Rows L2
section
variable {cl:Ec} {xf:Nat → List Str} {X:Cx} {W:WX} {ws:Nat → Bool} {e a b c o tg ix:Expr} {es:List Expr} {pos pos' pp p2 apos q1 q2 kpos:Pos} {p:Bool} {pa pb:PP} {da db:DE} {r:R2} {R:List V → Hp → VK → Prop} {F:List D → Option D} {os:List Od} {ks:List AK}
theorem t_n (oo:C2 X e a b r) (h:NOp cl (rL2 r) F) (hr:Rn cl xf X W [a,b] os):Rt cl xf X W p e (dtV (dN F os)):=by
  obtain ⟨tes,h1,h2⟩:=hr
  cases h1 with
  | cons q1 h1=>cases h1 with
    | cons q2 h1=>cases h1 with
      | nil=>exact ⟨_,oo _ _ q1 q2,sb_v (se_n h h2)⟩
theorem t_ni (oo:C2 X e a b r) (h:NOp cl (rL2 r) F) (hr:Rz cl xf X W [a,b] ks):Rt cl xf X W false e (dtV (dNI F ks)):=by
  obtain ⟨tes,h1,h2⟩:=hr
  cases h1 with
  | cons q1 h1=>cases h1 with
    | cons q2 h1=>cases h1 with
      | nil=>exact ⟨_,oo _ _ q1 q2,sb_v (se_ni h h2)⟩
theorem o_addB (hK:X.K = cl.K):B2 X (.BinOp a .Add b pos) a b (rAddB cl.K):=by rw [← hK]; exact fun _ _ ha hb=>pe_op Zon ha hb
theorem o_mulA:B2 X (.BinOp a .Mult b pos) a b rMulA:=fun _ _ ha hb=>pe_op Zom ha hb
theorem opk_in (hK:X.K = cl.K) (hu:X.A.units + 65 < cLine):OpR X (compareOp .In) (rInA cl.K):=by rw [← hK]; exact op_inA hu
theorem ZcP (hK:X.K = cl.K) (hu:X.A.units + 65 < cLine):OpR X (compareOp .NotIn) (Zij cl.K):=by rw [← hK]; exact Zli hu
theorem bn_T1 {T:String} {x:Str} (hc:CallR X (.type T) R) (hm:X.mg x = none) (hv:bootBuiltins x = some (.type T)) (hg:Gl X x:=by rfl) (hn:x ≠ "__name__":=by decide) (hd:(x == ("__debug__":Str)) = false:=by decide)
    (h1:starEach [a] X.env = (false,eval a X.env) :: starEach [] X.env:=by rfl) (h2:(backTo pos (starEach [] X.env)).any (·.1) = false:=by rfl):BN X (.Call (.Name x pp) [a] [] pos) [a] (rL1 fun x H Q=>R [x] H Q):=fun tes h=>by
  cases h with
  | cons q1 h=>cases h with
    | nil =>
      have h9:=pe_callTy (p:=pp) (pos:=pos) hc hg hm hv (pa_cons q1 pa_nil h1) hn hd h1 h2
      exact ⟨fun pins s σ H Q I hq=>h9.run pins s σ H Q I hq⟩
theorem CallR.or' {f:Value} {r r':List V → Hp → VK → Prop} (h:CallR X f r) (h':CallR X f r'):CallR X f (fun xs H Q=>r xs H Q ∨ r' xs H Q):=by
  intro pins s σ H xs us Q I rx q
  rcases q with q | q
  · exact h pins s σ H xs us Q I rx q
  · exact h' pins s σ H xs us Q I rx q
theorem bn_tup (hK:X.K = cl.K) (hm:X.mg "tuple" = none) (hg:Gl X "tuple":=by rfl) (h1:starEach [a] X.env = (false,eval a X.env) :: starEach [] X.env:=by rfl) (h2:(backTo pos (starEach [] X.env)).any (·.1) = false:=by rfl):BN X (.Call (.Name "tuple" pp) [a] [] pos) [a] (rL1 (rTupA cl.K)):=by
  rw [← hK]; exact bn_T1 call_tuple_of hm PyProof.Rows.boot_tuple hg (by decide) (by decide) h1 h2
theorem bn_str (hm:X.mg "str" = none) (hg:Gl X "str":=by rfl) (h1:starEach [a] X.env = (false,eval a X.env) :: starEach [] X.env:=by rfl) (h2:(backTo pos (starEach [] X.env)).any (·.1) = false:=by rfl):BN X (.Call (.Name "str" pp) [a] [] pos) [a] (rL1 rStr):=bn_T1 (CallR.or' call_str_int SkE.call_str_str) hm PyProof.Rows.boot_str hg (by decide) (by decide) h1 h2
theorem ZnH (hm:X.mg "tuple" = none) (hc:X.calm = true:=by rfl) (hg:Gl X "tuple":=by rfl) (hbase:attributeBase a "values" X.env (eval a X.env) = eval a X.env:=by rfl) (hline:(apos.endLine == p2.line) = true:=by rfl)
    (hs:starEach [.Call (.Attribute a "values" apos) [] [] p2] X.env = (false,eval (.Call (.Attribute a "values" apos) [] [] p2) X.env) :: starEach [] X.env:=by rfl):BN X (.Call (.Name "tuple" pp) [.Call (.Attribute a "values" apos) [] [] p2] [] pos) [a] (rL1 Rm.rValsT):=fun tes h=>by
  cases h with
  | cons q1 h=>cases h with
    | nil=>exact Rm.pe_tupVals hc q1 hg hm PyProof.Rows.boot_tuple hbase hline hs
def Rpl (cl:Ec) (X:Cx) (e:Expr) (pl:PL):Prop:=∃ te,PE X e te ∧ SL cl te pl
theorem pl_var (i:Nat) {x:Str} (hN:X.N[i]? = some x:=by rfl) (hv:Vis X.env.scope x:=by first | exact Or.inl rfl | exact Or.inr (Or.inl rfl) | exact Or.inr (Or.inr rfl)) (hd:(x == ("__debug__":Str)) = false:=by decide) (hcd:(x == ("__classdict__":Str)) = false:=by decide):Rpl cl X (.Name x pos) (plV i):=⟨_,pe_var hN hv hd hcd,sl_var⟩
theorem PSet.or' {t t':TSet} (h:PSet X t) (h':PSet X t'):PSet X (fun o i v H Q=>t o i v H Q ∨ t' o i v H Q):=by
  intro pins s σ H o i v ov iv u Q I ro ri rv q
  rcases q with q | q
  · exact h pins s σ H o i v ov iv u Q I ro ri rv q
  · exact h' pins s σ H o i v ov iv u Q I ro ri rv q
theorem Ze0 {pl:PL} {fz:Bool} (hu:X.A.units + 1 < cLine) (ho:Rpl cl X o pl) (hk:Rd cl xf X W true ix db) (he:Rd cl xf X W false e da)
    (hq:∀ to ti,PE X o to → PE X ix ti → PG X (.Subscript o ix pp) (gSub to ti fun o i v H Q=>rSetL o i v H Q ∨ rSetD o i v H Q))
    (hs:swapsWithSole [.Subscript o ix pp] e pos.line X.env = pure false:=by rfl) (hw:swappedStores [.Subscript o ix pp] e X.env = pure none:=by rfl) (h1:(assignEach [.Subscript o ix pp] X.env).map (·.2) = [assign (.Subscript o ix pp) X.env]:=by rfl) :
    Rs cl xf X W ws (.Assign [.Subscript o ix pp] e pos) (Zby pl db fz da):=by
  obtain ⟨to,q1,q2⟩:=ho
  obtain ⟨ti,q3,q4⟩:=hk
  obtain ⟨te,q5,q6⟩:=he
  exact ⟨_,ps_asg q5 (hq _ _ q1 q3) hs hw h1,ZmP q2 q4 q6⟩
theorem s_fld {f:Str} {pl:PL} {c0:Nat} (hK:X.K = cl.K) (hc:Cls X.K (cl.c c0)) (hn:NoAttr X.K (cl.c c0) f) (ho:Rpl cl X o pl) (he:Rd cl xf X W false e da) (hs:swapsWith e (some (.Attribute o f pos')) pos.line X.env = pure false:=by rfl):Rs cl xf X W ws (.Assign [.Attribute o f pos'] e pos) (dsFldS pl c0 f da):=by
  obtain ⟨to,q1,q2⟩:=ho
  obtain ⟨te,q5,q6⟩:=he
  exact ⟨_,ps_fld q1 q5 hs,by rw [hK]; exact ZnT (by rw [← hK]; exact hc) (by rw [← hK]; exact hn) q2 q6⟩
end
end Fs
set_option maxHeartbeats 1000000
namespace Fs
open PySem PySem.Spec PyProof.Rows L2
/-- the program's classes by numbers: refusals first -/
def cnames:List Str:=([("SlackError":Str),("BadPieces":Str),("BadText":Str),("NoPiece":Str),("NoTurn":Str),("NoStretch":Str),("NoFailings":Str),("NoCounts":Str)]:List Str) ++ ([("NotRefused":Str),("Past":Str),("Waits":Str),("NoWord":Str),("NoFailing":Str),("NoRest":Str),("Over":Str),("NoLine":Str)]:List Str) ++ ([("NotKept":Str),("BadSeries":Str),("":Str),("":Str),("Pieces":Str),("Run":Str),("Paper":Str),("Kept":Str)]:List Str) ++ ([("Crowd":Str),("Busy":Str),("State":Str),("Open":Str),("Waiting":Str),("Begun":Str),("Ended":Str),("Finished":Str)]:List Str) ++ ([("Off":Str),("Refused":Str),("Book":Str),("Desk":Str),("Series":Str),("Lazy":Str)]:List Str)
def xfG:Nat → List Str
  | 1=>["at","why"] | 2=>["at","why"] | 3=>["found"] | 4=>["found"] | 5=>["found"] | 6=>["found"] | 7=>["found"] | 9=>["last"] | 10=>["name"] | 13=>["start","end"] | 15=>["found"] | 17=>["at","why"]
  | _=>[]
def clG (K:PySem.W.Frag):Ec:={ c:=fun n=>He.ga K (cnames.getD n ""),K:=K }
abbrev Lk:=PySem.W.Frag → Bool
def lkFa (f:He.Fa):Lk:=fun K=>f.ok K
def oexB (K:PySem.W.Frag) (C:Addr):Bool:=(match K.lookup C with
  | some ⟨.type t,_,.cls cd,sl⟩=>t == "type" && (match cd.mro,sl.toList with
    | .ref C' :: bm,[_,_,_,_,some (.builtin n),_]=>C' == C && (n == "ValueError.__new__" && (!cd.hasDel && (cd.hasDict && PySem.HandSPX.refsVE bm)))
    | _,_=>false)
  | _=>false) && (decide (PySem.W.findIn K (.ref C) "__setattr__" = some (some (.builtin "object.__setattr__"))) && (decide (PySem.W.subIn K (.ref C) (.type "BaseException") = some true) && (decide (PySem.W.typeIn K (.ref C) = some (.type "type")) && PySem.W.keepIn K (.ref C))))
theorem Zll {K:PySem.W.Frag} {C:Addr} (h:oexB K C = true):OexC K C:=by
  unfold oexB at h
  obtain ⟨h0,h⟩:=He.ba h
  obtain ⟨h1,h⟩:=He.ba h
  obtain ⟨h2,h⟩:=He.ba h
  obtain ⟨h3,h4⟩:=He.ba h
  refine ⟨?_,of_decide_eq_true h1,of_decide_eq_true h2,of_decide_eq_true h3,h4⟩
  split at h0
  · rename_i t dd cd sl ho
    obtain ⟨ht,h0⟩:=He.ba h0
    split at h0
    · rename_i C' bm k0 k1 k2 k3 n k5 hm hs
      obtain ⟨q1,h0⟩:=He.ba h0
      obtain ⟨q2,h0⟩:=He.ba h0
      obtain ⟨q3,h0⟩:=He.ba h0
      obtain ⟨q4,q5⟩:=He.ba h0
      have e1:=eq_of_beq ht
      have e2:=eq_of_beq q1
      have e3:=eq_of_beq q2
      have e4:cd.hasDel = false:=by simpa using q3
      subst e1 e2 e3
      obtain ⟨nm,bs,mro,ns,qn,hd,sn,sub,ab,col,del⟩:=cd
      dsimp only at hm e4 q4
      subst hm e4 q4
      have hsl:sl = #[k0,k1,k2,k3,some (.builtin "ValueError.__new__"),k5]:=by
        obtain ⟨l⟩:=sl
        simp only at hs
        rw [hs]
      subst hsl
      exact ⟨nm,qn,ns,bs,bm,sn,sub,ab,col,dd,k0,k1,k2,k3,k5,ho,q5⟩
    · cases h0
  · cases h0
def baseB (K:PySem.W.Frag) (C:Addr):Bool:=decide (PySem.W.specialIn K (.ref C) "__getattribute__" = some (some (.builtin "type.__getattribute__"))) && (decide (PySem.W.typeIn K (.ref C) = some (.type "type")) && (PySem.W.readsIn K C (.type "type") && (match PySem.W.findCls K (.ref C) (.type "type") "__init__" with
  | some (.val (.builtin n))=>n == "ValueError.__init__"
  | _=>false)))
theorem ZjL {K:PySem.W.Frag} {C:Addr} (h:baseB K C = true):BaseI K C:=by
  unfold baseB at h
  obtain ⟨h0,h⟩:=He.ba h
  obtain ⟨h1,h⟩:=He.ba h
  obtain ⟨h2,h3⟩:=He.ba h
  refine ⟨of_decide_eq_true h0,of_decide_eq_true h1,h2,?_⟩
  split at h3
  · rename_i n e
    rw [e,eq_of_beq h3]
  · cases h3
/-- an exception's __init__ is a function -/
def iniB (K:PySem.W.Frag) (C:Addr):Bool:=decide (PySem.W.findIn K (.ref C) "__init__" = some (some (.ref (He.ma K C "__init__")))) && decide (PySem.W.typeIn K (.ref (He.ma K C "__init__")) = some (.type "function"))
def obsX (chk:List Lk) (fn:List He.DefD) (K:PySem.W.Frag):He.AlD:=((chk.all fun f=>f K) && fn.all fun d=>d.ok K,fn.map fun d=>He.fnW K d.at_)
def SaysX (chk:List Lk) (fn:List He.DefD) (K:PySem.W.Frag):Prop:=obsX chk fn K = He.valD fn
section
variable {chk:List Lk} {fn:List He.DefD} {K:PySem.W.Frag}
theorem SaysX.fact (c:SaysX chk fn K) (i:Nat) {f:Lk} (h:chk[i]? = some f:=by rfl):f K = true:=by
  have c1:=(He.ba (show ((chk.all fun f=>f K) && fn.all fun d=>d.ok K) = true from congrArg (fun z:He.AlD=>z.1) c)).1
  exact List.all_eq_true.mp c1 f (List.mem_of_getElem? h)
theorem SaysX.def_ (c:SaysX chk fn K) (i:Nat) {d:He.DefD} (h:fn[i]? = some d:=by rfl):∃ fd,FunD K d.name d.qual d.params d.body d.scope (d.dvs K) (d.kws K) (He.fAd K d.at_) fd:=by
  have c2:=(He.ba (show ((chk.all fun f=>f K) && fn.all fun d=>d.ok K) = true from congrArg (fun z:He.AlD=>z.1) c)).2
  have e:fn.map (fun d=>He.fnW K d.at_) = fn.map He.DefD.val:=congrArg (fun z:He.AlD=>z.2) c
  have e2:(fn.map fun d=>He.fnW K d.at_)[i]? = (fn.map He.DefD.val)[i]?:=by rw [e]
  rw [List.getElem?_map,List.getElem?_map,h] at e2
  exact He.DefD.funD (Option.some.inj e2) (List.all_eq_true.mp c2 d (List.mem_of_getElem? h))
end
end Fs
namespace Fs
open PySem PySem.Spec PyProof.Rows L2
theorem hu65 {A:Around} {k:Nat} (hr:RoomG k A):A.units + 65 < cLine:=by have:=hr.un; omega
end Fs
namespace Fs
open PySem PySem.Spec PyProof.Rows L2
section
variable {cl:Ec} {xf:Nat → List Str} {X:Cx} {W:WX} {a:Expr} {pos cp:Pos} {p:Bool} {os:List Od} {ks:List AK} {j:Nat}
theorem t_isNn (hr:Rn cl xf X W [a] os):Rt cl xf X W p (.Compare a [.Is] [.Constant .none j cp] pos) (dtV (dN (f1 isND) os)):=by
  obtain ⟨tes,h1,h2⟩:=hr
  cases h1 with
  | cons q1 h1=>cases h1 with
    | nil=>exact ⟨_,pt_cmp (pc_isN q1) (nobehind _ (by decide) (by decide)),sb_v (se_n g_isN.n h2)⟩
theorem Zk3 (hr:Rn cl xf X W [a] os):Rt cl xf X W p (.Compare a [.IsNot] [.Constant .none j cp] pos) (dtV (dN (f1 notND) os)):=by
  obtain ⟨tes,h1,h2⟩:=hr
  cases h1 with
  | cons q1 h1=>cases h1 with
    | nil=>exact ⟨_,pt_cmp (pc_notN q1) (nobehind _ (by decide) (by decide)),sb_v (se_n g_notN.n h2)⟩
end
end Fs
set_option maxHeartbeats 1000000
namespace Fs
open PySem PySem.Spec PyProof.Rows L2
def gapE (i:Nat) (s:Sl):Bool:=match s[i]? with | some none=>true | _=>false
def backE (i:Nat) (d:D):Out Flow → Out Flow
  | .ok f s=>if gapE i s then .ok f (s.set i (some d)) else .bad
  | .exc c xs s=>if gapE i s then .exc c xs (s.set i (some d)) else .bad
  | .bad=>.bad
def dsForE (i:Nat) (it:D → Option (List D)) (tg:D → Sl → Option Sl) (body:DS):DS:=fun δ=>match (δ[i]?).join with
  | some d=>if d.free then (match it d with
    | some its=>backE i d (loop tg body its (δ.set i none))
    | none=>.bad) else .bad
  | none=>.bad
end Fs
namespace Fs
open PySem PySem.Spec PyProof.Rows L2
end Fs
namespace Fs
open PySem PySem.Spec PyProof.Rows L2
theorem is_nil {P:Nat → Prop}:∀ c,([]:List Nat).contains c = true → P c:=fun c h=>by simp at h
theorem ZfT {P:Nat → Prop} {a:Nat} {l:List Nat} (h:P a) (hl:∀ c,l.contains c = true → P c):∀ c,(a :: l).contains c = true → P c:=fun c hc=>by
  rw [List.contains_cons,Bool.or_eq_true] at hc
  rcases hc with q | q
  · rw [eq_of_beq q]; exact h
  · exact hl c q
theorem one_of {l:List Nat} {c0:Nat} (h:l = [c0]):∀ c,l.contains c = true → c = c0:=fun c hc=>by
  subst h
  simpa using hc
end Fs
set_option maxHeartbeats 2000000
namespace Fs
open PySem PySem.Spec PyProof.Rows L2
/-- the data's repr -/
def reprD (x:D):Option D:=match x with
  | .n (.dct []) _ []=>some (.str "{}")
  | x=>(pd x).bind fun d=>if d.showable = true ∧ d.hasDict = false ∧ d.depth ≤ 60 ∧ d.shown.length ≤ 1000000 then some (.str d.shown) else none
end Fs
set_option maxHeartbeats 2000000
namespace Fs
open PySem PySem.Spec PyProof.Rows L2
def pairsZ (xs ys:List D):List D:=(xs.zip ys).map fun q=>.n .tup .shr [q.1,q.2]
def itZ (p:Bool):D → D → Option (List D)
  | .n .lst w xs,.n .lst w' ys=>if xs.all D.kept = true ∧ ys.all D.kept = true ∧ (p = true ∨ (w ≠ .own ∧ w' ≠ .own)) then some (pairsZ xs ys) else none
  | _,_=>none
def diPZ (f:D → D → Option (List D)) (a b:PP):DA:=fun δ=>Out.ofO ((a δ).bind fun x=>(b δ).bind fun y=>f x y) δ
end Fs
set_option maxHeartbeats 2000000
namespace Fs
open PySem PySem.Spec PyProof.Rows L2
def dFr (a:DE):DE:=fun δ=>(a δ).bind fun x δ1=>.ok (frz x) δ1
end Fs
set_option maxHeartbeats 2000000
namespace Fs
open PySem PySem.Spec PyProof.Rows L2
def keyP:Key → PyData | .inl i=>.int i | .inr x=>.str x
mutual
def pdx:D → Option PyData
  | .v .non=>some .none
  | .v (.bl b)=>some (.bool b)
  | .v (.int i)=>some (.int i)
  | .v (.str s)=>some (.str s)
  | .n .lst _ xs=>(pdxs xs).map .list
  | .n .tup _ xs=>(pdxs xs).map .tuple
  | .n (.dct ks) _ xs=>if ks.length = xs.length then (pdxs xs).map fun ds=>.dict ((ks.map keyP).zip ds) else none
  | _=>none
def pdxs:List D → Option (List PyData)
  | []=>some []
  | d :: ds=>(pdx d).bind fun x=>(pdxs ds).map fun xs=>x :: xs
end
def reprX (x:D):Option D:=(pdx x).bind fun d=>if d.showable = true ∧ d.depth ≤ 60 ∧ d.shown.length ≤ 1000000 then some (.str d.shown) else none
end Fs
set_option maxHeartbeats 2000000
namespace Fs
open PySem PySem.Spec PyProof.Rows L2
def revX:List D → Option D
  | [.n .tup .shr ds,.v (.int k)]=>if k = -1 ∧ ds.all D.kept = true then some (.n .tup .shr ds.reverse) else none
  | xs=>rev3 xs
end Fs
set_option maxHeartbeats 2000000
namespace Fs
open PySem PySem.Spec PyProof.Rows L2
def longE:D → D → Bool
  | .n .lst _ (_ :: _),.n .lst _ []=>true
  | .n .tup _ (_ :: _),.n .tup _ []=>true
  | _,_=>false
def eqE (x y:D):Option D:=if longE x y then some (.bl false) else eqD x y
def neE (x y:D):Option D:=if longE x y then some (.bl true) else neD x y
def rLong (H:Hp) (x y:V):Prop:=∃ p q v vs,x = .ref p ∧ y = .ref q ∧ ((H p = some (.lst (v :: vs)) ∧ H q = some (.lst [])) ∨ (H p = some (.tup (v :: vs)) ∧ H q = some (.tup [])))
def rEqE (K:PySem.W.Frag):R2:=fun x y H Q=>rEqD K x y H Q ∨ (rLong H x y ∧ Q (.bl false) H)
def rNeE (K:PySem.W.Frag):R2:=fun x y H Q=>rNeD K x y H Q ∨ (rLong H x y ∧ Q (.bl true) H)
section
variable {X:Cx} {cl:Ec} {pins:List (Addr × Obj)} {σ:List (Option V)} {H:Hp} {s:Shared}
theorem Zet {a:Addr} {its:List Value} (h:PlainL s.heap a its.toArray):s.heap.IsList a its.toArray:=by
  obtain ⟨o,n,ho,hc,_,hd⟩:=h
  exact ⟨o,ho,hc,n,hd⟩
theorem Zfq {a:Addr} {its:List Value} (h:IsTup s.heap a its.toArray):s.heap.IsTuple a its.toArray:=h
theorem op_eqE (hu:X.A.units + 64 < cLine):OpR X (compareOp .Eq) (rEqE X.K):=by
  intro pins s σ H x y v u Q I rx ry h
  rcases h with h | ⟨⟨p,q,z,zs,rfl,rfl,h⟩,k⟩
  · exact op_eqD hu pins s σ H x y v u Q I rx ry h
  · cases rx; cases ry
    rcases h with ⟨h1,h2⟩ | ⟨h1,h2⟩
    · obtain ⟨its,rv,l1,_⟩:=I.list (SqL.of h1)
      obtain ⟨jts,rv2,l2,_⟩:=I.list (SqL.of h2)
      cases rv2
      cases rv
      exact SeqAt.RcAt.lists_lengths (Zet l1) (Zet l2) (by simp) (by omega) _ _ _ _ ⟨.bl _,H,I,rfl,k⟩
    · obtain ⟨its,rv,l1,_⟩:=I.tuple (SqT.of h1)
      obtain ⟨jts,rv2,l2,_⟩:=I.tuple (SqT.of h2)
      cases rv2
      cases rv
      exact SeqAt.RcAt.tuples (e:=fun _=>true) (Zfq l1) (Zfq l2) (by omega) (fun j _ h2=>by simp at h2) _ _ _ _ ⟨.bl _,H,I,rfl,by simpa using k⟩
theorem op_neE (hu:X.A.units + 64 < cLine):OpR X (compareOp .NotEq) (rNeE X.K):=by
  intro pins s σ H x y v u Q I rx ry h
  rcases h with h | ⟨⟨p,q,z,zs,rfl,rfl,h⟩,k⟩
  · exact op_neD hu pins s σ H x y v u Q I rx ry h
  · cases rx; cases ry
    rcases h with ⟨h1,h2⟩ | ⟨h1,h2⟩
    · obtain ⟨its,rv,l1,_⟩:=I.list (SqL.of h1)
      obtain ⟨jts,rv2,l2,_⟩:=I.list (SqL.of h2)
      cases rv2
      cases rv
      exact SeqAt.RcNeAt.lists_lengths (Zet l1) (Zet l2) (by simp) (by omega) _ _ _ _ ⟨.bl _,H,I,rfl,k⟩
    · obtain ⟨its,rv,l1,_⟩:=I.tuple (SqT.of h1)
      obtain ⟨jts,rv2,l2,_⟩:=I.tuple (SqT.of h2)
      cases rv2
      cases rv
      exact SeqAt.RcNeAt.tuples (e:=fun _=>true) (Zfq l1) (Zfq l2) (by omega) (fun j _ h2=>by simp at h2) _ _ _ _ ⟨.bl _,H,I,rfl,by simpa using k⟩
theorem Zlw {A L:Addr → Prop} {x y:D} {u w:V} {f1 f2:List Addr} (h1:Rp cl A L H true x u f1) (h2:Rp cl A L H true y w f2) (h:longE x y = true):rLong H u w:=by
  unfold longE at h
  split at h
  · obtain ⟨a,o,vs,fp,rfl,ho,hs,hr,hf⟩:=h1.node
    obtain ⟨b,o',vs',fp',rfl,ho',hs',hr',hf'⟩:=h2.node
    cases hs; cases hs'
    simp only [Rps] at hr hr'
    obtain ⟨v,vs1,_,_,rfl,_⟩:=hr
    obtain ⟨rfl,_⟩:=hr'
    exact ⟨a,b,v,vs1,rfl,rfl,.inl ⟨ho,ho'⟩⟩
  · obtain ⟨a,o,vs,fp,rfl,ho,hs,hr,hf⟩:=h1.node
    obtain ⟨b,o',vs',fp',rfl,ho',hs',hr',hf'⟩:=h2.node
    cases hs; cases hs'
    simp only [Rps] at hr hr'
    obtain ⟨v,vs1,_,_,rfl,_⟩:=hr
    obtain ⟨rfl,_⟩:=hr'
    exact ⟨a,b,v,vs1,rfl,rfl,.inr ⟨ho,ho'⟩⟩
  · cases h
theorem Zoi {K:PySem.W.Frag}:POp cl (rEqE K) eqE:=by
  intro A L H x y u w f1 f2 z Q h1 h2 e k
  unfold eqE at e
  split at e
  · rename_i hl
    cases e
    exact .inr ⟨Zlw h1 h2 hl,k _ [] (Rp.leaf rfl) (by simp)⟩
  · exact .inl (pop_eq A L H x y u w f1 f2 z Q h1 h2 e k)
theorem Zoh {K:PySem.W.Frag}:POp cl (rNeE K) neE:=by
  intro A L H x y u w f1 f2 z Q h1 h2 e k
  unfold neE at e
  split at e
  · rename_i hl
    cases e
    exact .inr ⟨Zlw h1 h2 hl,k _ [] (Rp.leaf rfl) (by simp)⟩
  · exact .inl (pop_ne A L H x y u w f1 f2 z Q h1 h2 e k)
theorem ZnD:∀ x y z,eqE x y = some z → z.kept = true:=by
  intro x y z e
  unfold eqE at e
  split at e
  · cases e; rfl
  · exact ZjF x y z e
theorem Znd:∀ x y z,neE x y = some z → z.kept = true:=by
  intro x y z e
  unfold neE at e
  split at e
  · cases e; rfl
  · exact Zjj x y z e
end
end Fs
set_option maxHeartbeats 2000000
namespace Fs
open PySem PySem.Spec PyProof.Rows L2
open PySem.SeqAt (EqIn)
open PySem.AutoSeq1 (wpAny_loadPart')
section
variable {P:Program} {w:World}
theorem ZmK {p q:Addr} {us ws:Array Value} {m k:Nat} {d1 d2:Option Addr} {s1 s2:Array (Option Value)} (hz:us.size = ws.size) :
    MeetsIn P w (Builtin.«tuple.__ne__» ⟨[.ref p,.ref q],[]⟩) fun A R s =>
      (s.heap.get? p = some ⟨.type "tuple",d1,.seq us m,s1⟩ ∧ s.heap.get? q = some ⟨.type "tuple",d2,.seq ws k,s2⟩) ∧
      (∀ z ∈ us.toList.zip ws.toList,EqIn P w A.in1 s z.1 z.2 true) ∧ R (.ok (.ret (.bool false))) s :=
  .of_wp fun A R s ⟨⟨g1,g2⟩,he,hr⟩=>by
    obtain ⟨hp,gs,dr,tk,os⟩:=s
    have st:=AutoSeq1.sub_tuple_tuple
    wp_walk using wpAny_loadPart' g1,wpAny_loadPart' g2,wpAny_forIn_list _ (fun r b t=>b.1 = none ∧ t = ⟨hp,gs,dr,tk,os⟩ ∧ ∀ z ∈ r,EqIn P w A.in1 ⟨hp,gs,dr,tk,os⟩ z.1 z.2 true) _
    case turn =>
      rintro ⟨y,x⟩ r b t ⟨e1,rfl,all⟩
      refine wpAny_bind (all (y,x) List.mem_cons_self _ _ ?_)
      wp_walk
      exact ⟨rfl,rfl,fun z m=>all z (List.mem_cons_of_mem _ m)⟩
    case fin =>
      rintro ⟨b1,b2⟩ t ⟨e1,rfl,_⟩
      simp only at e1
      subst e1
      wp_walk
      exact ⟨_,rfl,by simpa [Builtin.Tuple.tupleCompareSizes,bne,hz] using hr⟩
    case h=>exact ⟨rfl,rfl,he⟩
/-- != of two tuples,things alike -/
theorem Zoq {A:Around} {E:Value → Shared → Prop} {s:Shared} {p q:Addr} {us ws:Array Value} {Q:Value → Shared → Prop} (g1:s.heap.IsTuple p us) (g2:s.heap.IsTuple q ws) (hz:us.size = ws.size) (hu:A.units < cLine)
    (he:∀ z ∈ us.toList.zip ws.toList,EqIn P w A.in1 s z.1 z.2 true) (k:Q (.bool false) s):wpAny (model P w) A (richCompare .NotEq (.ref p) (.ref q)) Q E s:=by
  obtain ⟨⟨c1,d1,x1,s1⟩,a1,b1,m1,e1⟩:=g1
  obtain ⟨⟨c2,d2,x2,s2⟩,a2,b2,m2,e2⟩:=g2
  simp only at b1 e1 b2 e2
  subst b1; subst e1; subst b2; subst e2
  exact wpAny_richCompare_same_room (op:=.NotEq) (T:="tuple") ⟨_,a1,rfl⟩ ⟨_,a2,rfl⟩ F.slot_tuple_ne (call_meetsIn F.slot_tuple_ne ⟨_,a1,rfl⟩ F.entry_tuple_ne (F.args_tuple_ne_2 _ _) (ZmK hz) ⟨⟨a1,a2⟩,he,⟨(fun z=>nomatch z),k⟩⟩) hu
end
/-- two tuples of things that are related -/
def SmT (K:PySem.W.Frag) (H:Hp) (E:V → V → Prop) (x y:V):Prop:=∃ a b xs ys,x = .ref a ∧ y = .ref b ∧ SqT K H a xs ∧ SqT K H b ys ∧ Paired E xs ys
/-- two dicts,locked or not,of the same keys -/
def SmK (H:Hp) (E:V → V → Prop) (x y:V):Prop:=∃ a b ks ls,x = .ref a ∧ y = .ref b ∧ L2.Rd H a (.dK ks) ∧ L2.Rd H b (.dK ls) ∧ ks.length = ls.length ∧ ∀ p ∈ ks,∃ u,valV ls p.1 = some u ∧ E p.2 u
/-- the same data,of nesting below n -/
def SmV (K:PySem.W.Frag) (H:Hp):Nat → V → V → Prop
  | 0=>fun _ _=>False
  | n + 1=>fun x y=>(x = y ∧ flatB x = true) ∨ EqR K H (SmV K H n) x y ∨ SmT K H (SmV K H n) x y ∨ SmK H (SmV K H n) x y
section
variable {X:Cx} {pins:List (Addr × Obj)} {σ:List (Option V)} {H:Hp} {s:Shared}
theorem Zh2 {P:Program} {w:World} {A:Around} {F:V → V → Prop} (ih:∀ x y v u,F x y → RelV x v → RelV y u → EqIn P w A s v u true) {xs ys:List V} (hp:Paired F xs ys):∀ {us ws:List Value},Vals xs us → Vals ys ws → (∀ z ∈ us.zip ws,EqIn P w A s z.1 z.2 true) ∧ us.length = ws.length:=by
  induction hp with
  | nil=>intro us ws r1 r2; cases r1; cases r2; exact ⟨fun z m=>(by cases m),rfl⟩
  | cons h _ k =>
    intro us ws r1 r2
    cases r1 with
    | cons p1 q1 =>
      cases r2 with
      | cons p2 q2 =>
        obtain ⟨k1,k2⟩:=k q1 q2
        refine ⟨fun z m=>?_,by simp [k2]⟩
        rcases List.mem_cons.mp m with rfl | m
        · exact ih _ _ _ _ h p1 p2
        · exact k1 z m
theorem smT_eq (I:Inv X pins σ H s) {A:Around} {F:V → V → Prop} (hu:A.units < cLine) (ih:∀ x y v u,F x y → RelV x v → RelV y u → EqIn X.prog X.w A.in1 s v u true) {x y:V} {v u:Value} (h:SmT X.K H F x y) (rx:RelV x v) (ry:RelV y u) (E Q:Value → Shared → Prop) (k:Q (.bool true) s):wpAny (model X.prog X.w) A (richCompare .Eq v u) Q E s:=by
  obtain ⟨a,b,xs,ys,rfl,rfl,ha,hb,hp⟩:=h
  cases (show v = Value.ref a from rx)
  cases (show u = Value.ref b from ry)
  obtain ⟨us,r1,p1,_⟩:=I.tuple ha
  obtain ⟨ws,r2,p2,_⟩:=I.tuple hb
  obtain ⟨z1,z2⟩:=Zh2 ih hp r1 r2
  refine PySem.SeqAt.rcIn_tuples (e:=fun _=>true) p1 p2 hu (fun j h1 h2=>?_) (by rw [show ((List.range (min us.toArray.size ws.toArray.size)).all fun _=>true) = true from List.all_eq_true.mpr fun _ _=>rfl]; simpa [z2] using k)
  have h1':j < us.length:=by simpa using h1
  have h2':j < ws.length:=by simpa using h2
  have:=z1 (us[j],ws[j]) (List.mem_iff_getElem.mpr ⟨j,by simp; omega,by simp⟩)
  simpa using this
theorem smK_eq (I:Inv X pins σ H s) {A:Around} {F:V → V → Prop} (hu:A.units < cLine) (ih:∀ x y v u,F x y → RelV x v → RelV y u → EqIn X.prog X.w A.in1 s v u true) {x y:V} {v u:Value} (h:SmK H F x y) (rx:RelV x v) (ry:RelV y u) (E Q:Value → Shared → Prop) (k:Q (.bool true) s):wpAny (model X.prog X.w) A (richCompare .Eq v u) Q E s:=by
  obtain ⟨a,b,ks,ls,rfl,rfl,ha,hb,hl,hp⟩:=h
  cases (show v = Value.ref a from rx)
  cases (show u = Value.ref b from ry)
  obtain ⟨_,n1,v1,r1,d1⟩:=dk_rd I.hok ha
  obtain ⟨_,n2,v2,r2,d2⟩:=dk_rd I.hok hb
  have same:v1.length = v2.length:=r1.length ▸ r2.length ▸ hl
  exact PySem.W.rcP_dicts (knd:=mixKind X.prog X.w) (r:=true) n1 n2 d1 d2 hu (fun _=>hits_run ih r2 r1 hp) E Q (by simpa [same] using k)
theorem ZgE (I:Inv X pins σ H s):∀ (n:Nat) (A:Around),A.units + n < cLine → ∀ (x y:V) (v u:Value),SmV X.K H n x y → RelV x v → RelV y u → EqIn X.prog X.w A s v u true
  | 0,_,_,_,_,_,_,h,_,_=>h.elim
  | n + 1,A,hu,x,y,v,u,h,rx,ry=>by
    have ih:=ZgE I n A.in1 (by show A.units + 1 + n < cLine; omega)
    have fin:∀ {a b:Addr},x = .ref a → y = .ref b → (∀ E Q:Value → Shared → Prop,Q (.bool true) s → wpAny (model X.prog X.w) A (richCompare .Eq v u) Q E s) → EqIn X.prog X.w A s v u true:=by
      rintro a b rfl rfl st
      cases (show v = Value.ref a from rx)
      cases (show u = Value.ref b from ry)
      by_cases e:a = b
      · subst e
        exact (SeqAt.EqAt.same _).inModel _ _
      · exact SeqAt.EqIn.of_refs e st
    rcases h with ⟨rfl,f⟩ | h | h | h
    · exact (eqAt_same rx ry f).inModel _ _
    · obtain ⟨a,b,rfl,rfl⟩:∃ a b,x = .ref a ∧ y = .ref b:=by
        rcases h with ⟨a,b,_,_,e1,e2,_⟩ | ⟨a,b,_,_,e1,e2,_⟩ <;> exact ⟨a,b,e1,e2⟩
      exact fin rfl rfl (eqR_run I (by omega) ih h rx ry)
    · have h0:=h
      obtain ⟨a,b,_,_,rfl,rfl,_⟩:=h0
      exact fin rfl rfl (smT_eq I (by omega) ih h rx ry)
    · have h0:=h
      obtain ⟨a,b,_,_,rfl,rfl,_⟩:=h0
      exact fin rfl rfl (smK_eq I (by omega) ih h rx ry)
def rEqM (K:PySem.W.Frag):R2:=fun x y H Q=>rEqE K x y H Q ∨ (∃ n,n ≤ 40 ∧ (EqR K H (SmV K H n) x y ∨ SmT K H (SmV K H n) x y ∨ SmK H (SmV K H n) x y) ∧ Q (.bl true) H)
def rNeM (K:PySem.W.Frag):R2:=fun x y H Q=>rNeE K x y H Q ∨ (∃ n,n ≤ 40 ∧ SmT K H (SmV K H n) x y ∧ Q (.bl false) H)
theorem op_eqM (hu:X.A.units + 64 < cLine):OpR X (compareOp .Eq) (rEqM X.K):=by
  intro pins s σ H x y v u Q I rx ry h
  rcases h with h | ⟨n,hn,h,k⟩
  · exact op_eqE hu pins s σ H x y v u Q I rx ry h
  · have ih:=ZgE I n X.A.in1 (by show X.A.units + 1 + n < cLine; omega)
    rcases h with h | h | h
    · exact eqR_run I (A:=X.A) (by omega) ih h rx ry _ _ ⟨.bl true,H,I,rfl,k⟩
    · exact smT_eq I (A:=X.A) (by omega) ih h rx ry _ _ ⟨.bl true,H,I,rfl,k⟩
    · exact smK_eq I (A:=X.A) (by omega) ih h rx ry _ _ ⟨.bl true,H,I,rfl,k⟩
theorem op_neM (hu:X.A.units + 64 < cLine):OpR X (compareOp .NotEq) (rNeM X.K):=by
  intro pins s σ H x y v u Q I rx ry h
  rcases h with h | ⟨n,hn,h,k⟩
  · exact op_neE hu pins s σ H x y v u Q I rx ry h
  · have ih:=ZgE I n X.A.in1 (by show X.A.units + 1 + n < cLine; omega)
    obtain ⟨a,b,xs,ys,rfl,rfl,ha,hb,hp⟩:=h
    cases (show v = Value.ref a from rx)
    cases (show u = Value.ref b from ry)
    obtain ⟨us,r1,p1,_⟩:=I.tuple ha
    obtain ⟨ws,r2,p2,_⟩:=I.tuple hb
    obtain ⟨z1,z2⟩:=Zh2 ih hp r1 r2
    exact Zoq p1 p2 (by simpa using z2) (by omega) (by simpa using z1) ⟨.bl false,H,I,rfl,k⟩
end
def scE:V → V → Bool
  | .non,.non=>true
  | .bl a,.bl b=>a == b
  | .int a,.int b=>a == b
  | .str a,.str b=>a == b
  | _,_=>false
def allE (f:D → D → Bool):List D → List D → Bool
  | [],[]=>true
  | x :: xs,y :: ys=>f x y && allE f xs ys
  | _,_=>false
/-- two containers of the same data -/
def boxE (f:D → D → Bool):D → D → Bool
  | .n .lst _ xs,.n .lst _ ys=>allE f xs ys
  | .n .tup _ xs,.n .tup _ ys=>allE f xs ys
  | .n (.dct ks) _ xs,.n (.dct ls) _ ys=>decide (ks = ls) && (decide ks.Nodup && allE f xs ys)
  | _,_=>false
def tupE (f:D → D → Bool):D → D → Bool
  | .n .tup _ xs,.n .tup _ ys=>allE f xs ys
  | _,_=>false
def sameF:Nat → D → D → Bool
  | 0,_,_=>false
  | n + 1,x,y=>(match x,y with | .v a,.v b=>scE a b | _,_=>false) || boxE (sameF n) x y
def eqM (x y:D):Option D:=if boxE (sameF 20) x y then some (.bl true) else eqE x y
def neM (x y:D):Option D:=if tupE (sameF 20) x y then some (.bl false) else neE x y
section
variable {cl:Ec} {A L:Addr → Prop} {H:Hp}
theorem scE_eq {a b:V} (h:scE a b = true):a = b ∧ flatB a = true:=by
  unfold scE at h
  split at h
  · exact ⟨rfl,rfl⟩
  all_goals first | (have:=eq_of_beq h; subst this; exact ⟨rfl,rfl⟩) | cases h
theorem Zc7 {f:D → D → Bool} {F:V → V → Prop} (hf:∀ x y u w f1 f2,f x y = true → Rp cl A L H true x u f1 → Rp cl A L H true y w f2 → F u w):∀ {xs ys:List D} {us ws:List V} {f1 f2:List Addr},allE f xs ys = true → Rps cl A L H true xs us f1 → Rps cl A L H true ys ws f2 → Paired F us ws
  | [],[],us,ws,f1,f2,_,h1,h2=>by
    simp only [Rps] at h1 h2
    rw [h1.1,h2.1]; exact .nil
  | [],_ :: _,_,_,_,_,h,_,_=>by cases h
  | _ :: _,[],_,_,_,_,h,_,_=>by cases h
  | x :: xs,y :: ys,us,ws,f1,f2,h,h1,h2=>by
    simp only [allE,Bool.and_eq_true] at h
    simp only [Rps] at h1 h2
    obtain ⟨v,vs,_,_,rfl,_,a1,a2⟩:=h1
    obtain ⟨v',vs',_,_,rfl,_,b1,b2⟩:=h2
    exact .cons (hf _ _ _ _ _ _ h.1 a1 b1) (Zc7 hf h.2 a2 b2)
theorem ZiZ {ks:List Key} (hn:ks.Nodup):∀ {us ws:List V} {F:V → V → Prop},Paired F us ws → ∀ p ∈ ks.zip us,∃ u,valV (ks.zip ws) p.1 = some u ∧ F p.2 u:=by
  induction ks with
  | nil=>intro us ws F h p hp; simp at hp
  | cons k ks ih =>
    intro us ws F h p hp
    obtain ⟨h1,h2⟩:=List.nodup_cons.mp hn
    cases h with
    | nil=>simp at hp
    | @cons u w us ws q qs =>
      simp only [List.zip_cons_cons,List.mem_cons] at hp
      rcases hp with rfl | hp
      · exact ⟨w,by simp [valV],q⟩
      · obtain ⟨z,e,f⟩:=ih h2 qs p hp
        have:p.1 ∈ ks:=(List.of_mem_zip hp).1
        have hne:¬ k = p.1:=fun e=>h1 (e ▸ this)
        exact ⟨z,by simp [valV,hne] at e ⊢; exact e,f⟩
theorem Zl9 {K:PySem.W.Frag} {f:D → D → Bool} {F:V → V → Prop} (hf:∀ x y u w f1 f2,f x y = true → Rp cl A L H true x u f1 → Rp cl A L H true y w f2 → F u w) {x y:D} {u w:V} {f1 f2:List Addr} (h:boxE f x y = true) (h1:Rp cl A L H true x u f1) (h2:Rp cl A L H true y w f2):EqR K H F u w ∨ SmT K H F u w ∨ SmK H F u w:=by
  unfold boxE at h
  split at h
  · obtain ⟨a,o,vs,fp,rfl,ho,hs,hr,hf1⟩:=h1.node
    obtain ⟨b,o',vs',fp',rfl,ho',hs',hr',hf'⟩:=h2.node
    cases hs; cases hs'
    exact .inl (.inl ⟨a,b,vs,vs',rfl,rfl,SqL.of ho,SqL.of ho',Zc7 hf h hr hr'⟩)
  · obtain ⟨a,o,vs,fp,rfl,ho,hs,hr,hf1⟩:=h1.node
    obtain ⟨b,o',vs',fp',rfl,ho',hs',hr',hf'⟩:=h2.node
    cases hs; cases hs'
    exact .inr (.inl ⟨a,b,vs,vs',rfl,rfl,SqT.of ho,SqT.of ho',Zc7 hf h hr hr'⟩)
  · simp only [Bool.and_eq_true,decide_eq_true_eq] at h
    obtain ⟨rfl,hn,h⟩:=h
    obtain ⟨a,vs,fp,rfl,ho,l1,hr,hf1⟩:=h1.nodeD
    obtain ⟨b,vs',fp',rfl,ho',l2,hr',hf'⟩:=h2.nodeD
    have hp:=Zc7 hf h hr hr'
    exact .inr (.inr ⟨a,b,_,_,rfl,rfl,ho,ho',by simp; omega,ZiZ hn hp⟩)
  · cases h
theorem Zfm {K:PySem.W.Frag}:∀ (n:Nat) (x y:D) (u w:V) (f1 f2:List Addr),sameF n x y = true → Rp cl A L H true x u f1 → Rp cl A L H true y w f2 → SmV K H n u w
  | 0,_,_,_,_,_,_,h,_,_=>by cases h
  | n + 1,x,y,u,w,f1,f2,h,h1,h2=>by
    simp only [sameF,Bool.or_eq_true] at h
    rcases h with h | h
    · split at h
      · obtain ⟨e,hf⟩:=scE_eq h
        obtain ⟨rfl,_,_⟩:=h1.leafv
        obtain ⟨rfl,_,_⟩:=h2.leafv
        exact .inl ⟨e,hf⟩
      · cases h
    · rcases Zl9 (K:=K) (Zfm n) h h1 h2 with h | h
      · exact .inr (.inl h)
      · exact .inr (.inr h)
theorem pop_eqM {K:PySem.W.Frag}:POp cl (rEqM K) eqM:=by
  intro A L H x y u w f1 f2 z Q h1 h2 e k
  unfold eqM at e
  split at e
  · rename_i hl
    cases e
    exact .inr ⟨20,by decide,Zl9 (Zfm 20) hl h1 h2,k _ [] (Rp.leaf rfl) (by simp)⟩
  · exact .inl (Zoi A L H x y u w f1 f2 z Q h1 h2 e k)
theorem Zog {K:PySem.W.Frag}:POp cl (rNeM K) neM:=by
  intro A L H x y u w f1 f2 z Q h1 h2 e k
  unfold neM at e
  split at e
  · rename_i hl
    cases e
    have hb:boxE (sameF 20) x y = true:=by unfold tupE at hl; split at hl; exact hl; cases hl
    refine .inr ⟨20,by decide,?_,k _ [] (Rp.leaf rfl) (by simp)⟩
    unfold tupE at hl
    split at hl
    · obtain ⟨a,o,vs,fp,rfl,ho,hs,hr,hf1⟩:=h1.node
      obtain ⟨b,o',vs',fp',rfl,ho',hs',hr',hf'⟩:=h2.node
      cases hs; cases hs'
      exact ⟨a,b,vs,vs',rfl,rfl,SqT.of ho,SqT.of ho',Zc7 (Zfm 20) hl hr hr'⟩
    · cases hl
  · exact .inl (Zoh A L H x y u w f1 f2 z Q h1 h2 e k)
theorem ZnC:∀ x y z,eqM x y = some z → z.kept = true:=by
  intro x y z e
  unfold eqM at e
  split at e
  · cases e; rfl
  · exact ZnD x y z e
theorem Znc:∀ x y z,neM x y = some z → z.kept = true:=by
  intro x y z e
  unfold neM at e
  split at e
  · cases e; rfl
  · exact Znd x y z e
theorem g_eqM {K:PySem.W.Frag}:GOp cl (rEqM K) eqM:=pop_eqM.gs ZnC
end
end Fs
set_option maxHeartbeats 2000000
namespace Fs
open PySem PySem.Spec PyProof.Rows L2
end Fs
set_option maxHeartbeats 2000000
namespace Fs
open PySem PySem.Spec PyProof.Rows L2
/-- the first,or where it is not carried the second -/
def dElse (a b:DE):DE:=fun δ=>match a δ with | .bad=>b δ | .ok d s=>.ok d s | .exc c xs s=>.exc c xs s
def isoD (cs:List (Nat × Bool)) (x:D):Option D:=match x with
  | .n (.obj c _) _ _=>(cs.lookup c).map fun b=>.bl b
  | _=>(tyD x).map fun _=>.bl false
end Fs
set_option maxHeartbeats 2000000
namespace Fs
open PySem PySem.Spec PyProof.Rows L2
end Fs
set_option maxHeartbeats 2000000
namespace Fs
open PySem PySem.Spec PyProof.Rows L2
open PySem.SeqAt (EqIn)
open PySem.AutoSeq1 (wpAny_loadPart')
open PySem.MeetsSeq PySem.MeetsSeq2 PySem.MeetsSeq3 PySem.SeqRoads2
section
variable {P:Program} {w:World}
theorem Zjn {p q:Addr} {us ws:Array Value} {m k:Nat} {d1 d2:Option Addr} {s1 s2:Array (Option Value)} (hz:us.size = ws.size):∀ (n i:Nat),us.size - i = n →
    MeetsIn P w (Builtin.«list.__eq__.loop» ⟨[.ref p,.ref q,rawInt i,rawInt 3],[]⟩) fun A R s =>
      (s.heap.get? p = some ⟨.type "list",d1,.seq us m,s1⟩ ∧ s.heap.get? q = some ⟨.type "list",d2,.seq ws k,s2⟩) ∧
      (∀ (j:Nat) (a1:j < us.size) (a2:j < ws.size),EqIn P w A.in1 s us[j] ws[j] true) ∧ R (.ok (.ret (.bool false))) s
  | 0,i,e=>by
    intro A R s ⟨⟨g1,g2⟩,he,hr⟩
    obtain ⟨hp,gs,dr,tk,os⟩:=s
    wp_walk using wpAny_loadPart' g1,wpAny_loadPart' g2
    rw [show us[((i:Nat):Int).toNat]? = none by (simp; omega),show ws[((i:Nat):Int).toNat]? = none by (simp; omega)]
    wp_walk using wpAny_loadPart' g1,wpAny_loadPart' g2
    show R (.ok (.ret (.bool (us.size != ws.size)))) _
    simpa [hz] using hr
  | n + 1,i,e=>by
    intro A R s ⟨⟨g1,g2⟩,he,hr⟩
    obtain ⟨hp,gs,dr,tk,os⟩:=s
    wp_walk using wpAny_loadPart' g1,wpAny_loadPart' g2
    have l1:i < us.size:=by omega
    have l2:i < ws.size:=by omega
    rw [show us[((i:Nat):Int).toNat]? = some us[i] by simp [l1],show ws[((i:Nat):Int).toNat]? = some ws[i] by simp [l2]]
    refine wpAny_bind (he i l1 l2 _ _ ?_)
    wp_walk
    rw [show ((i:Int) + 1) = ((i + 1:Nat):Int) by (push_cast; rfl)]
    refine ⟨plainId_quiet plain_eq_loop _,codeAny_builtin entry_eq_loop ?_⟩
    rw [Around.under_plainId plain_eq_loop _]
    exact Zjn hz n (i + 1) (by omega) A R _ ⟨⟨g1,g2⟩,he,hr⟩
theorem Znj {p q:Addr} {us ws:Array Value} {m k:Nat} {d1 d2:Option Addr} {s1 s2:Array (Option Value)} (hz:us.size = ws.size) :
    MeetsIn P w (Builtin.«list.__ne__» ⟨[.ref p,.ref q],[]⟩) fun A R s =>
      (s.heap.get? p = some ⟨.type "list",d1,.seq us m,s1⟩ ∧ s.heap.get? q = some ⟨.type "list",d2,.seq ws k,s2⟩) ∧
      (∀ (j:Nat) (a1:j < us.size) (a2:j < ws.size),EqIn P w A.in1 s us[j] ws[j] true) ∧ R (.ok (.ret (.bool false))) s:=by
  intro A R s ⟨⟨g1,g2⟩,he,hr⟩
  obtain ⟨hp,gs,dr,tk,os⟩:=s
  have st:=AutoSeq1.sub_list_list
  have nz:¬ (us.size != ws.size) = true:=by simp [hz]
  wp_walk using wpAny_loadPart' g1,wpAny_loadPart' g2
  refine ⟨plainId_quiet plain_eq_loop _,codeAny_builtin entry_eq_loop ?_⟩
  rw [Around.under_plainId plain_eq_loop _]
  exact Zjn hz _ 0 rfl A R _ ⟨⟨g1,g2⟩,he,hr⟩
theorem Zor {A:Around} {E:Value → Shared → Prop} {s:Shared} {p q:Addr} {us ws:Array Value} {Q:Value → Shared → Prop} (g1:s.heap.IsList p us) (g2:s.heap.IsList q ws) (hz:us.size = ws.size) (hu:A.units < cLine)
    (he:∀ (j:Nat) (a1:j < us.size) (a2:j < ws.size),EqIn P w A.in1 s us[j] ws[j] true) (k:Q (.bool false) s):wpAny (model P w) A (richCompare .NotEq (.ref p) (.ref q)) Q E s:=by
  obtain ⟨⟨c1,d1,x1,s1⟩,a1,b1,m1,e1⟩:=g1
  obtain ⟨⟨c2,d2,x2,s2⟩,a2,b2,m2,e2⟩:=g2
  simp only at b1 e1 b2 e2
  subst b1; subst e1; subst b2; subst e2
  exact wpAny_richCompare_same_room (op:=.NotEq) (T:="list") ⟨_,a1,rfl⟩ ⟨_,a2,rfl⟩ F.slot_list_ne (call_meetsIn F.slot_list_ne ⟨_,a1,rfl⟩ F.entry_list_ne (F.args_list_ne_2 _ _) (Znj hz) ⟨⟨a1,a2⟩,he,⟨(fun z=>nomatch z),k⟩⟩) hu
end
def SmL (K:PySem.W.Frag) (H:Hp) (E:V → V → Prop) (x y:V):Prop:=∃ a b xs ys,x = .ref a ∧ y = .ref b ∧ SqL K H a xs ∧ SqL K H b ys ∧ Paired E xs ys
/-- two dicts of the same keys and flat values -/
def SmD (H:Hp) (x y:V):Prop:=∃ a b ks ls,x = .ref a ∧ y = .ref b ∧ L2.Rd H a (.dK ks) ∧ L2.Rd H b (.dK ls) ∧ ks.length = ls.length ∧ ∀ p ∈ ks,valV ls p.1 = some p.2 ∧ flatB p.2 = true
def rNeX (K:PySem.W.Frag):R2:=fun x y H Q=>rNeM K x y H Q ∨ (∃ n,n ≤ 40 ∧ SmL K H (SmV K H n) x y ∧ Q (.bl false) H) ∨ (SmD H x y ∧ Q (.bl false) H)
section
variable {X:Cx} {pins:List (Addr × Obj)} {σ:List (Option V)} {H:Hp} {s:Shared}
theorem Zl2 {A:Around} {ls:List (Key × V)} {vb:List (Key × Value)} (rb:KV ls vb) {ks:List (Key × V)} {va:List (Key × Value)} (ra:KV ks va):(∀ p ∈ ks,valV ls p.1 = some p.2 ∧ flatB p.2 = true) → PySem.W.KeqHits A s vb va true:=by
  unfold KV at ra
  induction ra with
  | nil=>intro _; exact .nil
  | @cons p q ps qs h t k =>
    intro hp
    have q0:=hp p List.mem_cons_self
    have at0:RelO (some p.2) (valueAt vb p.1):=q0.1 ▸ rb.val p.1
    obtain ⟨y0,e0,r0⟩:=at0.some_of
    obtain ⟨kk,v0⟩:=q
    rw [show p.1 = kk from h.1] at e0
    exact PySem.W.KeqHits.hit (v:=v0) e0 (eqAt_same (A:=A) (s:=s) h.2 r0 q0.2) (k fun p' hm=>hp p' (List.mem_cons_of_mem _ hm))
theorem op_neX (hu:X.A.units + 64 < cLine):OpR X (compareOp .NotEq) (rNeX X.K):=by
  intro pins s σ H x y v u Q I rx ry h
  rcases h with h | ⟨n,hn,h,k⟩ | ⟨h,k⟩
  · exact op_neM hu pins s σ H x y v u Q I rx ry h
  · have ih:=ZgE I n X.A.in1 (by show X.A.units + 1 + n < cLine; omega)
    obtain ⟨a,b,xs,ys,rfl,rfl,ha,hb,hp⟩:=h
    cases (show v = Value.ref a from rx)
    cases (show u = Value.ref b from ry)
    obtain ⟨us,⟨r1,p1,_⟩⟩:=I.list ha
    obtain ⟨ws,⟨r2,p2,_⟩⟩:=I.list hb
    obtain ⟨z1,z2⟩:=Zh2 ih hp r1 r2
    refine Zor p1.isList p2.isList (by simpa using z2) (by omega) (fun j a1 a2=>?_) ⟨.bl false,H,I,rfl,k⟩
    have a1':j < us.length:=by simpa using a1
    have a2':j < ws.length:=by simpa using a2
    have:=z1 (us[j],ws[j]) (List.mem_iff_getElem.mpr ⟨j,by simp; omega,by simp⟩)
    simpa using this
  · obtain ⟨a,b,ks,ls,rfl,rfl,ha,hb,hl,hp⟩:=h
    cases (show v = Value.ref a from rx)
    cases (show u = Value.ref b from ry)
    obtain ⟨_,ya,va,ra,da⟩:=dk_rd I.hok ha
    obtain ⟨_,yb,vb,rb,db⟩:=dk_rd I.hok hb
    refine PySem.W.keq_ne (r:=true) ya yb da db (by omega) (fun _=>Zl2 rb ra hp) ?_
    have same:va.length = vb.length:=ra.length ▸ rb.length ▸ hl
    simp only [same,beq_self_eq_true,Bool.true_and,Bool.not_true]
    exact ⟨.bl false,H,I,rfl,k⟩
end
def lstE (f:D → D → Bool):D → D → Bool
  | .n .lst _ xs,.n .lst _ ys=>allE f xs ys
  | _,_=>false
def flatE:D → D → Bool
  | .v a,.v b=>scE a b
  | _,_=>false
def dctE:D → D → Bool
  | .n (.dct ks) _ xs,.n (.dct ls) _ ys=>decide (ks = ls) && (decide ks.Nodup && allE flatE xs ys)
  | _,_=>false
def neX (x y:D):Option D:=if lstE (sameF 20) x y then some (.bl false) else if dctE x y then some (.bl false) else neM x y
section
variable {cl:Ec} {A L:Addr → Prop} {H:Hp}
theorem pop_neX {K:PySem.W.Frag}:POp cl (rNeX K) neX:=by
  intro A L H x y u w f1 f2 z Q h1 h2 e k
  unfold neX at e
  split at e
  · rename_i hl
    cases e
    refine .inr (.inl ⟨20,by decide,?_,k _ [] (Rp.leaf rfl) (by simp)⟩)
    unfold lstE at hl
    split at hl
    · obtain ⟨a,o,vs,fp,rfl,ho,hs,hr,hf1⟩:=h1.node
      obtain ⟨b,o',vs',fp',rfl,ho',hs',hr',hf'⟩:=h2.node
      cases hs; cases hs'
      exact ⟨a,b,vs,vs',rfl,rfl,SqL.of ho,SqL.of ho',Zc7 (Zfm 20) hl hr hr'⟩
    · cases hl
  · split at e
    · rename_i hl
      cases e
      refine .inr (.inr ⟨?_,k _ [] (Rp.leaf rfl) (by simp)⟩)
      unfold dctE at hl
      split at hl
      · simp only [Bool.and_eq_true,decide_eq_true_eq] at hl
        obtain ⟨rfl,hn,hl⟩:=hl
        obtain ⟨a,vs,fp,rfl,ho,l1,hr,hf1⟩:=h1.nodeD
        obtain ⟨b,vs',fp',rfl,ho',l2,hr',hf'⟩:=h2.nodeD
        have hp:=Zc7 (F:=fun u w=>u = w ∧ flatB u = true) (fun x y u w f1 f2 hxy q1 q2=>by
          unfold flatE at hxy
          split at hxy
          · obtain ⟨rfl,_,_⟩:=q1.leafv
            obtain ⟨rfl,_,_⟩:=q2.leafv
            exact scE_eq hxy
          · cases hxy) hl hr hr'
        refine ⟨a,b,_,_,rfl,rfl,ho,ho',by simp; omega,fun p hpm=>?_⟩
        obtain ⟨z,e1,e2,e3⟩:=ZiZ hn hp p hpm
        exact ⟨by rw [e1,e2],e3⟩
      · cases hl
    · exact .inl (Zog A L H x y u w f1 f2 z Q h1 h2 e k)
theorem Znb:∀ x y z,neX x y = some z → z.kept = true:=by
  intro x y z e
  unfold neX at e
  split at e
  · cases e; rfl
  · split at e
    · cases e; rfl
    · exact Znc x y z e
theorem g_neX {K:PySem.W.Frag}:GOp cl (rNeX K) neX:=pop_neX.gs Znb
end
end Fs
namespace Fs
open PySem PySem.Spec PyProof.Rows L2
end Fs
namespace Fs
open PySem PySem.Spec PyProof.Rows
theorem Zm5 {a b:List Lk} {m n:List He.DefD} {K:PySem.W.Frag} (h1:obsX a m K = He.valD m) (h2:obsX b n K = He.valD n):obsX (a ++ b) (m ++ n) K = He.valD (m ++ n):=by
  have e1:((a.all fun f=>f K) && m.all fun d=>d.ok K) = true:=congrArg (fun z:He.AlD=>z.1) h1
  have e2:((b.all fun f=>f K) && n.all fun d=>d.ok K) = true:=congrArg (fun z:He.AlD=>z.1) h2
  have e3:m.map (fun d=>He.fnW K d.at_) = m.map He.DefD.val:=congrArg (fun z:He.AlD=>z.2) h1
  have e4:n.map (fun d=>He.fnW K d.at_) = n.map He.DefD.val:=congrArg (fun z:He.AlD=>z.2) h2
  rw [Bool.and_eq_true] at e1 e2
  show ((((a ++ b).all fun f=>f K) && (m ++ n).all fun d=>d.ok K),(m ++ n).map fun d=>He.fnW K d.at_) = (true,(m ++ n).map He.DefD.val)
  rw [List.all_append,List.all_append,List.map_append,List.map_append,e1.1,e1.2,e2.1,e2.2,e3,e4]
  rfl
/-- what the module's names reach,level by level,with no search for doubles -/
def asF (g:Addr → Option Obj):Nat → List Addr → List Addr
  | 0,fr=>fr
  | n + 1,fr=>fr ++ asF g n (fr.flatMap fun a=>match g a with
    | some o=>He.refsD o
    | none=>[])
def obsZG (n:Nat) (chk:List Lk) (fn:List He.DefD) (g:Addr → Option Obj):He.AlD:=obsX chk fn (He.frG g (sysModules :: cStatics :: asF g n [mainGlobals]))
def hookZ (n:Nat) (chk:List Lk) (fn:List He.DefD):PySem.W.Hook where
  α:=He.AlD
  obs:=fun s=>obsZG n chk fn s.heap.get?
  val:=fun _=>He.valD fn
  says:=fun _ h=>∃ K:PySem.W.Frag,K.In h ∧ SaysX chk fn K
  of:=fun _ _ e=>⟨_,He.frG_in,e⟩
  keeps:=fun _ _ _ ⟨K,hK,c⟩ k=>⟨K,PySem.W.Frag.In.keeps hK k,c⟩
theorem Zm4 {n:Nat} {chk:List Lk} {fn:List He.DefD} {g:Addr → Option Obj} {s:Shared} (h:∀ a,g a = s.heap.get? a):obsZG n chk fn g = (hookZ n chk fn).obs s:=by
  have e:g = s.heap.get?:=funext h
  rw [e] <;> rfl
end Fs
namespace Fs
open PySem PySem.W HandSHeadRun
def ObsEq (r:OpenRow) (n:Nat) (a:List Lk) (m:List He.DefD) (M:Nat) (w:World):Prop:=∀ os:OsState,(endF (stepQ (denQ tabQ) r.prog w) M r.prog w os).map (fun s=>obsZG n a m (getT s)) = some (He.valD m)
section
variable {r:OpenRow} {q:Program} {n M:Nat} {a b:List Lk} {m k:List He.DefD} {loose:List Str} {w:World}
theorem ZgM (r1:ObsEq r n a m M w) (r2:ObsEq r n b k M w):ObsEq r n (a ++ b) (m ++ k) M w:=fun os=>by
  have h1:=r1 os
  have h2:=r2 os
  cases e:endF (stepQ (denQ tabQ) r.prog w) M r.prog w os with
  | none=>rw [e] at h1; cases h1
  | some s =>
    rw [e] at h1 h2
    exact congrArg some (Zm5 (Option.some.inj h1) (Option.some.inj h2))
theorem Zn6 (r0:RunEq r q (hookZ n [] []) (fun s=>obsZG n [] [] (getT s)) M loose w) (r1:ObsEq r n a m M w):RunEq r q (hookZ n a m) (fun s=>obsZG n a m (getT s)) M loose w:=fun os=>by
  have h0:=r0 os
  have h1:=r1 os
  cases e:endF (stepQ (denQ tabQ) r.prog w) M r.prog w os with
  | none=>rw [e] at h1; cases h1
  | some s =>
    rw [e] at h0 h1
    have h2:=Option.some.inj h0
    have h3:=Option.some.inj h1
    exact congrArg some (Prod.ext (congrArg (fun z=>z.1) h2) (Prod.ext (congrArg (fun z=>z.2.1) h2) h3))
end
end Fs
namespace Fs
open PySem PySem.Spec PyProof.Rows L2
def tgL (ts:List (D → Sl → Option Sl)):D → Sl → Option Sl
  | .n .lst .shr ds,δ=>if ds.all D.kept = true ∧ ds.length = ts.length then tgs ts ds δ else none
  | _,_=>none
end Fs
namespace Fs
open PySem PySem.Spec PyProof.Rows L2
end Fs
namespace Fs
open PySem PySem.Spec PyProof.Rows L2
section
variable {cl:Ec} {xf:Nat → List Str} {W:WX} {A A' L L' B:Addr → Prop} {H H':Hp} {δ δ':Sl} {σ σ':L2.St} {b:Bool}
theorem Rps.strs:∀ {zs:List Str},Rps cl A L H b (zs.map D.str) (zs.map V.str) []
  | []=>by simp [Rps]
  | z :: zs=>by
    simp only [List.map_cons,Rps]
    exact ⟨_,_,[],[],rfl,rfl,by simp [Rp,sc],Rps.strs⟩
def splitD:List D → Option D
  | [.v (.str x),.v (.str y)]=>if (y.length == 0) = false ∧ x.length ≤ 100000 then some (.n .lst .own ((Txt.split x y).map D.str)) else none
  | _=>none
def rSplit:V → List V → Hp → VK → Prop:=fun x xs H Q=>∃ a b,x = .str a ∧ xs = [.str b] ∧ (b.length == 0) = false ∧ a.length + 2 ≤ sizeLine ∧ rNewStrs (Txt.split a b) H Q
theorem na_split:NA cl (rM rSplit) splitD:=by
  intro A L H xs us z ad hr e
  unfold splitD at e
  split at e
  · rename_i x y
    split at e
    · rename_i hl
      cases e
      obtain ⟨u,w,fp,gp,rfl,h1,h2⟩:=hr.two
      obtain ⟨rfl,_,_⟩:=h1.leafv
      obtain ⟨rfl,_,_⟩:=h2.leafv
      refine .inr (.inl ⟨.lst,.own,_,(Txt.split x y).map V.str,[],_,rfl,.inl rfl,?_,Rps.strs,rfl,rfl,fun Q q=>⟨x,y,rfl,rfl,hl.1,by rw [sizeLine_eq]; omega,q⟩⟩)
      simp only [List.all_map,List.all_eq_true]
      intro z _; rfl
    · cases e
  · cases e
end
end Fs
namespace Fs
open PySem PySem.Spec PyProof.Rows L2
section
variable {cl:Ec} {xf:Nat → List Str} {X:Cx} {W:WX} {A A' L L' B:Addr → Prop} {H H':Hp} {δ δ':Sl} {σ σ':L2.St} {b:Bool}
def idxP (d:PyData):List PyData → Option Nat
  | []=>none
  | y :: ys=>if PyData.eqv y d then some 0 else (idxP d ys).map (· + 1)
theorem ZlU {d:PyData}:∀ {ys:List PyData} {n:Nat},idxP d ys = some n → ∃ z,ys[n]? = some z ∧ PyData.eqv z d = true ∧ ∀ (m:Nat) (z':PyData),m < n → ys[m]? = some z' → PyData.eqv z' d = false
  | [],n,h=>by cases h
  | y :: ys,n,h=>by
    unfold idxP at h
    split at h
    · rename_i he
      cases h
      exact ⟨y,rfl,he,fun m z' hm=>absurd hm (Nat.not_lt_zero _)⟩
    · rename_i he
      obtain ⟨k,h1,rfl⟩:=Option.map_eq_some_iff.mp h
      obtain ⟨z,h2,h3,h4⟩:=ZlU h1
      refine ⟨z,h2,h3,fun m z' hm hz=>?_⟩
      cases m with
      | zero=>cases hz; exact Bool.eq_false_iff.mpr he
      | succ m=>exact h4 m z' (by omega) hz
def indexP:List D → Option D
  | [.n .lst w xs,y]=>(pd y).bind fun d=>(pds xs).bind fun es=>if SeqAt.shaped d = true ∧ SeqAt.shaped (.list es) = true then (idxP d es).map fun (n:Nat)=>D.int (n:Int) else none
  | _=>none
def indexX (xs:List D):Option D:=match indexD xs with | some z=>some z | none=>indexP xs
def rIndexX (K:PySem.W.Frag):V → List V → Hp → VK → Prop:=fun x xs H Q=>rIndex K x xs H Q ∨ rIndexD K x xs H Q
theorem mt_indexX (hu:X.A.units + 65 < cLine):MtR X "list.index" (rIndexX X.K):=fun pins s σ H x xs v us Q I rx rxs h=>by
  rcases h with h | h
  · exact mt_index pins s σ H x xs v us Q I rx rxs h
  · exact mt_indexD hu pins s σ H x xs v us Q I rx rxs h
theorem na_indexX:NA cl (rM (rIndexX cl.K)) indexX:=by
  intro A L H xs us z ad hr e
  unfold indexX at e
  cases h1:indexD xs with
  | some z' =>
    rw [h1] at e
    cases e
    refine (Zne A L H xs us z ad hr h1).imp fun Q q=>?_
    cases us with
    | nil=>exact q
    | cons u us=>exact .inl q
  | none =>
    rw [h1] at e
    simp only at e
    unfold indexP at e
    split at e
    · rename_i w xs y
      obtain ⟨d,e1,e2⟩:=Option.bind_eq_some_iff.mp e
      obtain ⟨es,e3,e4⟩:=Option.bind_eq_some_iff.mp e2
      split at e4
      · rename_i hsh
        obtain ⟨n,e5,rfl⟩:=Option.map_eq_some_iff.mp e4
        obtain ⟨u,v,fp,gp,rfl,g1,g2⟩:=hr.two
        have k1:=g1.dp (K:=cl.K) (e:=.list es) (by simp [pd,e3])
        have k2:=g2.dp (K:=cl.K) e1
        obtain ⟨a,o,vs,fp',rfl,ho,hs,hr',hf⟩:=g1.node
        obtain ⟨z,q1,q2,q3⟩:=ZlU e5
        exact .sc rfl fun Q q=>.inr ⟨a,v,d,es,n,z,rfl,rfl,k1,k2,hsh.2,hsh.1,q1,q2,q3,q⟩
      · cases e4
    · cases e
end
end Fs
namespace Fs
open PySem PySem.Spec PyProof.Rows L2
end Fs
set_option maxHeartbeats 2000000
namespace Fs
open PySem PySem.Spec PyProof.Rows L2
end Fs
set_option maxHeartbeats 2000000
namespace Fs
open PySem PySem.Spec PyProof.Rows L2
end Fs
set_option maxHeartbeats 2000000
namespace Fs
open PySem PySem.Spec PyProof.Rows L2
end Fs
set_option maxHeartbeats 0
namespace Lw
open PySem PySem.Spec PyProof.Rows L2 Fs
def Zgx:He.DefD:=⟨("_law_box",none),"_law_box","_law_box",defArgs ZbQ,defBody ZbQ,defScope ZbQ,[],[]⟩
def ZfY:He.DefD:=⟨("_law_take",none),"_law_take","_law_take",defArgs Zbv,defBody Zbv,defScope Zbv,[],[]⟩
def Zfg:He.DefD:=⟨("_law_names",none),"_law_names","_law_names",defArgs Z1,defBody Z1,defScope Z1,[],[]⟩
def ZfZ:He.DefD:=⟨("_law_rows",none),"_law_rows","_law_rows",defArgs Zbw,defBody Zbw,defScope Zbw,[],[]⟩
def Zff:He.DefD:=⟨("_law_thing",none),"_law_thing","_law_thing",defArgs Zbh,defBody Zbh,defScope Zbh,[],[]⟩
def Zf1:He.DefD:=⟨("_law_cell",none),"_law_cell","_law_cell",defArgs Zbx,defBody Zbx,defScope Zbx,[],[]⟩
def Zex:He.DefD:=⟨("_law_spoilt",none),"_law_spoilt","_law_spoilt",defArgs Z7,defBody Z7,defScope Z7,[],[]⟩
def Zgu:He.DefD:=⟨("is_whole",none),"is_whole","is_whole",defArgs ZbP,defBody ZbP,defScope ZbP,[],[]⟩
def ZfW:He.DefD:=⟨("is_within",none),"is_within","is_within",defArgs Zbt,defBody Zbt,defScope Zbt,[],[]⟩
def Zd0:He.DefD:=⟨("window_fault",none),"window_fault","window_fault",defArgs Z0,defBody Z0,defScope Z0,[],[]⟩
def ZhW:He.DefD:=⟨("is_name",none),"is_name","is_name",defArgs ZbT,defBody ZbT,defScope ZbT,[],[]⟩
def ZfU:He.DefD:=⟨("row_fault",none),"row_fault","row_fault",defArgs Zbs,defBody Zbs,defScope Zbs,[],[]⟩
def ZhX:He.DefD:=⟨("five_of",none),"five_of","five_of",defArgs Zb6,defBody Zb6,defScope Zb6,[],[]⟩
def ZfX:He.DefD:=⟨("five_rows",none),"five_rows","five_rows",defArgs Zbu,defBody Zbu,defScope Zbu,[],[]⟩
def ZcR:He.DefD:=⟨("Pieces",some "__init__"),"__init__","Pieces.__init__",defArgs ZF,defBody ZF,defScope ZF,[],[]⟩
def ZfV:He.DefD:=⟨("number_of",none),"number_of","number_of",defArgs Zbk,defBody Zbk,defScope Zbk,[],[]⟩
def ZjA:He.DefD:=⟨("row_of",none),"row_of","row_of",defArgs Zcj,defBody Zcj,defScope Zcj,[],[]⟩
def Zew:He.DefD:=⟨("read_pieces",none),"read_pieces","read_pieces",defArgs ZX,defBody ZX,defScope ZX,[],[]⟩
def ZeA:He.DefD:=⟨("Pieces",some "told"),"told","Pieces.told",defArgs Z9,defBody Z9,defScope Z9,[],[]⟩
def ZhV:He.DefD:=⟨("line_of",none),"line_of","line_of",defArgs ZbS,defBody ZbS,defScope ZbS,[],[]⟩
def Zev:He.DefD:=⟨("show_pieces",none),"show_pieces","show_pieces",defArgs ZW,defBody ZW,defScope ZW,[],[]⟩
def Zez:He.DefD:=⟨("_law_answer",none),"_law_answer","_law_answer",defArgs Z8,defBody Z8,defScope Z8,[],[]⟩
def Zfe:He.DefD:=⟨("_law_whole",none),"_law_whole","_law_whole",defArgs Zbg,defBody Zbg,defScope Zbg,[],[]⟩
def Zdf:He.DefD:=⟨("_law_row_fault",none),"_law_row_fault","_law_row_fault",defArgs ZC,defBody ZC,defScope ZC,[],[]⟩
def Zfh:He.DefD:=⟨("_law_fault",none),"_law_fault","_law_fault",defArgs Zbi,defBody Zbi,defScope Zbi,[],[]⟩
def Zey:He.DefD:=⟨("_law_number",none),"_law_number","_law_number",defArgs ZY,defBody ZY,defScope ZY,[],[]⟩
def Zgv:He.DefD:=⟨("_law_row",none),"_law_row","_law_row",defArgs ZbF,defBody ZbF,defScope ZbF,[],[]⟩
def Zgw:He.DefD:=⟨("_law_due",none),"_law_due","_law_due",defArgs Zbr,defBody Zbr,defScope Zbr,[],[]⟩
def Zf0:He.DefD:=⟨("_law_line",none),"_law_line","_law_line",defArgs Zbl,defBody Zbl,defScope Zbl,[],[]⟩
def h_law:He.DefD:=⟨("law",none),"law","law",defArgs s_law,defBody s_law,defScope s_law,[],[]⟩
def Zch:He.DefD:=⟨("BadPieces",some "__init__"),"__init__","BadPieces.__init__",defArgs ZI,defBody ZI,defScope ZI,[],[]⟩
def ZcE:He.DefD:=⟨("BadText",some "__init__"),"__init__","BadText.__init__",defArgs ZQ,defBody ZQ,defScope ZQ,[],[]⟩
def fn_0:List He.DefD:=[Zgx,ZfY,Zfg,ZfZ,Zff,Zf1,Zex,Zgu]
def fn_1:List He.DefD:=[ZfW,Zd0,ZhW,ZfU,ZhX,ZfX,ZcR,ZfV]
def fn_2:List He.DefD:=[ZjA,Zew,ZeA,ZhV,Zev,Zez,Zfe,Zdf]
def fn_3:List He.DefD:=[Zfh,Zey,Zgv,Zgw,Zf0,h_law,Zch,ZcE]
def fn:List He.DefD:=fn_0 ++ (fn_1 ++ (fn_2 ++ (fn_3)))
def chk_0:List Lk:=[lkFa (.glo "_law_box"),lkFa (.glo "_law_take"),lkFa (.glo "_law_names"),lkFa (.glo "_law_rows"),lkFa (.glo "_law_thing"),lkFa (.glo "_law_cell"),lkFa (.glo "_law_spoilt"),lkFa (.glo "is_whole"),lkFa (.glo "is_within"),lkFa (.glo "window_fault"),lkFa (.glo "is_name"),lkFa (.glo "row_fault"),lkFa (.glo "five_of"),lkFa (.glo "five_rows"),lkFa (.glo "number_of"),lkFa (.glo "row_of"),lkFa (.glo "read_pieces"),lkFa (.glo "line_of"),lkFa (.glo "show_pieces")]
def chk_1:List Lk:=[lkFa (.glo "_law_answer"),lkFa (.glo "_law_whole"),lkFa (.glo "_law_row_fault"),lkFa (.glo "_law_fault"),lkFa (.glo "_law_number"),lkFa (.glo "_law_row"),lkFa (.glo "_law_due"),lkFa (.glo "_law_line"),lkFa (.glo "law"),lkFa (.glo "BadPieces"),lkFa (.glo "BadText"),lkFa (.glo "Pieces"),lkFa (.glo "SlackError"),lkFa (.free "all"),lkFa (.free "bool"),lkFa (.free "enumerate"),lkFa (.free "int"),lkFa (.free "isinstance"),lkFa (.free "len")]
def chk_2:List Lk:=[lkFa (.free "list"),lkFa (.free "max"),lkFa (.free "min"),lkFa (.free "range"),lkFa (.free "str"),lkFa (.free "tuple"),lkFa (.str "FIGURES" "0123456789"),lkFa (.str "LETTERS" "abcdefghijklmnopqrstuvwxyz"),lkFa (.int "LONGEST_NAME" 8),lkFa (.int "MOST_FIGURES" 4),lkFa (.int "MOST_LENGTH" 12),lkFa (.int "MOST_PIECES" 30),lkFa (.int "MOST_TURN" 199),lkFa (.cls "Pieces"),lkFa (.noat "Pieces" "fives"),lkFa (.meth "Pieces" "told"),lkFa (.mkr "Pieces"),fun K=>oexB K (He.ga K "BadPieces"),fun K=>iniB K (He.ga K "BadPieces")]
def chk_3:List Lk:=[lkFa (.noat "BadPieces" "at"),lkFa (.noat "BadPieces" "why"),fun K=>oexB K (He.ga K "BadText"),fun K=>iniB K (He.ga K "BadText"),lkFa (.noat "BadText" "at"),lkFa (.noat "BadText" "why"),fun K=>xfB K (He.ga K "BadPieces"),fun K=>xfB K (He.ga K "BadText"),fun K=>decide (PySem.W.findIn K (.ref (He.ga K "BadPieces")) "at" = some none),fun K=>decide (PySem.W.findIn K (.ref (He.ga K "BadPieces")) "why" = some none),fun K=>decide (PySem.W.findIn K (.ref (He.ga K "BadText")) "at" = some none),fun K=>decide (PySem.W.findIn K (.ref (He.ga K "BadText")) "why" = some none),fun K=>decide (PySem.W.exmOne K (.ref (He.ga K "BadPieces")) (.ref (He.ga K "BadPieces")) = some true),fun K=>decide (PySem.W.exmOne K (.ref (He.ga K "BadPieces")) (.ref (He.ga K "BadText")) = some false),fun K=>decide (PySem.W.exmOne K (.ref (He.ga K "BadPieces")) (.ref (He.ga K "SlackError")) = some true),fun K=>decide (PySem.W.exmOne K (.ref (He.ga K "BadText")) (.ref (He.ga K "BadText")) = some true),fun K=>decide (PySem.W.exmOne K (.ref (He.ga K "BadText")) (.ref (He.ga K "SlackError")) = some true),fun K=>baseB K (He.ga K "SlackError")]
def chk:List Lk:=chk_0 ++ (chk_1 ++ (chk_2 ++ (chk_3)))
abbrev R : PySem.W.OpenRow := PySem.W.OpenLaw.row PySem.Challenge.rw_failslack_k08_whole_any_text
abbrev hk:PySem.W.Hook:=hookZ 4 chk fn
def ob (s:PySem.W.SharedT):He.AlD:=obsZG 4 chk fn (HandSHeadRun.getT s)
theorem ob_eq (s:PySem.W.SharedT):ob s = hk.obs s.abs:=Zm4 (HandSHeadRun.getT_eq s)
def loose:List Str:=([("_wall":Str),("SlackError":Str),("BadPieces":Str),("BadText":Str),("NoPiece":Str),("FIGURES":Str),("LETTERS":Str),("LONGEST_NAME":Str)]:List Str) ++ ([("MOST_FIGURES":Str),("is_whole":Str),("is_within":Str),("is_name":Str),("number_of":Str),("MOST_PIECES":Str),("MOST_TURN":Str),("MOST_LENGTH":Str)]:List Str) ++ ([("window_fault":Str),("row_fault":Str),("five_of":Str),("five_rows":Str),("Pieces":Str),("row_of":Str),("read_pieces":Str),("line_of":Str)]:List Str) ++ ([("show_pieces":Str),("_law_cell":Str),("_law_box":Str),("_law_take":Str),("_law_names":Str),("_law_rows":Str),("_law_thing":Str),("_law_whole":Str)]:List Str) ++ ([("_law_row_fault":Str),("_law_fault":Str),("_law_line":Str),("_law_number":Str),("_law_row":Str),("_law_due":Str),("_law_answer":Str),("_law_spoilt":Str)]:List Str)
theorem run_0 (w:World):ObsEq R 4 chk_0 fn_0 6000 w:=by
  intro os
  kernel_rfl
theorem run_1 (w:World):ObsEq R 4 chk_1 fn_1 6000 w:=by
  intro os
  kernel_rfl
theorem run_2 (w:World):ObsEq R 4 chk_2 fn_2 6000 w:=by
  intro os
  kernel_rfl
theorem run_3 (w:World):ObsEq R 4 chk_3 fn_3 6000 w:=by
  intro os
  kernel_rfl
theorem run_e (w:World):HandSHeadRun.RunEq R (PySem.W.view R.prog [45]) (hookZ 4 [] []) (fun s=>obsZG 4 [] [] (HandSHeadRun.getT s)) 6000 loose w:=by
  intro os
  kernel_rfl
theorem run (w:World):HandSHeadRun.RunEq R (PySem.W.view R.prog [45]) hk ob 6000 loose w:=Zn6 (run_e w) (ZgM (run_0 w) (ZgM (run_1 w) (ZgM (run_2 w) (run_3 w))))
end Lw
namespace Lw
open PySem PySem.Spec PyProof.Rows L2 Fs
/-- law_box -/
def Zef:DS:=(dsRet (dF mkLst (daCons (dN (f2 maxD) [.k (pC (.int 0)),.v (dN (f2 subD) [.k (pVar 0),.v (dN (f2 powD) [.k (pC (.int 10)),.k (pC (.int 18))])])]) (daCons (dN (f2 modD) [.k (pVar 0),.k (pC (.int 2147483647))]) (daCons (dP (pC (.int 0))) daNil)))))
def ZbO:List D → Out D:=runF 1 [false] Zef
/-- law_take -/
def ZcG:DS:=(dsSeq (dsIf (dtV (dN (f2 gtD) [.k (pOp ixD (pVar 0) (pC (.int 0))),.k (pC (.int 0))])) (dsSeq (dsAsg (dN (f2 modD) [.k (pOp ixD (pVar 0) (pC (.int 0))),.k (pVar 1)]) (tgN 2)) (dsSeq (Zby (plV 0) (dP (pC (.int 0))) true (dN (f2 divD) [.k (pOp ixD (pVar 0) (pC (.int 0))),.k (pVar 1)])) (dsRet (dMv 2)))) dsNext) (dsSeq (Zby (plV 0) (dP (pC (.int 2))) true (dN (f2 addA) [.k (pOp ixD (pVar 0) (pC (.int 2))),.k (pC (.int 1))])) (dsSeq (dsAsg (dN (f2 modD) [.v (dN (f2 addA) [.v (dN (f2 addA) [.v (dN (f2 mulA) [.k (pOp ixD (pVar 0) (pC (.int 1))),.k (pC (.int 48271))]),.v (dN (f2 mulA) [.k (pC (.int 7919)),.k (pOp ixD (pVar 0) (pC (.int 2)))])]),.k (pC (.int 11))]),.k (pC (.int 2147483629))]) (tgN 3)) (dsSeq (dsAsg (dN (f2 modD) [.v (dN (f2 mulA) [.v (dN (f2 modD) [.v (dN (f2 mulA) [.k (pVar 3),.k (pVar 3)]),.k (pC (.int 2147483587))]),.k (pC (.int 69621))]),.k (pC (.int 2147483647))]) (tgN 3)) (dsRet (dN (f2 modD) [.v (dN (f2 divD) [.v (dN (f2 modD) [.v (dN (f2 mulA) [.k (pVar 3),.k (pVar 3)]),.k (pC (.int 2147483629))]),.k (pC (.int 8))]),.k (pVar 1)]))))))
def Za:List D → Out D:=runF 4 [true,false] ZcG
/-- law_names -/
def ZeC:DS:=(dsSeq (dsAsg (dP (pC (.str "abcdefghijklmnopqrstuvwxyz"))) (tgN 2)) (dsSeq (dsAsg (dF mkLst (daCons (dP (pC (.str "a"))) (daCons (dP (pC (.str "ask"))) (daCons (dP (pC (.str "b"))) (daCons (dP (pC (.str "work"))) (daCons (dP (pC (.str "a1"))) (daCons (dP (pC (.str "rest"))) (daCons (dP (pC (.str "ab"))) (daCons (dP (pC (.str "failed"))) (daCons (dP (pC (.str "abc"))) (daCons (dP (pC (.str "done"))) (daCons (dP (pC (.str "ba"))) (daCons (dP (pC (.str "off"))) (daCons (dP (pC (.str "aa"))) (daCons (dP (pC (.str "left"))) daNil))))))))))))))) (tgN 3)) (dsSeq (dsIf (dtAnd (dtV (dN (f2 ltD) [.k (pVar 1),.k (pC (.int 15))])) (dtV (dNI (f2 eqD) [.v (Zd Za [.o 0,.v (dP (pC (.int 4)))]),.v (dP (pC (.int 0)))]))) (dsSeq (dsAsg (Zd Za [.o 0,.v (dP (pC (.int 14)))]) (tgN 4)) (dsRet (dComp true [5] (diD itR (dP (pVar 1))) (tgN 5) dtYes (dN (f2 ixK) [.k (pVar 3),.v (dN (f2 modD) [.v (dN (f2 addA) [.k (pVar 4),.v (dN (f2 mulA) [.k (pC (.int 3)),.k (pVar 5)])]),.k (pC (.int 14))])])))) dsNext) (dsSeq (dsAsg (dNI (f1 (joinD "")) [.v (dComp false [5] (diD itR (Zd Za [.o 0,.v (dP (pC (.int 5)))])) (tgN 5) dtYes (dNI (f2 ixK) [.l 2,.v (Zd Za [.o 0,.v (dP (pC (.int 26)))])]))]) (tgN 6)) (dsSeq (dsAsg (Zd Za [.o 0,.v (dN (f2 addA) [.v (dN (f1 lenD) [.k (pVar 6)]),.k (pC (.int 1))])]) (tgN 4)) (dsSeq (dsAsg (Zd Za [.o 0,.v (dP (pC (.int 26)))]) (tgN 7)) (dsSeq (dsAsg (dF mkLst daNil) (tgN 8)) (dsSeq (dsFor (diD itR (dP (pVar 1))) (tgN 5) (dsSeq (dsAsg (dN (f2 addA) [.v (dN (f2 ixK) [.k (pVar 2),.v (dN (f2 modD) [.v (dN (f2 addA) [.k (pVar 7),.v (dN (f2 mulA) [.k (pC (.int 7)),.k (pVar 5)])]),.k (pC (.int 26))])]),.v (dN (f2 ixK) [.v (dF mkLst (daCons (dP (pC (.str ""))) (daCons (dP (pC (.str "0"))) daNil))),.v (dN (f2 divD) [.k (pVar 5),.k (pC (.int 26))])])]) (tgN 9)) (dsDrop (dApp 8 (dN (f2 addA) [.v (dN (f2 addA) [.v (dN (f2 addA) [.v (dN slD [.k (pVar 6),.k (pC .non),.k (pUn intP (pVar 4))]),.k (pVar 9)]),.v (dN slD [.k (pVar 6),.k (pUn intP (pVar 4)),.k (pC .non)])]),.v (dN slD [.k (pC (.str "z9")),.k (pC .non),.v (d1 intP (dN (f2 modD) [.k (pVar 5),.k (pC (.int 3))]))])]))))) (dsRet (dMv 8))))))))))
def ZZ:List D → Out D:=runF 10 [true,false] ZeC
/-- law_rows -/
def Zfi:DS:=(dsSeq (dsAsg (dNI (f2 ixK) [.v (dF mkLst (daCons (dP (pC (.int 8))) (daCons (dP (pC (.int 20))) (daCons (dP (pC (.int 40))) (daCons (dP (pC (.int 200))) daNil))))),.v (Zd Za [.o 0,.v (dP (pC (.int 4)))])]) (tgN 2)) (dsSeq (dsAsg (dNI (f2 ixK) [.v (dF mkLst (daCons (dP (pC (.int 2))) (daCons (dP (pC (.int 4))) (daCons (dP (pC (.int 12))) daNil)))),.v (Zd Za [.o 0,.v (dP (pC (.int 3)))])]) (tgN 3)) (dsSeq (dsAsg (dF mkLst daNil) (tgN 4)) (dsSeq (dsFor (diD (itA true) (Zd ZZ [.o 0,.v (dNI (f2 maxD) [.v (Zd Za [.o 0,.v (dN (f2 addA) [.k (pVar 1),.k (pC (.int 1))])]),.v (Zd Za [.o 0,.v (dN (f2 addA) [.k (pVar 1),.k (pC (.int 1))])])])])) (tgN 5) (dsSeq (dsAsg (Zd Za [.o 0,.l 2]) (tgN 6)) (dsSeq (dsAsg (dNI (f2 minD) [.v (dP (pC (.int 199))),.v (dNI (f2 addA) [.l 6,.v (dNI (f2 ixK) [.v (dF mkLst (daCons (Zd Za [.o 0,.v (dP (pC (.int 12)))]) (daCons (Zd Za [.o 0,.l 2]) (daCons (dP (pC (.int 199))) daNil)))),.v (Zd Za [.o 0,.v (dP (pC (.int 3)))])])])]) (tgN 7)) (dsSeq (dsIf (dtV (dNI (f2 eqD) [.v (Zd Za [.o 0,.v (dP (pC (.int 10)))]),.v (dP (pC (.int 0)))])) (dsAsg (dN (f2 addA) [.k (pVar 7),.k (pC (.int 1))]) (tgN 6)) dsNext) (dsSeq (dsAsg (dNI (f2 addA) [.v (dP (pC (.int 1))),.v (Zd Za [.o 0,.l 3])]) (tgN 8)) (dsSeq (dsAsg (dNI (f2 ixK) [.v (dF mkLst (daCons (dP (pVar 8)) (daCons (dP (pVar 8)) (daCons (Zd Za [.o 0,.v (dN (f2 addA) [.k (pVar 8),.k (pC (.int 1))])]) (daCons (dP (pC (.int 0))) daNil))))),.v (Zd Za [.o 0,.v (dP (pC (.int 4)))])]) (tgN 9)) (dsDrop (dApp 4 (dF mkTup (daCons (dP (pVar 5)) (daCons (dP (pVar 6)) (daCons (dP (pVar 7)) (daCons (dP (pVar 8)) (daCons (dP (pVar 9)) daNil)))))))))))))) (dsRet (dMv 4))))))
def Zbj:List D → Out D:=runF 10 [true,false] Zfi
/-- is_whole -/
def ZU:DS:=(dsRet (dAnd (dN (f1 (isiD "int")) [.k (pVar 0)]) (d1S notD (dN (f1 (isiD "bool")) [.k (pVar 0)]))))
def ZJ:List D → Out D:=runF 1 [false] ZU
/-- is_within -/
def Z2:DS:=(dsRet (dAnd (dCall ZJ (daLend (pVar 0) daNil)) (dCh leD leD (dP (pVar 1)) (dP (pVar 0)) (dP (pVar 2)))))
def Zl:List D → Out D:=runF 3 [false,false,false] Z2
/-- window_fault -/
def Zo:DS:=(dsSeq (dsIf (dtNot (dtV (dCall Zl (daLend (pOp ixD (pVar 0) (pC (.int 1))) (daLend (pC (.int 0)) (daCons (dN (f2 addA) [.k (pC (.int 199)),.k (pC (.int 1))]) daNil)))))) (dsRet (dP (pC (.str "first")))) dsNext) (dsSeq (dsIf (dtNot (dtV (dCall Zl (daLend (pOp ixD (pVar 0) (pC (.int 2))) (daCons (dN (f2 maxD) [.k (pC (.int 0)),.v (dN (f2 subD) [.k (pOp ixD (pVar 0) (pC (.int 1))),.k (pC (.int 1))])]) (daLend (pC (.int 199)) daNil)))))) (dsRet (dP (pC (.str "last")))) dsNext) (dsSeq (dsIf (dtNot (dtV (dCall Zl (daLend (pOp ixD (pVar 0) (pC (.int 3))) (daLend (pC (.int 1)) (daLend (pC (.int 12)) daNil)))))) (dsRet (dP (pC (.str "length")))) dsNext) (dsSeq (dsIf (dtAnd (dtV (dN (f2 eqD) [.v (dN (f1 lenD) [.k (pVar 0)]),.k (pC (.int 5))])) (dtNot (dtV (dCall Zl (daLend (pOp ixD (pVar 0) (pC (.int 4))) (daLend (pC (.int 0)) (daLend (pOp ixD (pVar 0) (pC (.int 3))) daNil))))))) (dsRet (dP (pC (.str "left")))) dsNext) (dsRet (dP (pC .non)))))))
def Zt:List D → Out D:=runF 1 [false] Zo
/-- is_name -/
def ZB:DS:=(dsSeq (dsIf (dtOr (dtNot (dtV (dN (f1 (isiD "str")) [.k (pVar 0)]))) (dtOr (dtNot (dtV (dCh leD leD (dP (pC (.int 1))) (dN (f1 lenD) [.k (pVar 0)]) (dP (pC (.int 8)))))) (dtV (dN (f2 notinD) [.k (pOp ixD (pVar 0) (pC (.int 0))),.k (pC (.str "abcdefghijklmnopqrstuvwxyz"))])))) (dsRet (dP (pC (.bl false)))) dsNext) (dsRet (dN (f1 allD) [.v (dComp true [1] (diP (itA true) (pVar 0)) (tgN 1) dtYes (dN (f2 inD) [.k (pVar 1),.v (dN (f2 addA) [.k (pC (.str "abcdefghijklmnopqrstuvwxyz")),.k (pC (.str "0123456789"))])]))])))
def Zx:List D → Out D:=runF 2 [false] ZB
/-- row_fault -/
def Zk:DS:=(dsSeq (dsIf (dtOr (dtNot (dtV (dN (f1 (isiD "tuple")) [.k (pVar 1)]))) (dtNot (dtV (dCh leD leD (dP (pC (.int 4))) (dN (f1 lenD) [.k (pVar 1)]) (dP (pC (.int 5))))))) (dsRet (dP (pC (.str "form")))) dsNext) (dsSeq (dsIf (dtNot (dtV (dCall Zx (daLend (pOp ixD (pVar 1) (pC (.int 0))) daNil)))) (dsRet (dP (pC (.str "name")))) dsNext) (dsSeq (dsIf (dtV (dN (f2 inD) [.k (pOp ixD (pVar 1) (pC (.int 0))),.k (pVar 0)])) (dsRet (dP (pC (.str "double")))) dsNext) (dsRet (dCall Zt (daLend (pVar 1) daNil))))))
def Zs:List D → Out D:=runF 2 [false,false] Zk
/-- five_of -/
def Zbq:DS:=(dsSeq (dsIf (dtV (dN (f2 eqD) [.v (dN (f1 lenD) [.k (pVar 0)]),.k (pC (.int 4))])) (dsRet (dN (f2 addA) [.k (pVar 0),.v (dF mkTup (daCons (dP (pOp ixD (pVar 0) (pC (.int 3)))) daNil))])) dsNext) (dsRet (dMv 0)))
def ZD:List D → Out D:=runF 1 [false] Zbq
/-- five_rows -/
def Zy:DS:=(dsSeq (dsIf (dtNot (dtV (dN (f1 (isiTD ["list","tuple"])) [.k (pVar 0)]))) (Zbz 1 2 (daCons (dP (pC .non)) (daCons (dP (pC (.str "form"))) daNil))) dsNext) (dsSeq (dsIf (dtV (dN (f2 gtD) [.v (dN (f1 lenD) [.k (pVar 0)]),.k (pC (.int 30))])) (Zbz 1 2 (daCons (dP (pC (.int 30))) (daCons (dP (pC (.str "many"))) daNil))) dsNext) (dsSeq (dsAsg dDict0 (tgN 1)) (dsSeq (dsFor (diP (itEn false) (pVar 0)) (tgT [tgN 2,tgN 3]) (dsSeq (dsAsg (dCall Zs (daLend (pVar 1) (daLend (pVar 3) daNil))) (tgN 4)) (dsSeq (dsIf (dtV (dN (f1 notND) [.k (pVar 4)])) (Zbz 1 2 (daCons (dP (pVar 2)) (daCons (dP (pVar 4)) daNil))) dsNext) (Zby (plV 1) (dP (pOp ixD (pVar 3) (pC (.int 0)))) true (dCall ZD (daLend (pVar 3) daNil)))))) (dsRet (dMv 1))))))
def ZA:List D → Out D:=runF 5 [false] Zy
/-- Pieces.__init -/
def ZG:DS:=(dsFldS (plV 0) 20 "fives" (dCall ZA (daLend (pVar 1) daNil)))
def Ze:List D → Out D:=runF 2 [true,false] ZG
/-- law_cell -/
def Zca:DS:=(dsSeq (dsIf (dtV (dN (f2 ltD) [.k (pVar 1),.v (dN (f1 lenD) [.k (pVar 0)])])) (dsRet (dP (pOp ixD (pVar 0) (pVar 1)))) dsNext) (dsSeq (dsIf (dtV (dN (f2 eqD) [.v (dN (f1 lenD) [.k (pVar 0)]),.k (pC (.int 0))])) (dsRet (dN (f2 addA) [.v (dN (f2 mulA) [.k (pC (.int 48271)),.k (pVar 1)]),.k (pC (.int 7))])) dsNext) (dsRet (dN (f2 addA) [.v (dN (f2 divD) [.v (dN (f2 ixK) [.k (pVar 0),.v (dN (f2 modD) [.k (pVar 1),.v (dN (f1 lenD) [.k (pVar 0)])])]),.v (dN (f2 addA) [.k (pVar 1),.k (pC (.int 1))])]),.v (dN (f2 mulA) [.k (pC (.int 7919)),.k (pVar 1)])]))))
def ZbE:List D → Out D:=runF 2 [false,false] Zca
/-- is_stretch -/
def ZbW:DS:=(dsSeq (dsIf (dtOr (dtNot (dtV (dN (f1 (isiD "tuple")) [.k (pVar 0)]))) (dtOr (dtV (dN (f2 neD) [.v (dN (f1 lenD) [.k (pVar 0)]),.k (pC (.int 2))])) (dtNot (dtV (dCall Zl (daLend (pOp ixD (pVar 0) (pC (.int 0))) (daLend (pC (.int 0)) (daCons (dN (f2 addA) [.k (pC (.int 199)),.k (pC (.int 1))]) daNil)))))))) (dsRet (dP (pC (.bl false)))) dsNext) (dsRet (dCall Zl (daLend (pOp ixD (pVar 0) (pC (.int 1))) (daCons (dN (f2 subD) [.k (pOp ixD (pVar 0) (pC (.int 0))),.k (pC (.int 1))]) (daLend (pC (.int 199)) daNil))))))
def ZbX:List D → Out D:=runF 1 [false] ZbW
/-- need_stretch -/
def ZbR:DS:=(dsIf (dtNot (dtV (dCall ZbX (daLend (pVar 0) daNil)))) (Zbz 5 1 (daCons (dP (pVar 0)) daNil)) dsNext)
def ZS:List D → Out D:=runF 1 [false] ZbR
/-- need_failings -/
def ZbJ:DS:=(dsIf (dtNot (dtV (dCall Zl (daLend (pVar 0) (daLend (pC (.int 0)) (daLend (pC (.int 300)) daNil)))))) (Zbz 6 1 (daCons (dP (pVar 0)) daNil)) dsNext)
def Zbc:List D → Out D:=runF 1 [false] ZbJ
/-- Pieces.told -/
def ZbI:DS:=(dsRet (dN (f1 valsTD) [.k (pUn (fldD 20 "fives") (pVar 0))]))
def Zb:List D → Out D:=runF 1 [false] ZbI
/-- rows_within -/
def ZbU:DS:=(dsSeq (dsDrop (dCall ZS (daLend (pVar 1) daNil))) (dsRet (dComp true [2] (diD (itA true) (dCall Zb (daLend (pRc 20 "told" (pVar 0)) daNil))) (tgN 2) (dtAnd (dtV (dN (f2 geD) [.k (pOp ixD (pVar 2) (pC (.int 1))),.k (pOp ixD (pVar 1) (pC (.int 0)))])) (dtV (dN (f2 leD) [.k (pOp ixD (pVar 2) (pC (.int 2))),.k (pOp ixD (pVar 1) (pC (.int 1)))]))) (dP (pVar 2)))))
def Zu:List D → Out D:=runF 3 [false,false] ZbU
/-- lefts -/
def ZcS:DS:=(dsRet (dN (f1 sumD) [.v (dComp true [2] (diD (itA true) (dCall Zu (daLend (pVar 0) (daLend (pVar 1) daNil)))) (tgN 2) dtYes (dP (pOp ixD (pVar 2) (pC (.int 4)))))]))
def Zc0:List D → Out D:=runF 3 [false,false] ZcS
/-- greatest_length -/
def ZbA:DS:=(dsRet (dN (f2 maxDfD) [.v (dComp true [2] (diD (itA true) (dCall Zu (daLend (pVar 0) (daLend (pVar 1) daNil)))) (tgN 2) dtYes (dP (pOp ixD (pVar 2) (pC (.int 3))))),.k (pC (.int 0))]))
def ZbD:List D → Out D:=runF 3 [false,false] ZbA
/-- need -/
def Zdi:DS:=(dsSeq (dsDrop (dCall ZS (daLend (pVar 1) daNil))) (dsSeq (dsDrop (dCall Zbc (daLend (pVar 2) daNil))) (dsRet (dN (f2 addA) [.v (dCall Zc0 (daLend (pVar 0) (daLend (pVar 1) daNil))),.v (dN (f2 mulA) [.k (pVar 2),.v (dCall ZbD (daLend (pVar 0) (daLend (pVar 1) daNil)))])]))))
def Zcg:List D → Out D:=runF 3 [false,false,false] Zdi
/-- Pieces.has -/
def Zee:DS:=(dsRet (dAnd (dN (f1 (isiD "str")) [.k (pVar 1)]) (dN (f2 inD) [.k (pVar 1),.k (pUn (fldD 20 "fives") (pVar 0))])))
def Zen:List D → Out D:=runF 2 [false,false] Zee
/-- Pieces.row -/
def Zed:DS:=(dsSeq (dsIf (dtNot (dtV (dCall Zen (daLend (pRc 20 "has" (pVar 0)) (daLend (pVar 1) daNil))))) (Zbz 3 1 (daCons (dP (pVar 1)) daNil)) dsNext) (dsRet (dP (pOp ixD (pUn (fldD 20 "fives") (pVar 0)) (pVar 1)))))
def Zem:List D → Out D:=runF 2 [false,false] Zed
/-- law_whole -/
def ZeB:DS:=(dsRet (dAnd (dN (f1 (isiD "int")) [.k (pVar 0)]) (dAnd (d1S notD (dN (f1 (isiD "bool")) [.k (pVar 0)])) (dN (f2 eqD) [.k (pVar 0),.k (pVar 1)]))))
def Zg9:List D → Out D:=runF 2 [false,false] ZeB
/-- room -/
def Zdh:DS:=(dsSeq (dsDrop (dCall ZS (daLend (pVar 0) daNil))) (dsRet (dN (f2 addA) [.v (dN (f2 subD) [.k (pOp ixD (pVar 0) (pC (.int 1))),.k (pOp ixD (pVar 0) (pC (.int 0)))]),.k (pC (.int 1))])))
def Zdw:List D → Out D:=runF 1 [false] Zdh
end Lw
namespace Lw
open PySem PySem.Spec PyProof.Rows L2 Fs
/-- stretches -/
def Zb8:DS:=(dsSeq (dsAsg (dN (f1 Zb4) [.v (dComp true [2] (diD (itA true) (dCall Zb (daLend (pRc 20 "told" (pVar 0)) daNil))) (tgN 2) dtYes (dP (pOp ixD (pVar 2) (pC (.int 1)))))]) (tgN 1)) (dsSeq (dsAsg (dN (f1 Zb4) [.v (dComp true [2] (diD (itA true) (dCall Zb (daLend (pRc 20 "told" (pVar 0)) daNil))) (tgN 2) dtYes (dP (pOp ixD (pVar 2) (pC (.int 2)))))]) (tgN 3)) (dsSeq (dsAsg (dF mkLst daNil) (tgN 4)) (dsSeq (dsForE 1 (itA true) (tgN 5) (dsForE 3 (itA true) (tgN 6) (dsIf (dtAnd (dtV (dN (f2 geD) [.k (pVar 6),.v (dN (f2 subD) [.k (pVar 5),.k (pC (.int 1))])])) (dtV (dN (f2 neD) [.v (dCall Zu (daLend (pVar 0) (daCons (dF mkTup (daCons (dP (pVar 5)) (daCons (dP (pVar 6)) daNil))) daNil))),.v (dF mkLst daNil)]))) (dsDrop (dApp 4 (dF mkTup (daCons (dP (pVar 5)) (daCons (dP (pVar 6)) daNil))))) dsNext))) (dsRet (dMv 4))))))
def ZbC:List D → Out D:=runF 7 [false] Zb8
end Lw
namespace Lw
open PySem PySem.Spec PyProof.Rows L2 Fs
/-- table -/
def Zdg:DS:=(dsSeq (dsDrop (dCall Zbc (daLend (pVar 1) daNil))) (dsSeq (dsAsg (dF mkLst daNil) (tgN 2)) (dsSeq (dsFor (diD (itA true) (dCall ZbC (daLend (pVar 0) daNil))) (tgT [tgN 3,tgN 4]) (dsDrop (dApp 2 (dF mkTup (daCons (dP (pVar 3)) (daCons (dP (pVar 4)) (daCons (dCall Zcg (daLend (pVar 0) (daCons (dF mkTup (daCons (dP (pVar 3)) (daCons (dP (pVar 4)) daNil))) (daLend (pVar 1) daNil)))) (daCons (dCall Zdw (daCons (dF mkTup (daCons (dP (pVar 3)) (daCons (dP (pVar 4)) daNil))) daNil)) daNil)))))))) (dsRet (dMv 2)))))
def Zdv:List D → Out D:=runF 5 [false,false] Zdg
end Lw
namespace Lw
open PySem PySem.Spec PyProof.Rows L2 Fs
/-- Pieces.names -/
def Zb9:DS:=(dsRet (dN (f1 listD) [.k (pUn (fldD 20 "fives") (pVar 0))]))
def ZdQ:List D → Out D:=runF 1 [false] Zb9
/-- law_whole -/
def Z5:DS:=(dsRet (dAnd (dN (f1 (isiD "int")) [.k (pVar 0)]) (d1S notD (dN (f1 (isiD "bool")) [.k (pVar 0)]))))
def Zq:List D → Out D:=runF 1 [false] Z5
end Lw
namespace Lw
open PySem PySem.Spec PyProof.Rows L2 Fs
/-- Pieces.without -/
def Zc5:DS:=(dsSeq (dsAsg (dCall Zem (daLend (pRc 20 "row" (pVar 0)) (daLend (pVar 1) daNil))) (tgN 2)) (dsRet (dCall (mkF 20 Ze) (daCons (dComp true [3] (diD (itA true) (dCall Zb (daLend (pRc 20 "told" (pVar 0)) daNil))) (tgN 3) (dtV (dN (f2 neD) [.k (pVar 3),.k (pVar 2)])) (dP (pVar 3))) daNil))))
def Zde:List D → Out D:=runF 4 [false,false] Zc5
end Lw
namespace Lw
open PySem PySem.Spec PyProof.Rows L2 Fs
/-- law_thing -/
def ZbG:DS:=(dsSeq (dsAsg (dF mkLst (daCons (dP (pC .non)) (daCons (dP (pC (.bl true))) (daCons (dP (pC (.bl false))) (daCons (dP (pC (.int 0))) (daCons (dP (pC (.int 1))) (daCons (dN (f2 subD) [.k (pC (.int 0)),.k (pC (.int 1))]) (daCons (dP (pC (.int 200))) (daCons (dP (pC (.int 201))) (daCons (dN (f2 powD) [.k (pC (.int 10)),.k (pC (.int 29))]) (daCons (dN (f2 subD) [.k (pC (.int 0)),.v (dN (f2 powD) [.k (pC (.int 10)),.k (pC (.int 29))])]) (daCons (dP (pC (.str ""))) (daCons (dP (pC (.str "a"))) (daCons (dP (pC (.str "0"))) (daCons (dP (pC (.str "7"))) (daCons (dP (pC (.str "07"))) (daCons (dP (pC (.str "9999"))) (daCons (dP (pC (.str "10000"))) daNil)))))))))))))))))) (tgN 1)) (dsSeq (dsAsg (dN (f2 addA) [.k (pVar 1),.v (dF mkLst (daCons (dP (pC (.str "a1"))) (daCons (dP (pC (.str "1a"))) (daCons (dP (pC (.str "A"))) (daCons (dP (pC (.str "abcdefgh"))) (daCons (dP (pC (.str "abcdefghi"))) (daCons (dP (pC (.str "a "))) (daCons (dP (pC (.str " 1"))) (daCons (dP (pC (.str "+1"))) (daCons (dP (pC (.str "-1"))) (daCons (dP (pC (.str "a-b"))) (daCons (dP (pC (.str "1.5"))) (daCons (dP (pC (.str "a\n"))) (daCons (dP (pC (.str "z9z9z9z9"))) daNil))))))))))))))]) (tgN 1)) (dsSeq (dsAsg (dN (f2 addA) [.k (pVar 1),.v (dF mkLst (daCons (dF mkLst daNil) (daCons (dF mkTup daNil) (daCons dDict0 (daCons (dF mkLst (daCons (dP (pC (.int 1))) daNil)) (daCons (dF mkTup (daCons (dP (pC (.int 1))) daNil)) (daCons (dF mkTup (daCons (dP (pC (.str "a"))) (daCons (dP (pC (.int 0))) (daCons (dP (pC (.int 5))) (daCons (dP (pC (.int 2))) daNil))))) (daCons (dDisp [((pC (.str "a")),(dP (pC (.int 1))))]) (daCons (dF mkLst (daCons (dF mkLst (daCons (dP (pC (.str "a"))) (daCons (dP (pC (.int 0))) (daCons (dP (pC (.int 5))) (daCons (dP (pC (.int 2))) daNil))))) daNil)) (daCons (dP (pC (.str "\n"))) (daCons (dP (pC (.str "mow 3 40 5"))) daNil)))))))))))]) (tgN 1)) (dsRet (dNI (f2 ixK) [.l 1,.v (Zd Za [.o 0,.v (dP (pC (.int 40)))])])))))
def Zba:List D → Out D:=runF 2 [true] ZbG
end Lw
namespace Lw
open PySem PySem.Spec PyProof.Rows L2 Fs
end Lw
namespace Lw
open PySem PySem.Spec PyProof.Rows L2 Fs
/-- is_table -/
def ZbM:DS:=(dsSeq (dsAsg (dCall Zdv (daLend (pVar 0) (daLend (pVar 1) daNil))) (tgN 3)) (dsSeq (dsIf (dtNot (dtV (dN (f1 (isiD "list")) [.k (pVar 2)]))) (dsRet (dP (pC (.bl false)))) dsNext) (dsSeq (dsFor (diP (itA false) (pVar 2)) (tgN 4) (dsIf (dtOr (dtNot (dtV (dN (f1 (isiD "tuple")) [.k (pVar 4)]))) (dtNot (dtV (dN (f1 allD) [.v (dComp true [5] (diP (itA true) (pVar 4)) (tgN 5) dtYes (dCall ZJ (daLend (pVar 5) daNil)))])))) (dsRet (dP (pC (.bl false)))) dsNext)) (dsRet (dN (f2 eqD) [.k (pVar 2),.k (pVar 3)])))))
def Zbo:List D → Out D:=runF 6 [false,false,false] ZbM
/-- law_is -/
def ZdT:DS:=(dsSeq (dsIf (dtOr (dtNot (dtV (dN (f1 (isiD "list")) [.k (pVar 0)]))) (dtV (dN (f2 neD) [.v (dN (f1 lenD) [.k (pVar 0)]),.v (dN (f1 lenD) [.k (pVar 1)])]))) (dsRet (dP (pC (.bl false)))) dsNext) (dsSeq (dsFor (diPZ (itZ false) (pVar 0) (pVar 1)) (tgT [tgN 2,tgN 3]) (dsSeq (dsIf (dtOr (dtNot (dtV (dN (f1 (isiD "tuple")) [.k (pVar 2)]))) (dtOr (dtV (dN (f2 neD) [.v (dN (f1 lenD) [.k (pVar 2)]),.k (pC (.int 4))])) (dtNot (dtV (dN (f1 allD) [.v (dComp true [4] (diP (itA true) (pVar 2)) (tgN 4) dtYes (dCall Zq (daLend (pVar 4) daNil)))]))))) (dsRet (dP (pC (.bl false)))) dsNext) (dsIf (dtV (dN (f2 neD) [.k (pVar 2),.k (pVar 3)])) (dsRet (dP (pC (.bl false)))) dsNext))) (dsRet (dP (pC (.bl true))))))
def Zfb:List D → Out D:=runF 5 [false,false] ZdT
end Lw
namespace Lw
open PySem PySem.Spec PyProof.Rows L2 Fs
/-- law_names -/
def Zf6:DS:=(dsSeq (dsAsg (dP (pC (.str "abcdefghijklmnopqrstuvwxyz"))) (tgN 2)) (dsSeq (dsAsg (dF mkLst (daCons (dP (pC (.str "a"))) (daCons (dP (pC (.str "ask"))) (daCons (dP (pC (.str "b"))) (daCons (dP (pC (.str "work"))) (daCons (dP (pC (.str "a1"))) (daCons (dP (pC (.str "rest"))) (daCons (dP (pC (.str "ab"))) (daCons (dP (pC (.str "failed"))) (daCons (dP (pC (.str "abc"))) (daCons (dP (pC (.str "done"))) (daCons (dP (pC (.str "ba"))) (daCons (dP (pC (.str "off"))) (daCons (dP (pC (.str "aa"))) (daCons (dP (pC (.str "left"))) daNil))))))))))))))) (tgN 3)) (dsSeq (dsIf (dtAnd (dtV (dN (f2 ltD) [.k (pVar 1),.k (pC (.int 15))])) (dtV (dNI (f2 eqD) [.v (Zd Za [.o 0,.v (dP (pC (.int 4)))]),.v (dP (pC (.int 0)))]))) (dsSeq (dsAsg (Zd Za [.o 0,.v (dP (pC (.int 14)))]) (tgN 4)) (dsRet (dComp true [5] (diD itR (dP (pVar 1))) (tgN 5) dtYes (dN (f2 ixK) [.k (pVar 3),.v (dN (f2 modD) [.v (dN (f2 addA) [.k (pVar 4),.v (dN (f2 mulA) [.k (pC (.int 3)),.k (pVar 5)])]),.k (pC (.int 14))])])))) dsNext) (dsSeq (dsAsg (dN (f2 addA) [.k (pVar 2),.k (pC (.str "0123456789"))]) (tgN 6)) (dsSeq (dsAsg (dNI (f1 (joinD "")) [.v (dComp false [5] (diD itR (Zd Za [.o 0,.v (dP (pC (.int 5)))])) (tgN 5) dtYes (dNI (f2 ixK) [.l 6,.v (Zd Za [.o 0,.v (dN (f2 ixK) [.v (dF mkLst (daCons (dP (pC (.int 26))) (daCons (dP (pC (.int 36))) daNil))),.v (dN (f1 intD) [.v (dN (f2 gtD) [.k (pVar 5),.k (pC (.int 0))])])])])]))]) (tgN 7)) (dsSeq (dsAsg (Zd Za [.o 0,.v (dN (f2 addA) [.v (dN (f1 lenD) [.k (pVar 7)]),.k (pC (.int 1))])]) (tgN 4)) (dsSeq (dsAsg (Zd Za [.o 0,.v (dP (pC (.int 26)))]) (tgN 8)) (dsSeq (dsAsg (dF mkLst daNil) (tgN 9)) (dsSeq (dsFor (diD itR (dP (pVar 1))) (tgN 5) (dsSeq (dsAsg (dN (f2 addA) [.v (dN (f2 ixK) [.k (pVar 2),.v (dN (f2 modD) [.v (dN (f2 addA) [.k (pVar 8),.v (dN (f2 mulA) [.k (pC (.int 7)),.k (pVar 5)])]),.k (pC (.int 26))])]),.v (dN (f2 ixK) [.v (dF mkLst (daCons (dP (pC (.str ""))) (daCons (dP (pC (.str "0"))) daNil))),.v (dN (f2 divD) [.k (pVar 5),.k (pC (.int 26))])])]) (tgN 10)) (dsDrop (dApp 9 (dN (f2 addA) [.v (dN (f2 addA) [.v (dN (f2 addA) [.v (dN slD [.k (pVar 7),.k (pC .non),.k (pUn intP (pVar 4))]),.k (pVar 10)]),.v (dN slD [.k (pVar 7),.k (pUn intP (pVar 4)),.k (pC .non)])]),.v (dN slD [.k (pC (.str "z9")),.k (pC .non),.v (d1 intP (dN (f2 modD) [.k (pVar 5),.k (pC (.int 3))]))])]))))) (dsRet (dMv 9)))))))))))
def Zgb:List D → Out D:=runF 11 [true,false] Zf6
/-- law_rows -/
def Zgi:DS:=(dsSeq (dsAsg (dNI (f2 ixK) [.v (dF mkLst (daCons (dP (pC (.int 8))) (daCons (dP (pC (.int 20))) (daCons (dP (pC (.int 40))) (daCons (dP (pC (.int 200))) daNil))))),.v (Zd Za [.o 0,.v (dP (pC (.int 4)))])]) (tgN 2)) (dsSeq (dsAsg (dNI (f2 ixK) [.v (dF mkLst (daCons (dP (pC (.int 2))) (daCons (dP (pC (.int 4))) (daCons (dP (pC (.int 12))) daNil)))),.v (Zd Za [.o 0,.v (dP (pC (.int 3)))])]) (tgN 3)) (dsSeq (dsAsg (dF mkLst daNil) (tgN 4)) (dsSeq (dsFor (diD (itA true) (Zd Zgb [.o 0,.v (dNI (f2 maxD) [.v (Zd Za [.o 0,.v (dN (f2 addA) [.k (pVar 1),.k (pC (.int 1))])]),.v (Zd Za [.o 0,.v (dN (f2 addA) [.k (pVar 1),.k (pC (.int 1))])])])])) (tgN 5) (dsSeq (dsAsg (Zd Za [.o 0,.l 2]) (tgN 6)) (dsSeq (dsAsg (dNI (f2 minD) [.v (dP (pC (.int 199))),.v (dNI (f2 addA) [.l 6,.v (dNI (f2 ixK) [.v (dF mkLst (daCons (Zd Za [.o 0,.v (dP (pC (.int 12)))]) (daCons (Zd Za [.o 0,.l 2]) (daCons (dP (pC (.int 199))) daNil)))),.v (Zd Za [.o 0,.v (dP (pC (.int 3)))])])])]) (tgN 7)) (dsSeq (dsIf (dtV (dNI (f2 eqD) [.v (Zd Za [.o 0,.v (dP (pC (.int 10)))]),.v (dP (pC (.int 0)))])) (dsAsg (dN (f2 addA) [.k (pVar 7),.k (pC (.int 1))]) (tgN 6)) dsNext) (dsSeq (dsAsg (dNI (f2 addA) [.v (dP (pC (.int 1))),.v (Zd Za [.o 0,.l 3])]) (tgN 8)) (dsSeq (dsAsg (dNI (f2 ixK) [.v (dF mkLst (daCons (dP (pVar 8)) (daCons (dP (pVar 8)) (daCons (Zd Za [.o 0,.v (dN (f2 addA) [.k (pVar 8),.k (pC (.int 1))])]) (daCons (dP (pC (.int 0))) daNil))))),.v (Zd Za [.o 0,.v (dP (pC (.int 4)))])]) (tgN 9)) (dsDrop (dApp 4 (dF mkTup (daCons (dP (pVar 5)) (daCons (dP (pVar 6)) (daCons (dP (pVar 7)) (daCons (dP (pVar 8)) (daCons (dP (pVar 9)) daNil)))))))))))))) (dsRet (dMv 4))))))
def Zgm:List D → Out D:=runF 10 [true,false] Zgi
/-- law_spoilt -/
def Zd1:DS:=(dsSeq (dsAsg (dN (f1 listD) [.k (pVar 1)]) (tgN 2)) (dsSeq (dsAsg (Zd Zba [.o 0]) (tgN 3)) (dsSeq (dsAsg (Zd Za [.o 0,.v (dP (pC (.int 12)))]) (tgN 4)) (dsSeq (dsIf (dtOr (dtV (dN (f2 eqD) [.k (pVar 4),.k (pC (.int 0))])) (dtV (dN (f2 eqE) [.k (pVar 2),.v (dF mkLst daNil)]))) (dsRet (dNI (f2 ixK) [.v (dF mkLst (daCons (dP (pVar 3)) (daCons (dN (f2 addA) [.k (pVar 2),.v (dF mkLst (daCons (dP (pVar 3)) daNil))]) (daCons (dN (f2 addA) [.v (dF mkLst (daCons (dP (pVar 3)) daNil)),.k (pVar 2)]) (daCons (dDisp [((pC (.str "a")),(dP (pC (.int 1))))]) daNil))))),.v (Zd Za [.o 0,.v (dP (pC (.int 4)))])])) dsNext) (dsSeq (dsAsg (Zd Za [.o 0,.v (dN (f1 lenD) [.k (pVar 2)])]) (tgN 5)) (dsSeq (dsAsg (dP (pOp ixD (pVar 2) (pVar 5))) (tgN 6)) (dsSeq (dsIf (dtOr (dtNot (dtV (dN (f1 (isiD "tuple")) [.k (pVar 6)]))) (dtV (dN (f2 eqE) [.k (pVar 6),.v (dF mkTup daNil)]))) (dsRet (dMv 2)) dsNext) (dsSeq (dsAsg (Zd Za [.o 0,.v (dN (f1 lenD) [.k (pVar 6)])]) (tgN 7)) (dsSeq (dsIf (dtV (dN (f2 ltD) [.k (pVar 4),.k (pC (.int 5))])) (Zby (plV 2) (dP (pVar 5)) true (dN (f2 addA) [.v (dN (f2 addA) [.v (dN slD [.k (pVar 6),.k (pC .non),.k (pUn intP (pVar 7))]),.v (dF mkTup (daCons (dP (pVar 3)) daNil))]),.v (dN slD [.k (pVar 6),.v (d1 intP (dN (f2 addA) [.k (pVar 7),.k (pC (.int 1))])),.k (pC .non)])])) (dsIf (dtV (dN (f2 ltD) [.k (pVar 4),.k (pC (.int 8))])) (dsSeq (dsAsg (dNI (f2 ixK) [.v (dF mkLst (daCons (dN (f2 subD) [.k (pC (.int 0)),.k (pC (.int 1))]) (daCons (dP (pC (.int 0))) (daCons (dP (pC (.int 1))) (daCons (dP (pC (.int 12))) (daCons (dP (pC (.int 13))) (daCons (dP (pC (.int 199))) (daCons (dP (pC (.int 200))) (daCons (dP (pC (.int 201))) (daCons (dN (f2 powD) [.k (pC (.int 10)),.k (pC (.int 20))]) daNil)))))))))),.v (Zd Za [.o 0,.v (dP (pC (.int 9)))])]) (tgN 8)) (Zby (plV 2) (dP (pVar 5)) true (dN (f2 addA) [.v (dN (f2 addA) [.v (dN slD [.k (pVar 6),.k (pC .non),.k (pUn intP (pVar 7))]),.v (dF mkTup (daCons (dP (pVar 8)) daNil))]),.v (dN slD [.k (pVar 6),.v (d1 intP (dN (f2 addA) [.k (pVar 7),.k (pC (.int 1))])),.k (pC .non)])]))) (dsIf (dtV (dN (f2 eqD) [.k (pVar 4),.k (pC (.int 8))])) (Zby (plV 2) (dP (pVar 5)) true (dNI (f2 ixK) [.v (dF mkLst (daCons (dN slD [.k (pVar 6),.k (pC .non),.k (pUn intP (pC (.int 3)))]) (daCons (dN (f2 addA) [.k (pVar 6),.v (dF mkTup (daCons (dP (pC (.int 0))) daNil))]) (daCons (dN (f1 listD) [.k (pVar 6)]) (daCons (dN revX [.k (pVar 6),.v (dN (f1 negD) [.k (pC (.int 1))])]) daNil))))),.v (Zd Za [.o 0,.v (dP (pC (.int 4)))])])) (dsIf (dtV (dN (f2 eqD) [.k (pVar 4),.k (pC (.int 9))])) (dsDrop (dApp 2 (dP (pOp ixD (pVar 2) (pVar 5))))) (dsIf (dtV (dN (f2 eqD) [.k (pVar 4),.k (pC (.int 10))])) (dsSeq (dsAsg (dNI (f2 ixK) [.l 2,.v (Zd Za [.o 0,.v (dN (f1 lenD) [.k (pVar 2)])])]) (tgN 9)) (dsIf (dtAnd (dtV (dN (f1 (isiD "tuple")) [.k (pVar 9)])) (dtV (dN (f2 neE) [.k (pVar 9),.v (dF mkTup daNil)]))) (Zby (plV 2) (dP (pVar 5)) true (dN (f2 addA) [.v (dN slD [.k (pVar 9),.k (pC .non),.k (pUn intP (pC (.int 1)))]),.v (dN slD [.k (pVar 6),.k (pUn intP (pC (.int 1))),.k (pC .non)])])) dsNext)) (dsAsg (dNI slD [.v (dN (f2 mulA) [.k (pVar 2),.k (pC (.int 31))]),.v (dP (pC .non)),.v (d1 intP (dNI (f2 ixK) [.v (dF mkLst (daCons (dP (pC (.int 29))) (daCons (dP (pC (.int 30))) (daCons (dP (pC (.int 31))) daNil)))),.v (Zd Za [.o 0,.v (dP (pC (.int 3)))])]))]) (tgN 2))))))) (dsRet (dMv 2)))))))))))
def Zgl:List D → Out D:=runF 10 [true,false] Zd1
/-- law_row_fault -/
def Zi:DS:=(dsSeq (dsIf (dtOr (dtNot (dtV (dN (f1 (isiD "tuple")) [.k (pVar 1)]))) (dtV (dN (f2 notinD) [.v (dN (f1 lenD) [.k (pVar 1)]),.v (dF mkTup (daCons (dP (pC (.int 4))) (daCons (dP (pC (.int 5))) daNil)))]))) (dsRet (dP (pC (.str "form")))) dsNext) (dsSeq (dsAsg (dP (pC (.str "abcdefghijklmnopqrstuvwxyz"))) (tgN 2)) (dsSeq (dsIf (dtOr (dtNot (dtV (dN (f1 (isiD "str")) [.k (pOp ixD (pVar 1) (pC (.int 0)))]))) (dtOr (dtNot (dtV (dCh leD leD (dP (pC (.int 1))) (dN (f1 lenD) [.k (pOp ixD (pVar 1) (pC (.int 0)))]) (dP (pC (.int 8)))))) (dtV (dN (f2 notinD) [.k (pOp ixD (pOp ixD (pVar 1) (pC (.int 0))) (pC (.int 0))),.k (pVar 2)])))) (dsRet (dP (pC (.str "name")))) dsNext) (dsSeq (dsIf (dtV (dN (f2 neD) [.v (dComp true [3] (diP (itA true) (pOp ixD (pVar 1) (pC (.int 0)))) (tgN 3) (dtV (dN (f2 notinD) [.k (pVar 3),.v (dN (f2 addA) [.k (pVar 2),.k (pC (.str "0123456789"))])])) (dP (pVar 3))),.v (dF mkLst daNil)])) (dsRet (dP (pC (.str "name")))) dsNext) (dsSeq (dsIf (dtV (dN (f2 inD) [.k (pOp ixD (pVar 1) (pC (.int 0))),.k (pVar 0)])) (dsRet (dP (pC (.str "double")))) dsNext) (dsSeq (dsIf (dtOr (dtNot (dtV (dCall Zq (daLend (pOp ixD (pVar 1) (pC (.int 1))) daNil)))) (dtNot (dtV (dCh leD leD (dP (pC (.int 0))) (dP (pOp ixD (pVar 1) (pC (.int 1)))) (dP (pC (.int 200))))))) (dsRet (dP (pC (.str "first")))) dsNext) (dsSeq (dsIf (dtOr (dtNot (dtV (dCall Zq (daLend (pOp ixD (pVar 1) (pC (.int 2))) daNil)))) (dtNot (dtV (dCh leD leD (dN (f2 maxD) [.k (pC (.int 0)),.v (dN (f2 subD) [.k (pOp ixD (pVar 1) (pC (.int 1))),.k (pC (.int 1))])]) (dP (pOp ixD (pVar 1) (pC (.int 2)))) (dP (pC (.int 199))))))) (dsRet (dP (pC (.str "last")))) dsNext) (dsSeq (dsIf (dtOr (dtNot (dtV (dCall Zq (daLend (pOp ixD (pVar 1) (pC (.int 3))) daNil)))) (dtNot (dtV (dCh leD leD (dP (pC (.int 1))) (dP (pOp ixD (pVar 1) (pC (.int 3)))) (dP (pC (.int 12))))))) (dsRet (dP (pC (.str "length")))) dsNext) (dsSeq (dsIf (dtAnd (dtV (dN (f2 eqD) [.v (dN (f1 lenD) [.k (pVar 1)]),.k (pC (.int 5))])) (dtOr (dtNot (dtV (dCall Zq (daLend (pOp ixD (pVar 1) (pC (.int 4))) daNil)))) (dtNot (dtV (dCh leD leD (dP (pC (.int 0))) (dP (pOp ixD (pVar 1) (pC (.int 4)))) (dP (pOp ixD (pVar 1) (pC (.int 3))))))))) (dsRet (dP (pC (.str "left")))) dsNext) (dsRet (dP (pC (.str "")))))))))))))
def Zr:List D → Out D:=runF 4 [false,false] Zi
/-- law_fault -/
def Zbn:DS:=(dsSeq (dsIf (dtNot (dtV (dN (f1 (isiTD ["list","tuple"])) [.k (pVar 0)]))) (dsRet (dF mkTup (daCons (dP (pC .non)) (daCons (dP (pC (.str "form"))) daNil)))) dsNext) (dsSeq (dsIf (dtV (dN (f2 gtD) [.v (dN (f1 lenD) [.k (pVar 0)]),.k (pC (.int 30))])) (dsRet (dF mkTup (daCons (dP (pC (.int 30))) (daCons (dP (pC (.str "many"))) daNil)))) dsNext) (dsSeq (dsAsg (dF mkLst daNil) (tgN 1)) (dsSeq (dsFor (diP (itEn false) (pVar 0)) (tgT [tgN 2,tgN 3]) (dsSeq (dsAsg (dCall Zr (daLend (pVar 1) (daLend (pVar 3) daNil))) (tgN 4)) (dsSeq (dsIf (dtV (dN (f2 neD) [.k (pVar 4),.k (pC (.str ""))])) (dsRet (dF mkTup (daCons (dP (pVar 2)) (daCons (dP (pVar 4)) daNil)))) dsNext) (dsDrop (dApp 1 (dP (pOp ixD (pVar 3) (pC (.int 0))))))))) (dsRet (dP (pC .non)))))))
def ZN:List D → Out D:=runF 5 [false] Zbn
end Lw
namespace Lw
open PySem PySem.Spec PyProof.Rows L2 Fs
end Lw
namespace Lw
open PySem PySem.Spec PyProof.Rows L2 Fs
end Lw
namespace Lw
open PySem PySem.Spec PyProof.Rows L2 Fs
end Lw
namespace Lw
open PySem PySem.Spec PyProof.Rows L2 Fs
end Lw
namespace Lw
open PySem PySem.Spec PyProof.Rows L2 Fs
end Lw
namespace Lw
open PySem PySem.Spec PyProof.Rows L2 Fs
end Lw
namespace Lw
open PySem PySem.Spec PyProof.Rows L2 Fs
/-- number_of -/
def Zb0:DS:=(dsSeq (dsIf (dtOr (dtNot (dtV (dN (f1 (isiD "str")) [.k (pVar 0)]))) (dtNot (dtV (dCh leD leD (dP (pC (.int 1))) (dN (f1 lenD) [.k (pVar 0)]) (dP (pC (.int 4))))))) (dsRet (dP (pC .non))) dsNext) (dsSeq (dsIf (dtOr (dtNot (dtV (dN (f1 allD) [.v (dComp true [1] (diP (itA true) (pVar 0)) (tgN 1) dtYes (dN (f2 inD) [.k (pVar 1),.k (pC (.str "0123456789"))]))]))) (dtAnd (dtV (dN (f2 eqD) [.k (pOp ixD (pVar 0) (pC (.int 0))),.k (pC (.str "0"))])) (dtV (dN (f2 neD) [.k (pVar 0),.k (pC (.str "0"))])))) (dsRet (dP (pC .non))) dsNext) (dsRet (dN (f1 intD) [.k (pVar 0)]))))
def Zv:List D → Out D:=runF 2 [false] Zb0
/-- row_of -/
def ZcJ:DS:=(dsSeq (dsAsg (dN splitD [.k (pUn (tyF "str") (pVar 0)),.k (pC (.str " "))]) (tgN 1)) (dsSeq (dsIf (dtOr (dtNot (dtV (dCh leD leD (dP (pC (.int 4))) (dN (f1 lenD) [.k (pVar 1)]) (dP (pC (.int 5)))))) (dtNot (dtV (dCall Zx (daLend (pOp ixD (pVar 1) (pC (.int 0))) daNil))))) (dsRet (dP (pC .non))) dsNext) (dsSeq (dsAsg (dComp true [3] (diD (itA true) (dN slD [.k (pVar 1),.k (pUn intP (pC (.int 1))),.k (pC .non)])) (tgN 3) dtYes (dCall Zv (daLend (pVar 3) daNil))) (tgN 2)) (dsSeq (dsIf (dtV (dN (f2 inD) [.k (pC .non),.k (pVar 2)])) (dsRet (dP (pC .non))) dsNext) (dsRet (dN (f1 tupD) [.v (dN (f2 addA) [.v (dN slD [.k (pVar 1),.k (pC .non),.k (pUn intP (pC (.int 1)))]),.k (pVar 2)])]))))))
def ZM:List D → Out D:=runF 4 [false] ZcJ
/-- read_pieces -/
def ZL:DS:=(dsSeq (dsIf (dtNot (dtV (dN (f1 (isiD "str")) [.k (pVar 0)]))) (Zbz 2 2 (daCons (dP (pC (.int 0))) (daCons (dP (pC (.str "form"))) daNil))) dsNext) (dsSeq (dsAsg (dF mkLst daNil) (tgN 1)) (dsSeq (dsIf (dtV (dN (f2 neD) [.k (pVar 0),.k (pC (.str ""))])) (dsAsg (dComp true [2] (diD (itA true) (dN splitD [.k (pUn (tyF "str") (pVar 0)),.k (pC (.str "\n"))])) (tgN 2) dtYes (dCall ZM (daLend (pVar 2) daNil))) (tgN 1)) dsNext) (dsSeq (dsIf (dtV (dN (f2 inD) [.k (pC .non),.k (pVar 1)])) (Zbz 2 2 (daCons (dN indexX [.k (pUn (tyF "list") (pVar 1)),.k (pC .non)]) (daCons (dP (pC (.str "form"))) daNil))) dsNext) (dsSeq (dsAsg (dP (pC .non)) (tgN 3)) (dsSeq (dsAsg (dP (pC (.int 0))) (tgN 4)) (dsSeq (dsAsg (dP (pC (.str ""))) (tgN 5)) (dsSeq (dsTry (fun c=>[1].contains c) (dsAsg (dCall (mkF 20 Ze) (daLend (pVar 1) daNil)) (tgN 3)) [⟨(fun c=>[1].contains c),some 6,fun xs=>(dsSeq (dsAsg (dP (fun _=>xs[0]?)) (tgN 4)) (dsAsg (dP (fun _=>xs[1]?)) (tgN 5)))⟩]) (dsSeq (dsIf (dtV (dN (f1 isND) [.k (pVar 3)])) (Zbz 2 2 (daCons (dP (pVar 4)) (daCons (dP (pVar 5)) daNil))) dsNext) (dsRet (dMv 3)))))))))))
def Zh:List D → Out D:=runF 7 [false] ZL
/-- law_line -/
def ZcH:DS:=(dsSeq (dsAsg (dP (pVar 0)) (tgN 2)) (dsSeq (dsIf (dtAnd (dtV (dP (pVar 1))) (dtV (dN (f2 eqD) [.k (pOp ixD (pVar 0) (pC (.int 3))),.k (pOp ixD (pVar 0) (pC (.int 4)))]))) (dsAsg (dN slD [.k (pVar 0),.k (pC .non),.k (pUn intP (pC (.int 4)))]) (tgN 2)) dsNext) (dsRet (dN (f1 (joinD " ")) [.v (dComp true [3] (diP (itA true) (pVar 2)) (tgN 3) dtYes (dN (f1 strD) [.k (pVar 3)]))]))))
def ZO:List D → Out D:=runF 4 [false,false] ZcH
/-- line_of -/
def Zcy:DS:=(dsSeq (dsAsg (dP (pVar 0)) (tgN 1)) (dsSeq (dsIf (dtV (dN (f2 eqD) [.k (pOp ixD (pVar 0) (pC (.int 4))),.k (pOp ixD (pVar 0) (pC (.int 3)))])) (dsAsg (dN slD [.k (pVar 0),.k (pC .non),.k (pUn intP (pC (.int 4)))]) (tgN 1)) dsNext) (dsRet (dN (f1 (joinD " ")) [.v (dComp true [2] (diP (itA true) (pVar 1)) (tgN 2) dtYes (dN (f1 strD) [.k (pVar 2)]))]))))
def ZbB:List D → Out D:=runF 3 [false] Zcy
/-- show_pieces -/
def ZbN:DS:=(dsRet (dN (f1 (joinD "\n")) [.v (dComp true [1] (diD (itA true) (dCall Zb (daLend (pRc 20 "told" (pVar 0)) daNil))) (tgN 1) dtYes (dCall ZbB (daLend (pVar 1) daNil)))]))
def Zm:List D → Out D:=runF 2 [false] ZbN
/-- law_right -/
def Zf5:DS:=(dsSeq (dsAsg (dComp false [3] (diP (itA false) (pVar 1)) (tgN 3) dtYes (Zd ZO [.l 3,.v (dNI (f2 eqD) [.v (Zd Za [.o 0,.v (dP (pC (.int 2)))]),.v (dP (pC (.int 0)))])])) (tgN 2)) (dsSeq (dsAsg (dCall Zh (daCons (dN (f1 (joinD "\n")) [.k (pVar 2)]) daNil)) (tgN 4)) (dsSeq (dsAsg (dN (f1 (joinD "\n")) [.v (dComp true [3] (diP (itA true) (pVar 1)) (tgN 3) dtYes (dCall ZO (daLend (pVar 3) (daLend (pC (.bl true)) daNil))))]) (tgN 5)) (dsSeq (dsIf (dtOr (dtNot (dtV (dN (f1 (isoD [(20,true)])) [.k (pVar 4)]))) (dtV (dN (f2 neD) [.v (dCall Zb (daLend (pRc 20 "told" (pVar 4)) daNil)),.v (dN (f1 tupD) [.k (pVar 1)])]))) (dsRet (dP (pC (.bl false)))) dsNext) (dsSeq (dsIf (dtOr (dtV (dN (f2 neD) [.v (dCall Zm (daLend (pVar 4) daNil)),.k (pVar 5)])) (dtV (dN (f2 neD) [.v (dCall Zm (daCons (dCall (mkF 20 Ze) (daLend (pVar 1) daNil)) daNil)),.k (pVar 5)]))) (dsRet (dP (pC (.bl false)))) dsNext) (dsSeq (dsFor (diD (itA true) (dCall Zb (daLend (pRc 20 "told" (pVar 4)) daNil))) (tgN 3) (dsIf (dtOr (dtNot (dtV (dN (f1 (isiD "tuple")) [.k (pVar 3)]))) (dtNot (dtV (dN (f1 (isiD "str")) [.k (pOp ixD (pVar 3) (pC (.int 0)))])))) (dsRet (dP (pC (.bl false)))) dsNext)) (dsRet (dN (f2 eqD) [.v (dCall Zb (daCons (dRc 20 "told" (dCall Zh (daLend (pVar 5) daNil))) daNil)),.v (dN (f1 tupD) [.k (pVar 1)])]))))))))
def Zga:List D → Out D:=runF 6 [true,false] Zf5
end Lw
namespace Lw
open PySem PySem.Spec PyProof.Rows L2 Fs
end Lw
namespace Lw
open PySem PySem.Spec PyProof.Rows L2 Fs
end Lw
namespace Lw
open PySem PySem.Spec PyProof.Rows L2 Fs
end Lw
namespace Lw
open PySem PySem.Spec PyProof.Rows L2 Fs
end Lw
set_option maxHeartbeats 1000000
namespace Fs
open PySem PySem.Spec PyProof.Rows L2
section
variable {cl:Ec} {xf:Nat → List Str} {X:Cx} {W:WX} {ws:Nat → Bool} {e a b:Expr} {pos:Pos}
def rMulS:R2:=fun x y H Q=>∃ z k,x = .str z ∧ y = .int k ∧ MulOk z k ∧ Q (.str (Txt.mul z k)) H
theorem Zol:OpR X (binaryOp .Mult) rMulS:=by
  intro pins s σ H x y v u Q I rx ry h
  obtain ⟨i,j,rfl,rfl,hz,q⟩:=h
  obtain ⟨t,rfl⟩:=rx
  obtain ⟨t',rfl⟩:=ry
  exact SB.mul hz (fun t' tk=>⟨.str _,H,I.tok _,⟨_,rfl⟩,q⟩)
def mulT (x y:D):Option D:=match x,y with
  | .v (.str z),.v (.int k)=>if 0 ≤ k ∧ k ≤ 1000 ∧ z.length ≤ 1000 then some (.v (.str (Txt.mul z k))) else none
  | _,_=>none
theorem na_mulT:NA cl (rL2 rMulS) (f2 mulT):=NA.two fun A L H x y u w fp gp z ad h1 h2 e=>by
  unfold mulT at e
  split at e
  · rename_i z k
    split at e
    · rename_i hc
      cases e
      obtain ⟨rfl,_,_⟩:=h1.leafv
      obtain ⟨rfl,_,_⟩:=h2.leafv
      exact .sc rfl fun Q q=>⟨z,k,rfl,rfl,mulOk_of 1000 1000 (by omega) (by omega) (by omega) (by decide) (by decide),q⟩
    · cases e
  · cases e
theorem o_mulS:B2 X (.BinOp a .Mult b pos) a b rMulS:=fun _ _ ha hb=>pe_op Zol ha hb
end
end Fs
namespace Lw
open PySem PySem.Spec PyProof.Rows L2 Fs
/-- law_spoilt -/
def Zcd:DS:=(dsSeq (dsAsg (dP (pC (.str " !\"#$&'()*+,-./0123456789:;<=>?@ABCDEFGHIJKLMNOPQRSTUVWXYZ[\\]^_`"))) (tgN 2)) (dsSeq (dsAsg (dN (f2 addA) [.k (pVar 2),.k (pC (.str "abcdefghijklmnopqrstuvwxyz{|}~\n"))]) (tgN 2)) (dsSeq (dsAsg (Zd Za [.o 0,.v (dP (pC (.int 7)))]) (tgN 3)) (dsSeq (dsAsg (Zd Za [.o 0,.v (dN (f2 addA) [.v (dN (f1 lenD) [.k (pVar 1)]),.k (pC (.int 1))])]) (tgN 4)) (dsSeq (dsAsg (dNI (f2 ixK) [.v (dF mkLst (daCons (dNI (f2 ixK) [.v (dP (pC (.str "abz019 \n-+.:A"))),.v (Zd Za [.o 0,.v (dP (pC (.int 13)))])]) (daCons (dNI (f2 ixK) [.l 2,.v (Zd Za [.o 0,.v (dP (pC (.int 95)))])]) daNil))),.v (Zd Za [.o 0,.v (dP (pC (.int 2)))])]) (tgN 5)) (dsSeq (dsIf (dtV (dN (f2 eqD) [.k (pVar 3),.k (pC (.int 0))])) (dsRet (dN (f2 addA) [.v (dN (f2 addA) [.v (dN slD [.k (pVar 1),.k (pC .non),.k (pUn intP (pVar 4))]),.k (pVar 5)]),.v (dN slD [.k (pVar 1),.k (pUn intP (pVar 4)),.k (pC .non)])])) dsNext) (dsSeq (dsIf (dtV (dN (f2 eqD) [.k (pVar 3),.k (pC (.int 1))])) (dsRet (dN (f2 addA) [.v (dN slD [.k (pVar 1),.k (pC .non),.k (pUn intP (pVar 4))]),.v (dN slD [.k (pVar 1),.v (d1 intP (dN (f2 addA) [.k (pVar 4),.k (pC (.int 1))])),.k (pC .non)])])) dsNext) (dsSeq (dsIf (dtV (dN (f2 eqD) [.k (pVar 3),.k (pC (.int 2))])) (dsRet (dN (f2 addA) [.v (dN (f2 addA) [.v (dN slD [.k (pVar 1),.k (pC .non),.k (pUn intP (pVar 4))]),.k (pVar 5)]),.v (dN slD [.k (pVar 1),.v (d1 intP (dN (f2 addA) [.k (pVar 4),.k (pC (.int 1))])),.k (pC .non)])])) dsNext) (dsSeq (dsAsg (dN splitD [.k (pUn (tyF "str") (pVar 1)),.k (pC (.str "\n"))]) (tgN 6)) (dsSeq (dsAsg (Zd Za [.o 0,.v (dN (f1 lenD) [.k (pVar 6)])]) (tgN 7)) (dsSeq (dsAsg (dN splitD [.k (pUn (tyF "str") (pOp ixD (pVar 6) (pVar 7))),.k (pC (.str " "))]) (tgN 8)) (dsSeq (dsAsg (Zd Za [.o 0,.v (dN (f1 lenD) [.k (pVar 8)])]) (tgN 9)) (dsSeq (dsIf (dtV (dN (f2 eqD) [.k (pVar 3),.k (pC (.int 3))])) (Zby (plV 6) (dP (pVar 7)) true (dN (f1 (joinD " ")) [.v (dN (f2 addA) [.v (dN slD [.k (pVar 8),.k (pC .non),.k (pUn intP (pVar 9))]),.v (dN slD [.k (pVar 8),.v (d1 intP (dN (f2 addA) [.k (pVar 9),.k (pC (.int 1))])),.k (pC .non)])])])) (dsIf (dtV (dN (f2 eqD) [.k (pVar 3),.k (pC (.int 4))])) (Zby (plV 6) (dP (pVar 7)) true (dN (f1 (joinD " ")) [.v (dN (f2 addA) [.v (dN slD [.k (pVar 8),.k (pC .non),.v (d1 intP (dN (f2 addA) [.k (pVar 9),.k (pC (.int 1))]))]),.v (dN slD [.k (pVar 8),.k (pUn intP (pVar 9)),.k (pC .non)])])])) (dsIf (dtV (dN (f2 eqD) [.k (pVar 3),.k (pC (.int 5))])) (dsSeq (dsAsg (dNI (f2 ixK) [.v (dF mkLst (daCons (dP (pC (.str "0"))) (daCons (dP (pC (.str "00"))) (daCons (dP (pC (.str "13"))) (daCons (dP (pC (.str "200"))) (daCons (dP (pC (.str "201"))) (daCons (dP (pC (.str "199"))) (daCons (dP (pC (.str "9999"))) (daCons (dP (pC (.str "10000"))) (daCons (dP (pC (.str "a"))) (daCons (dP (pC (.str "x1"))) daNil))))))))))),.v (Zd Za [.o 0,.v (dP (pC (.int 10)))])]) (tgN 10)) (Zby (plV 6) (dP (pVar 7)) true (dN (f1 (joinD " ")) [.v (dN (f2 addA) [.v (dN (f2 addA) [.v (dN slD [.k (pVar 8),.k (pC .non),.k (pUn intP (pVar 9))]),.v (dF mkLst (daCons (dP (pVar 10)) daNil))]),.v (dN slD [.k (pVar 8),.v (d1 intP (dN (f2 addA) [.k (pVar 9),.k (pC (.int 1))])),.k (pC .non)])])]))) (dsAsg (dNI (f2 addA) [.v (dNI (f2 addA) [.v (dN slD [.k (pVar 6),.k (pC .non),.k (pUn intP (pVar 7))]),.v (dNI slD [.v (dF mkLst (daCons (dP (pOp ixD (pVar 6) (pVar 7))) (daCons (dP (pC (.str ""))) daNil))),.v (d1 intP (Zd Za [.o 0,.v (dP (pC (.int 2)))])),.v (dP (pC .non))])]),.v (dN slD [.k (pVar 6),.k (pUn intP (pVar 7)),.k (pC .non)])]) (tgN 6))))) (dsRet (dN (f1 (joinD "\n")) [.k (pVar 6)])))))))))))))))
def Z6:List D → Out D:=runF 11 [true,false] Zcd
/-- law_answer -/
def Zce:DS:=(dsSeq (dsAsg (dP (pC .non)) (tgN 1)) (dsSeq (dsTry (fun c=>[1,2].contains c) (dsSeq (dsAsg (dCall Zh (daLend (pVar 0) daNil)) (tgN 2)) (dsSeq (dsAsg (dF mkTup (daCons (dP (pC (.str "rows"))) (daCons (dCall Zb (daLend (pRc 20 "told" (pVar 2)) daNil)) daNil))) (tgN 1)) (dsIf (dtV (dN (f2 neX) [.v (dCall Zb (daCons (dRc 20 "told" (dCall Zh (daCons (dCall Zm (daLend (pVar 2) daNil)) daNil))) daNil)),.v (dCall Zb (daLend (pRc 20 "told" (pVar 2)) daNil))])) (dsAsg (dP (pC (.str "odd"))) (tgN 1)) dsNext))) [⟨(fun c=>[2].contains c),some 3,fun xs=>(dsAsg (dF mkTup (dL (lCons (pC (.str "bad")) (lCons (fun _=>xs[0]?) (lCons (fun _=>xs[1]?) (fun _=>some [])))))) (tgN 1))⟩,⟨(fun c=>[1,2].contains c),none,fun xs=>(dsAsg (dP (pC (.str "other"))) (tgN 1))⟩]) (dsRet (dMv 1))))
def ZK:List D → Out D:=runF 4 [false] Zce
/-- law_number -/
def ZcK:DS:=(dsSeq (dsIf (dtOr (dtV (dN (f2 ltD) [.v (dN (f1 lenD) [.k (pVar 0)]),.k (pC (.int 1))])) (dtOr (dtV (dN (f2 gtD) [.v (dN (f1 lenD) [.k (pVar 0)]),.k (pC (.int 4))])) (dtV (dN (f2 neD) [.v (dComp true [1] (diP (itA true) (pVar 0)) (tgN 1) (dtV (dN (f2 notinD) [.k (pVar 1),.k (pC (.str "0123456789"))])) (dP (pVar 1))),.v (dF mkLst daNil)])))) (dsRet (dP (pC .non))) dsNext) (dsSeq (dsIf (dtAnd (dtV (dN (f2 eqD) [.k (pOp ixD (pVar 0) (pC (.int 0))),.k (pC (.str "0"))])) (dtV (dN (f2 neD) [.k (pVar 0),.k (pC (.str "0"))]))) (dsRet (dP (pC .non))) dsNext) (dsRet (dN (f1 intD) [.k (pVar 0)]))))
def Zbd:List D → Out D:=runF 2 [false] ZcK
/-- law_row -/
def Zc6:DS:=(dsSeq (dsAsg (dN splitD [.k (pUn (tyF "str") (pVar 0)),.k (pC (.str " "))]) (tgN 1)) (dsSeq (dsIf (dtOr (dtV (dN (f2 notinD) [.v (dN (f1 lenD) [.k (pVar 1)]),.v (dF mkTup (daCons (dP (pC (.int 4))) (daCons (dP (pC (.int 5))) daNil)))])) (dtV (dN (f2 neD) [.v (dCall Zr (daCons (dF mkLst daNil) (daCons (dF mkTup (daCons (dP (pOp ixD (pVar 1) (pC (.int 0)))) (daCons (dP (pC (.int 0))) (daCons (dP (pC (.int 1))) (daCons (dP (pC (.int 1))) daNil))))) daNil))),.k (pC (.str ""))]))) (dsRet (dP (pC .non))) dsNext) (dsSeq (dsAsg (dComp true [3] (diD (itA true) (dN slD [.k (pVar 1),.k (pUn intP (pC (.int 1))),.k (pC .non)])) (tgN 3) dtYes (dCall Zbd (daLend (pVar 3) daNil))) (tgN 2)) (dsSeq (dsIf (dtV (dN (f2 inD) [.k (pC .non),.k (pVar 2)])) (dsRet (dP (pC .non))) dsNext) (dsRet (dN (f1 tupD) [.v (dN (f2 addA) [.v (dN slD [.k (pVar 1),.k (pC .non),.k (pUn intP (pC (.int 1)))]),.k (pVar 2)])]))))))
def Zbp:List D → Out D:=runF 4 [false] Zc6
/-- law_due -/
def ZbV:DS:=(dsSeq (dsIf (dtNot (dtV (dN (f1 (isiD "str")) [.k (pVar 0)]))) (dsRet (dF mkTup (daCons (dP (pC (.str "bad"))) (daCons (dP (pC (.int 0))) (daCons (dP (pC (.str "form"))) daNil))))) dsNext) (dsSeq (dsAsg (dF mkLst daNil) (tgN 1)) (dsSeq (dsIf (dtV (dN (f2 neD) [.k (pVar 0),.k (pC (.str ""))])) (dsAsg (dComp true [2] (diD (itA true) (dN splitD [.k (pUn (tyF "str") (pVar 0)),.k (pC (.str "\n"))])) (tgN 2) dtYes (dCall Zbp (daLend (pVar 2) daNil))) (tgN 1)) dsNext) (dsSeq (dsIf (dtV (dN (f2 inD) [.k (pC .non),.k (pVar 1)])) (dsRet (dF mkTup (daCons (dP (pC (.str "bad"))) (daCons (dN indexX [.k (pUn (tyF "list") (pVar 1)),.k (pC .non)]) (daCons (dP (pC (.str "form"))) daNil))))) dsNext) (dsSeq (dsAsg (dCall ZN (daLend (pVar 1) daNil)) (tgN 3)) (dsSeq (dsIf (dtV (dN (f1 notND) [.k (pVar 3)])) (dsRet (dN (f2 addA) [.v (dF mkTup (daCons (dP (pC (.str "bad"))) daNil)),.k (pVar 3)])) dsNext) (dsRet (dF mkTup (daCons (dP (pC (.str "rows"))) (daCons (dN (f1 tupD) [.v (dComp true [4] (diP (itA true) (pVar 1)) (tgN 4) dtYes (dN slD [.v (dN (f2 addA) [.k (pVar 4),.v (dN slD [.k (pVar 4),.k (pUn intP (pC (.int 3))),.k (pUn intP (pC (.int 4)))])]),.k (pC .non),.k (pUn intP (pC (.int 5)))]))]) daNil))))))))))
def Zw:List D → Out D:=runF 5 [false] ZbV
/-- law -/
def Zf4:DS:=(dsSeq (dsFor (diD itR (dN (f2 maxD) [.k (pC (.int 8)),.v (dN (f2 minD) [.v (dN (f1 lenD) [.k (pVar 0)]),.k (pC (.int 40))])])) (tgN 1) (dsSeq (dsAsg (dCall ZbO (daCons (dCall ZbE (daLend (pVar 0) (daLend (pVar 1) daNil))) daNil)) (tgN 2)) (dsSeq (dsAsg (Zd Zbj [.o 2,.v (dP (pC (.int 6)))]) (tgN 3)) (dsSeq (dsIf (dtV (dNI (f2 eqM) [.v (Zd Za [.o 2,.v (dP (pC (.int 8)))]),.v (dP (pC (.int 0)))])) (dsAsg (dComp false [4] (diD (itA true) (Zd ZZ [.o 2,.v (dP (pC (.int 30)))])) (tgN 4) dtYes (dF mkTup (daCons (dP (pVar 4)) (daCons (dP (pVar 1)) (daCons (dN (f2 subD) [.k (pC (.int 199)),.k (pVar 1)]) (daCons (dN (f2 addA) [.k (pC (.int 1)),.v (dN (f2 modD) [.k (pVar 1),.k (pC (.int 12))])]) (daCons (dN (f2 modD) [.k (pVar 1),.k (pC (.int 2))]) daNil))))))) (tgN 3)) dsNext) (dsSeq (dsAsg (dNI (f1 (joinD "\n")) [.v (dComp false [6] (diD (itA true) (dFz 3)) (tgN 6) dtYes (Zd ZO [.l 6,.v (dNI (f2 eqM) [.v (Zd Za [.o 2,.v (dP (pC (.int 2)))]),.v (dP (pC (.int 0)))])]))]) (tgN 5)) (dsSeq (dsIf (dtV (dN (f2 eqM) [.v (dN (f1 lenD) [.k (pVar 3)]),.k (pC (.int 30))])) (dsAsg (dNI (f2 addA) [.l 5,.v (dNI (f2 ixK) [.v (dF mkLst (daCons (dP (pC (.str ""))) (daCons (dP (pC (.str "\nzz99 0 9 1"))) daNil))),.v (Zd Za [.o 2,.v (dP (pC (.int 2)))])])]) (tgN 5)) dsNext) (dsSeq (dsFor (diD itR (Zd Za [.o 2,.v (dP (pC (.int 4)))])) (tgN 7) (dsAsg (Zd Z6 [.o 2,.l 5]) (tgN 5))) (dsSeq (dsIf (dtV (dNI (f2 eqM) [.v (Zd Za [.o 2,.v (dP (pC (.int 8)))]),.v (dP (pC (.int 0)))])) (dsSeq (dsAsg (dNI (f2 ixK) [.v (dF mkLst (daCons (dP (pC (.str "\n"))) (daCons (dP (pC (.str " "))) (daCons (dP (pC (.str "\nab 0 9 1"))) (daCons (dP (pC (.str "9"))) daNil))))),.v (Zd Za [.o 2,.v (dP (pC (.int 4)))])]) (tgN 8)) (dsAsg (dN slD [.v (dN (f2 addA) [.k (pVar 5),.v (dN (f2 mulT) [.k (pVar 8),.k (pC (.int 1000))])]),.k (pC .non),.k (pUn intP (pC (.int 1000)))]) (tgN 5))) dsNext) (dsSeq (dsIf (dtV (dN (f2 neX) [.v (dCall ZK (daLend (pVar 5) daNil)),.v (dCall Zw (daLend (pVar 5) daNil))])) (dsRet (dP (pC (.bl false)))) dsNext) (dsSeq (dsAsg (Zd Zba [.o 2]) (tgN 9)) (dsIf (dtV (dN (f2 neX) [.v (dCall ZK (daLend (pVar 9) daNil)),.v (dCall Zw (daLend (pVar 9) daNil))])) (dsRet (dP (pC (.bl false)))) dsNext))))))))))) (dsRet (dP (pC (.bl true)))))
def Zc1:List D → Out D:=runF 10 [false] Zf4
end Lw
set_option maxHeartbeats 4000000
namespace Lw
open PySem PySem.Spec PyProof.Rows L2 Fs
def Zfa:List Str:=["_law_cell_here"]
def Zej:List Str:=["_law_box_here","_law_many","_law_digit","_law_number_here"]
def Zcb:List Str:=["_law_box_here","_law_many","_law_letters","_law_words","_law_at","_law_k","_law_base","_law_first","_law_names_here","_law_sign"]
def Zek:List Str:=["_law_box_here","_law_most","_law_turns","_law_long","_law_rows_here","_law_name","_law_first","_law_last","_law_length","_law_left"]
def ZdI:List Str:=["_law_box_here","_law_some"]
def Zel:List Str:=["_law_script","_law_k"]
def Zda:List Str:=["_law_box_here","_law_text","_law_signs","_law_way","_law_at","_law_sign","_law_lines","_law_line_here","_law_words","_law_word","_law_other"]
def Ze9:List Str:=["thing"]
def Zeh:List Str:=["thing","low","high"]
def ZcL:List Str:=["row"]
def ZeF:List Str:=["thing","sign"]
def Zeg:List Str:=["known","row"]
def Zf8:List Str:=["row"]
def Zei:List Str:=["rows","found","at","row","why"]
def Zb1:List Str:=["self","rows"]
def Zc9:List Str:=["thing","sign"]
def Zft:List Str:=["line","words","numbers","word"]
def Zcl:List Str:=["text","rows","line","found","at","why","e"]
def Zdd:List Str:=["self"]
def ZeE:List Str:=["row","told","thing"]
def Zck:List Str:=["pieces","row"]
def Zdc:List Str:=["_law_thing_here","_law_told","_law_pieces","e"]
def ZdH:List Str:=["_law_thing_here"]
def ZbK:List Str:=["_law_known","_law_row_here","_law_letters","_law_sign"]
def ZdJ:List Str:=["_law_thing_here","_law_known","_law_at","_law_row_here","_law_why"]
def Zcm:List Str:=["_law_word","_law_sign"]
def ZdU:List Str:=["_law_line_here","_law_words","_law_numbers","_law_word"]
def ZcT:List Str:=["_law_thing_here","_law_rows_here","_law_line_here","_law_fault_here","_law_row_here"]
def Zdb:List Str:=["_law_row_here","_law_brief","_law_told","_law_one"]
def N_law:List Str:=["_law_script","_law_k","_law_box_here","_law_rows_here","_law_name","_law_text","_law_row_here","_law_lap","_law_pad","_law_thing_here"]
structure Tx (cl:Ec) (mg:Str → Option Value):Prop where
  f_all:mg "all" = none
  f_bool:mg "bool" = none
  f_enumerate:mg "enumerate" = none
  f_int:mg "int" = none
  f_isinstance:mg "isinstance" = none
  f_len:mg "len" = none
  f_list:mg "list" = none
  f_max:mg "max" = none
  f_min:mg "min" = none
  f_range:mg "range" = none
  f_str:mg "str" = none
  f_tuple:mg "tuple" = none
  c_FIGURES:∃ u,mg "FIGURES" = some u ∧ RelV (.str "0123456789") u
  c_LETTERS:∃ u,mg "LETTERS" = some u ∧ RelV (.str "abcdefghijklmnopqrstuvwxyz") u
  c_LONGEST_NAME:∃ u,mg "LONGEST_NAME" = some u ∧ RelV (.int 8) u
  c_MOST_FIGURES:∃ u,mg "MOST_FIGURES" = some u ∧ RelV (.int 4) u
  c_MOST_LENGTH:∃ u,mg "MOST_LENGTH" = some u ∧ RelV (.int 12) u
  c_MOST_PIECES:∃ u,mg "MOST_PIECES" = some u ∧ RelV (.int 30) u
  c_MOST_TURN:∃ u,mg "MOST_TURN" = some u ∧ RelV (.int 199) u
  k_Pieces:Cls cl.K (cl.c 20)
  n_Pieces_fives:NoAttr cl.K (cl.c 20) "fives"
  g_BadPieces:mg "BadPieces" = some (.ref (cl.c 1))
  g_BadText:mg "BadText" = some (.ref (cl.c 2))
  g_SlackError:mg "SlackError" = some (.ref (cl.c 0))
  xf_BadPieces:XfC cl.K (cl.c 1)
  xf_BadText:XfC cl.K (cl.c 2)
  xn_BadPieces_at:PySem.W.findIn cl.K (.ref (cl.c 1)) "at" = some none
  xn_BadPieces_why:PySem.W.findIn cl.K (.ref (cl.c 1)) "why" = some none
  xn_BadText_at:PySem.W.findIn cl.K (.ref (cl.c 2)) "at" = some none
  xn_BadText_why:PySem.W.findIn cl.K (.ref (cl.c 2)) "why" = some none
  ex_BadPieces_BadPieces:PySem.W.exmOne cl.K (.ref (cl.c 1)) (.ref (cl.c 1)) = some true
  ex_BadPieces_BadText:PySem.W.exmOne cl.K (.ref (cl.c 1)) (.ref (cl.c 2)) = some false
  ex_BadPieces_SlackError:PySem.W.exmOne cl.K (.ref (cl.c 1)) (.ref (cl.c 0)) = some true
  ex_BadText_BadText:PySem.W.exmOne cl.K (.ref (cl.c 2)) (.ref (cl.c 2)) = some true
  ex_BadText_SlackError:PySem.W.exmOne cl.K (.ref (cl.c 2)) (.ref (cl.c 0)) = some true
section
variable {P:Program} {w:World} {K:PySem.W.Frag} {mg:Str → Option Value} {base:Heap} {f:Addr} {fd:FuncData} {cl:Ec} {xf:Nat → List Str}
theorem sc__law_box:FnScope Zfa ["_law_cell_here"] (defScope ZbQ):=⟨rfl,rfl,rfl,by decide +kernel,rfl,by decide +kernel,by decide +kernel⟩
theorem Ziq (hK:cl.K = K) (hX:xf = xfG) (T:Tx cl mg) (Fd:FunD K "_law_box" "_law_box" (defArgs ZbQ) (defBody ZbQ) (defScope ZbQ) [] [] f fd) :FnG P w K mg base (L2.CX P w) 1 f fd ["_law_cell_here"] (spF cl xf 1 ZbO):=by
  subst hK; subst hX
  refine fn_ok (N:=Zfa) (ws:=fun _=>false) (ds:=Zef) (io:=[false]) Fd sc__law_box rfl (by decide) (fun _ _=>rfl) fun cdv A outer s H E hr=>?_
  have tk:=takes_of (X:=cxOf (L2.CX P w) P w cl.K mg base Zfa "_law_box" (defScope ZbQ) f cdv A outer s H E) (E:=E) rfl rfl rfl rfl
  have hu:=huG hr; have hu2:=hu65 hr; have nd:=sc__law_box.nd
  exact (b_one (s_ret (d_lst (a_cons (d_n (b2n (o_max T.f_max)) g_max.n (n_k k_int (n_v (d_n (b2n o_sub) g_sub.n (n_k (k_var 0) (n_v (d_n (b2n o_pow) g_pow.n (n_k k_int (n_k k_int n_nil))) n_nil))) n_nil))) (a_cons (d_n (b2n o_mod) g_mod.n (n_k (k_var 0) (n_k k_int n_nil))) (a_cons (d_p k_int) a_nil))))))
theorem sc__law_take:FnScope Zej ["_law_box_here","_law_many"] (defScope Zbv):=⟨rfl,rfl,rfl,by decide +kernel,rfl,by decide +kernel,by decide +kernel⟩
theorem ZhA (hK:cl.K = K) (hX:xf = xfG) (T:Tx cl mg) (Fd:FunD K "_law_take" "_law_take" (defArgs Zbv) (defBody Zbv) (defScope Zbv) [] [] f fd) :FnG P w K mg base (L2.CX P w) 1 f fd ["_law_box_here","_law_many"] (spF cl xf 2 Za):=by
  subst hK; subst hX
  refine fn_ok (N:=Zej) (ws:=fun i=>[2,3].contains i) (ds:=ZcG) (io:=[true,false]) Fd sc__law_take rfl (by decide) (ioOk (by decide)) fun cdv A outer s H E hr=>?_
  have tk:=takes_of (X:=cxOf (L2.CX P w) P w cl.K mg base Zej "_law_take" (defScope Zbv) f cdv A outer s H E) (E:=E) rfl rfl rfl rfl
  have hu:=huG hr; have hu2:=hu65 hr; have nd:=sc__law_take.nd
  exact (b_cons (s_if (t_n (c_cmp op_gt (nomark _)) g_gt.n (n_k (k_op (o_ix (cl:=cl) rfl hu (fun _ _=>rfl)) pop_ix (k_var 0) k_int) (n_k k_int n_nil))) (b_cons (s_set 2 (d_n (b2n o_mod) g_mod.n (n_k (k_op (o_ix (cl:=cl) rfl hu (fun _ _=>rfl)) pop_ix (k_var 0) k_int) (n_k (k_var 1) n_nil))) nd) (b_cons (Ze0 hu (pl_var 0) (d_p k_int) (d_n (b2n o_div) g_div.n (n_k (k_op (o_ix (cl:=cl) rfl hu (fun _ _=>rfl)) pop_ix (k_var 0) k_int) (n_k (k_var 1) n_nil))) (hq:=fun _ _ h1 h2=>pg_sub h1 h2 (PSet.or' set_list (set_dict hu)))) (b_one (s_ret (d_mv 2))))) b_nil) (b_cons (Ze0 hu (pl_var 0) (d_p k_int) (d_n (b2n (o_addB (cl:=cl) rfl)) na_add.n (n_k (k_op (o_ix (cl:=cl) rfl hu (fun _ _=>rfl)) pop_ix (k_var 0) k_int) (n_k k_int n_nil))) (hq:=fun _ _ h1 h2=>pg_sub h1 h2 (PSet.or' set_list (set_dict hu)))) (b_cons (s_set 3 (d_n (b2n o_mod) g_mod.n (n_v (d_n (b2n (o_addB (cl:=cl) rfl)) na_add.n (n_v (d_n (b2n (o_addB (cl:=cl) rfl)) na_add.n (n_v (d_n (b2n o_mulA) na_mul.n (n_k (k_op (o_ix (cl:=cl) rfl hu (fun _ _=>rfl)) pop_ix (k_var 0) k_int) (n_k k_int n_nil))) (n_v (d_n (b2n o_mulA) na_mul.n (n_k k_int (n_k (k_op (o_ix (cl:=cl) rfl hu (fun _ _=>rfl)) pop_ix (k_var 0) k_int) n_nil))) n_nil))) (n_k k_int n_nil))) (n_k k_int n_nil))) nd) (b_cons (s_set 3 (d_n (b2n o_mod) g_mod.n (n_v (d_n (b2n o_mulA) na_mul.n (n_v (d_n (b2n o_mod) g_mod.n (n_v (d_n (b2n o_mulA) na_mul.n (n_k (k_var 3) (n_k (k_var 3) n_nil))) (n_k k_int n_nil))) (n_k k_int n_nil))) (n_k k_int n_nil))) nd) (b_one (s_ret (d_n (b2n o_mod) g_mod.n (n_v (d_n (b2n o_div) g_div.n (n_v (d_n (b2n o_mod) g_mod.n (n_v (d_n (b2n o_mulA) na_mul.n (n_k (k_var 3) (n_k (k_var 3) n_nil))) (n_k k_int n_nil))) (n_k k_int n_nil))) (n_k (k_var 1) n_nil)))))))))
theorem sc__law_names:FnScope Zcb ["_law_box_here","_law_many"] (defScope Z1):=⟨rfl,rfl,rfl,by decide +kernel,rfl,by decide +kernel,by decide +kernel⟩
theorem ZgK (hK:cl.K = K) (hX:xf = xfG) (T:Tx cl mg) (Fd:FunD K "_law_names" "_law_names" (defArgs Z1) (defBody Z1) (defScope Z1) [] [] f fd) (H__law_take:Fn cl xf P w K mg base "_law_take" 1 2 Za):FnG P w K mg base (L2.CX P w) 2 f fd ["_law_box_here","_law_many"] (spF cl xf 2 ZZ):=by
  subst hK; subst hX
  refine fn_ok (N:=Zcb) (ws:=fun i=>[2,3,4,5,6,7,8,9].contains i) (ds:=ZeC) (io:=[true,false]) Fd sc__law_names rfl (by decide) (ioOk (by decide)) fun cdv A outer s H E hr=>?_
  have tk:=takes_of (X:=cxOf (L2.CX P w) P w cl.K mg base Zcb "_law_names" (defScope Z1) f cdv A outer s H E) (E:=E) rfl rfl rfl rfl
  have hu:=huG hr; have hu2:=hu65 hr; have nd:=sc__law_names.nd
  exact (b_cons (s_set 2 (d_p k_str) nd) (b_cons (s_set 3 (d_lst (a_cons (d_p k_str) (a_cons (d_p k_str) (a_cons (d_p k_str) (a_cons (d_p k_str) (a_cons (d_p k_str) (a_cons (d_p k_str) (a_cons (d_p k_str) (a_cons (d_p k_str) (a_cons (d_p k_str) (a_cons (d_p k_str) (a_cons (d_p k_str) (a_cons (d_p k_str) (a_cons (d_p k_str) (a_cons (d_p k_str) a_nil))))))))))))))) nd) (b_cons (s_if (t_w (w_and (t_n (c_cmp op_lt (nomark _)) g_lt.n (n_k (k_var 1) (n_k k_int n_nil))) (w_and1 (t_ni (c_cmp (op_eqD hr.units) (nomark _)) g_eq.n (z_v (d_io H__law_take hr (by decide) tk (q_o 0 (q_val (d_p k_int) q_nil)) rfl) (z_v (d_p k_int) z_nil)))))) (b_cons (s_set 4 (d_io H__law_take hr (by decide) tk (q_o 0 (q_val (d_p k_int) q_nil)) rfl) nd) (b_one (s_ret (d_lcP (own:=[("_law_k",5)]) (Zeu T.f_range (d_p (k_var 1))) (blkOk_by (own:=[("_law_k",5)]) (N:=Zcb) (sc:=defScope Z1) (by decide +kernel)) (ZV (by simp)) (uni_g fun _ _ _ _ _=>g_name 5 nd (by rfl)) uni_y (uni_e fun _ _ _ _ _=>(d_n (b2n (o_ix (cl:=cl) rfl hu (fun _ _=>rfl))) g_ix.n (n_k (k_var 3) (n_v (d_n (b2n o_mod) g_mod.n (n_v (d_n (b2n (o_addB (cl:=cl) rfl)) na_add.n (n_k (k_var 4) (n_v (d_n (b2n o_mulA) na_mul.n (n_k k_int (n_k (k_var 5) n_nil))) n_nil))) (n_k k_int n_nil))) n_nil)))) nd)))) b_nil) (b_cons (s_set 6 (d_ni (b1n o_join) g_join.n (z_v (d_lc (own:=[("_law_k",5)]) (Zeu T.f_range (d_io H__law_take hr (by decide) tk (q_o 0 (q_val (d_p k_int) q_nil)) rfl)) (blkOk_by (own:=[("_law_k",5)]) (N:=Zcb) (sc:=defScope Z1) (by decide +kernel)) (ZV (by simp)) (uni_g fun _ _ _ _ _=>g_name 5 nd (by rfl)) uni_y (uni_e fun _ _ _ _ _=>(d_ni (b2n (o_ix (cl:=cl) rfl hu (fun _ _=>rfl))) g_ix.n (z_l 2 (z_v (d_io H__law_take hr (by decide) takes0 (q_o 0 (q_val (d_p k_int) q_nil)) rfl) z_nil)))) nd) z_nil)) nd) (b_cons (s_set 4 (d_io H__law_take hr (by decide) tk (q_o 0 (q_val (d_n (b2n (o_addB (cl:=cl) rfl)) na_add.n (n_v (d_n (b1n (o_len (cl:=cl) rfl T.f_len)) g_len.n (n_k (k_var 6) n_nil)) (n_k k_int n_nil))) q_nil)) rfl) nd) (b_cons (s_set 7 (d_io H__law_take hr (by decide) tk (q_o 0 (q_val (d_p k_int) q_nil)) rfl) nd) (b_cons (s_set 8 (d_lst a_nil) nd) (b_cons (s_for (Zeu T.f_range (d_p (k_var 1))) (g_name 5 nd) (b_cons (s_set 9 (d_n (b2n (o_addB (cl:=cl) rfl)) na_add.n (n_v (d_n (b2n (o_ix (cl:=cl) rfl hu (fun _ _=>rfl))) g_ix.n (n_k (k_var 2) (n_v (d_n (b2n o_mod) g_mod.n (n_v (d_n (b2n (o_addB (cl:=cl) rfl)) na_add.n (n_k (k_var 7) (n_v (d_n (b2n o_mulA) na_mul.n (n_k k_int (n_k (k_var 5) n_nil))) n_nil))) (n_k k_int n_nil))) n_nil))) (n_v (d_n (b2n (o_ix (cl:=cl) rfl hu (fun _ _=>rfl))) g_ix.n (n_v (d_lst (a_cons (d_p k_str) (a_cons (d_p k_str) a_nil))) (n_v (d_n (b2n o_div) g_div.n (n_k (k_var 5) (n_k k_int n_nil))) n_nil))) n_nil))) nd) (b_one (s_expr (d_app 8 (d_n (b2n (o_addB (cl:=cl) rfl)) na_add.n (n_v (d_n (b2n (o_addB (cl:=cl) rfl)) na_add.n (n_v (d_n (b2n (o_addB (cl:=cl) rfl)) na_add.n (n_v (d_sl (cl:=cl) rfl (rb_k (k_var 6)) ZT (ro_k (k_var 4))) (n_k (k_var 9) n_nil))) (n_v (d_sl (cl:=cl) rfl (rb_k (k_var 6)) (ro_k (k_var 4)) ZT) n_nil))) (n_v (d_sl (cl:=cl) rfl (rb_k k_str) ZT (ro_v (d_n (b2n o_mod) g_mod.n (n_k (k_var 5) (n_k k_int n_nil))))) n_nil))) (hq:=fun _ h=>pe_bm PySem.F.plainAttrs_list PySem.F.slot_list_append PySem.F.type_list_append mt_append (pv 8) (pa_cons h pa_nil)))))) (passes_of rfl)) (b_one (s_ret (d_mv 8)))))))))))
theorem sc__law_rows:FnScope Zek ["_law_box_here","_law_most"] (defScope Zbw):=⟨rfl,rfl,rfl,by decide +kernel,rfl,by decide +kernel,by decide +kernel⟩
theorem ZhB (hK:cl.K = K) (hX:xf = xfG) (T:Tx cl mg) (Fd:FunD K "_law_rows" "_law_rows" (defArgs Zbw) (defBody Zbw) (defScope Zbw) [] [] f fd) (H__law_take:Fn cl xf P w K mg base "_law_take" 1 2 Za) (H__law_names:Fn cl xf P w K mg base "_law_names" 2 2 ZZ):FnG P w K mg base (L2.CX P w) 3 f fd ["_law_box_here","_law_most"] (spF cl xf 2 Zbj):=by
  subst hK; subst hX
  refine fn_ok (N:=Zek) (ws:=fun i=>[2,3,4,5,6,7,8,9].contains i) (ds:=Zfi) (io:=[true,false]) Fd sc__law_rows rfl (by decide) (ioOk (by decide)) fun cdv A outer s H E hr=>?_
  have tk:=takes_of (X:=cxOf (L2.CX P w) P w cl.K mg base Zek "_law_rows" (defScope Zbw) f cdv A outer s H E) (E:=E) rfl rfl rfl rfl
  have hu:=huG hr; have hu2:=hu65 hr; have nd:=sc__law_rows.nd
  exact (b_cons (s_set 2 (d_ni (b2n (o_ix (cl:=cl) rfl hu (fun _ _=>rfl))) g_ix.n (z_v (d_lst (a_cons (d_p k_int) (a_cons (d_p k_int) (a_cons (d_p k_int) (a_cons (d_p k_int) a_nil))))) (z_v (d_io H__law_take hr (by decide) tk (q_o 0 (q_val (d_p k_int) q_nil)) rfl) z_nil))) nd) (b_cons (s_set 3 (d_ni (b2n (o_ix (cl:=cl) rfl hu (fun _ _=>rfl))) g_ix.n (z_v (d_lst (a_cons (d_p k_int) (a_cons (d_p k_int) (a_cons (d_p k_int) a_nil)))) (z_v (d_io H__law_take hr (by decide) tk (q_o 0 (q_val (d_p k_int) q_nil)) rfl) z_nil))) nd) (b_cons (s_set 4 (d_lst a_nil) nd) (b_cons (s_for (i_anyD (cl:=cl) rfl (d_io H__law_names hr (by decide) tk (q_o 0 (q_val (d_ni (b2n (o_max T.f_max)) g_max.n (z_v (d_io H__law_take hr (by decide) tk (q_o 0 (q_val (d_n (b2n (o_addB (cl:=cl) rfl)) na_add.n (n_k (k_var 1) (n_k k_int n_nil))) q_nil)) rfl) (z_v (d_io H__law_take hr (by decide) tk (q_o 0 (q_val (d_n (b2n (o_addB (cl:=cl) rfl)) na_add.n (n_k (k_var 1) (n_k k_int n_nil))) q_nil)) rfl) z_nil))) q_nil)) rfl)) (g_name 5 nd) (b_cons (s_set 6 (d_io H__law_take hr (by decide) tk (q_o 0 (q_l 2 q_nil)) rfl) nd) (b_cons (s_set 7 (d_ni (b2n (o_min T.f_min)) g_min.n (z_v (d_p k_int) (z_v (d_ni (b2n (o_addB (cl:=cl) rfl)) na_add.n (z_l 6 (z_v (d_ni (b2n (o_ix (cl:=cl) rfl hu (fun _ _=>rfl))) g_ix.n (z_v (d_lst (a_cons (d_io H__law_take hr (by decide) tk (q_o 0 (q_val (d_p k_int) q_nil)) rfl) (a_cons (d_io H__law_take hr (by decide) tk (q_o 0 (q_l 2 q_nil)) rfl) (a_cons (d_p k_int) a_nil)))) (z_v (d_io H__law_take hr (by decide) tk (q_o 0 (q_val (d_p k_int) q_nil)) rfl) z_nil))) z_nil))) z_nil))) nd) (b_cons (s_if (t_ni (c_cmp (op_eqD hr.units) (nomark _)) g_eq.n (z_v (d_io H__law_take hr (by decide) tk (q_o 0 (q_val (d_p k_int) q_nil)) rfl) (z_v (d_p k_int) z_nil))) (b_one (s_set 6 (d_n (b2n (o_addB (cl:=cl) rfl)) na_add.n (n_k (k_var 7) (n_k k_int n_nil))) nd)) b_nil) (b_cons (s_set 8 (d_ni (b2n (o_addB (cl:=cl) rfl)) na_add.n (z_v (d_p k_int) (z_v (d_io H__law_take hr (by decide) tk (q_o 0 (q_l 3 q_nil)) rfl) z_nil))) nd) (b_cons (s_set 9 (d_ni (b2n (o_ix (cl:=cl) rfl hu (fun _ _=>rfl))) g_ix.n (z_v (d_lst (a_cons (d_p (k_var 8)) (a_cons (d_p (k_var 8)) (a_cons (d_io H__law_take hr (by decide) tk (q_o 0 (q_val (d_n (b2n (o_addB (cl:=cl) rfl)) na_add.n (n_k (k_var 8) (n_k k_int n_nil))) q_nil)) rfl) (a_cons (d_p k_int) a_nil))))) (z_v (d_io H__law_take hr (by decide) tk (q_o 0 (q_val (d_p k_int) q_nil)) rfl) z_nil))) nd) (b_one (s_expr (d_app 4 (d_tup (a_cons (d_p (k_var 5)) (a_cons (d_p (k_var 6)) (a_cons (d_p (k_var 7)) (a_cons (d_p (k_var 8)) (a_cons (d_p (k_var 9)) a_nil)))))) (hq:=fun _ h=>pe_bm PySem.F.plainAttrs_list PySem.F.slot_list_append PySem.F.type_list_append mt_append (pv 4) (pa_cons h pa_nil)))))))))) (passes_of rfl)) (b_one (s_ret (d_mv 4)))))))
theorem sc__law_thing:FnScope ZdI ["_law_box_here"] (defScope Zbh):=⟨rfl,rfl,rfl,by decide +kernel,rfl,by decide +kernel,by decide +kernel⟩
theorem ZgJ (hK:cl.K = K) (hX:xf = xfG) (T:Tx cl mg) (Fd:FunD K "_law_thing" "_law_thing" (defArgs Zbh) (defBody Zbh) (defScope Zbh) [] [] f fd) (H__law_take:Fn cl xf P w K mg base "_law_take" 1 2 Za):FnG P w K mg base (L2.CX P w) 2 f fd ["_law_box_here"] (spF cl xf 1 Zba):=by
  subst hK; subst hX
  refine fn_ok (N:=ZdI) (ws:=fun i=>[1].contains i) (ds:=ZbG) (io:=[true]) Fd sc__law_thing rfl (by decide) (ioOk (by decide)) fun cdv A outer s H E hr=>?_
  have tk:=takes_of (X:=cxOf (L2.CX P w) P w cl.K mg base ZdI "_law_thing" (defScope Zbh) f cdv A outer s H E) (E:=E) rfl rfl rfl rfl
  have hu:=huG hr; have hu2:=hu65 hr; have nd:=sc__law_thing.nd
  exact (b_cons (s_set 1 (d_lst (a_cons (d_p k_non) (a_cons (d_p k_bl) (a_cons (d_p k_bl) (a_cons (d_p k_int) (a_cons (d_p k_int) (a_cons (d_n (b2n o_sub) g_sub.n (n_k k_int (n_k k_int n_nil))) (a_cons (d_p k_int) (a_cons (d_p k_int) (a_cons (d_n (b2n o_pow) g_pow.n (n_k k_int (n_k k_int n_nil))) (a_cons (d_n (b2n o_sub) g_sub.n (n_k k_int (n_v (d_n (b2n o_pow) g_pow.n (n_k k_int (n_k k_int n_nil))) n_nil))) (a_cons (d_p k_str) (a_cons (d_p k_str) (a_cons (d_p k_str) (a_cons (d_p k_str) (a_cons (d_p k_str) (a_cons (d_p k_str) (a_cons (d_p k_str) a_nil)))))))))))))))))) nd) (b_cons (s_set 1 (d_n (b2n (o_addB (cl:=cl) rfl)) na_add.n (n_k (k_var 1) (n_v (d_lst (a_cons (d_p k_str) (a_cons (d_p k_str) (a_cons (d_p k_str) (a_cons (d_p k_str) (a_cons (d_p k_str) (a_cons (d_p k_str) (a_cons (d_p k_str) (a_cons (d_p k_str) (a_cons (d_p k_str) (a_cons (d_p k_str) (a_cons (d_p k_str) (a_cons (d_p k_str) (a_cons (d_p k_str) a_nil)))))))))))))) n_nil))) nd) (b_cons (s_set 1 (d_n (b2n (o_addB (cl:=cl) rfl)) na_add.n (n_k (k_var 1) (n_v (d_lst (a_cons (d_lst a_nil) (a_cons (d_tup a_nil) (a_cons Zl6 (a_cons (d_lst (a_cons (d_p k_int) a_nil)) (a_cons (d_tup (a_cons (d_p k_int) a_nil)) (a_cons (d_tup (a_cons (d_p k_str) (a_cons (d_p k_int) (a_cons (d_p k_int) (a_cons (d_p k_int) a_nil))))) (a_cons (d_disp (Zof k_str (d_p k_int) pr_nil)) (a_cons (d_lst (a_cons (d_lst (a_cons (d_p k_str) (a_cons (d_p k_int) (a_cons (d_p k_int) (a_cons (d_p k_int) a_nil))))) a_nil)) (a_cons (d_p k_str) (a_cons (d_p k_str) a_nil))))))))))) n_nil))) nd) (b_one (s_ret (d_ni (b2n (o_ix (cl:=cl) rfl hu (fun _ _=>rfl))) g_ix.n (z_l 1 (z_v (d_io H__law_take hr (by decide) tk (q_o 0 (q_val (d_p k_int) q_nil)) rfl) z_nil))))))))
theorem sc__law_cell:FnScope Zel ["_law_script","_law_k"] (defScope Zbx):=⟨rfl,rfl,rfl,by decide +kernel,rfl,by decide +kernel,by decide +kernel⟩
theorem ZhD (hK:cl.K = K) (hX:xf = xfG) (T:Tx cl mg) (Fd:FunD K "_law_cell" "_law_cell" (defArgs Zbx) (defBody Zbx) (defScope Zbx) [] [] f fd) :FnG P w K mg base (L2.CX P w) 1 f fd ["_law_script","_law_k"] (spF cl xf 2 ZbE):=by
  subst hK; subst hX
  refine fn_ok (N:=Zel) (ws:=fun _=>false) (ds:=Zca) (io:=[false,false]) Fd sc__law_cell rfl (by decide) (fun _ _=>rfl) fun cdv A outer s H E hr=>?_
  have tk:=takes_of (X:=cxOf (L2.CX P w) P w cl.K mg base Zel "_law_cell" (defScope Zbx) f cdv A outer s H E) (E:=E) rfl rfl rfl rfl
  have hu:=huG hr; have hu2:=hu65 hr; have nd:=sc__law_cell.nd
  exact (b_cons (s_if (t_n (c_cmp op_lt (nomark _)) g_lt.n (n_k (k_var 1) (n_v (d_n (b1n (o_len (cl:=cl) rfl T.f_len)) g_len.n (n_k (k_var 0) n_nil)) n_nil))) (b_one (s_ret (d_p (k_op (o_ix (cl:=cl) rfl hu (fun _ _=>rfl)) pop_ix (k_var 0) (k_var 1))))) b_nil) (b_cons (s_if (t_n (c_cmp (op_eqD hr.units) (nomark _)) g_eq.n (n_v (d_n (b1n (o_len (cl:=cl) rfl T.f_len)) g_len.n (n_k (k_var 0) n_nil)) (n_k k_int n_nil))) (b_one (s_ret (d_n (b2n (o_addB (cl:=cl) rfl)) na_add.n (n_v (d_n (b2n o_mulA) na_mul.n (n_k k_int (n_k (k_var 1) n_nil))) (n_k k_int n_nil))))) b_nil) (b_one (s_ret (d_n (b2n (o_addB (cl:=cl) rfl)) na_add.n (n_v (d_n (b2n o_div) g_div.n (n_v (d_n (b2n (o_ix (cl:=cl) rfl hu (fun _ _=>rfl))) g_ix.n (n_k (k_var 0) (n_v (d_n (b2n o_mod) g_mod.n (n_k (k_var 1) (n_v (d_n (b1n (o_len (cl:=cl) rfl T.f_len)) g_len.n (n_k (k_var 0) n_nil)) n_nil))) n_nil))) (n_v (d_n (b2n (o_addB (cl:=cl) rfl)) na_add.n (n_k (k_var 1) (n_k k_int n_nil))) n_nil))) (n_v (d_n (b2n o_mulA) na_mul.n (n_k k_int (n_k (k_var 1) n_nil))) n_nil)))))))
theorem sc__law_spoilt:FnScope Zda ["_law_box_here","_law_text"] (defScope Z7):=⟨rfl,rfl,rfl,by decide +kernel,rfl,by decide +kernel,by decide +kernel⟩
theorem Zge (hK:cl.K = K) (hX:xf = xfG) (T:Tx cl mg) (Fd:FunD K "_law_spoilt" "_law_spoilt" (defArgs Z7) (defBody Z7) (defScope Z7) [] [] f fd) (H__law_take:Fn cl xf P w K mg base "_law_take" 1 2 Za):FnG P w K mg base (L2.CX P w) 2 f fd ["_law_box_here","_law_text"] (spF cl xf 2 Z6):=by
  subst hK; subst hX
  refine fn_ok (N:=Zda) (ws:=fun i=>[2,3,4,5,6,7,8,9,10].contains i) (ds:=Zcd) (io:=[true,false]) Fd sc__law_spoilt rfl (by decide) (ioOk (by decide)) fun cdv A outer s H E hr=>?_
  have tk:=takes_of (X:=cxOf (L2.CX P w) P w cl.K mg base Zda "_law_spoilt" (defScope Z7) f cdv A outer s H E) (E:=E) rfl rfl rfl rfl
  have hu:=huG hr; have hu2:=hu65 hr; have nd:=sc__law_spoilt.nd
  exact (b_cons (s_set 2 (d_p k_str) nd) (b_cons (s_set 2 (d_n (b2n (o_addB (cl:=cl) rfl)) na_add.n (n_k (k_var 2) (n_k k_str n_nil))) nd) (b_cons (s_set 3 (d_io H__law_take hr (by decide) tk (q_o 0 (q_val (d_p k_int) q_nil)) rfl) nd) (b_cons (s_set 4 (d_io H__law_take hr (by decide) tk (q_o 0 (q_val (d_n (b2n (o_addB (cl:=cl) rfl)) na_add.n (n_v (d_n (b1n (o_len (cl:=cl) rfl T.f_len)) g_len.n (n_k (k_var 1) n_nil)) (n_k k_int n_nil))) q_nil)) rfl) nd) (b_cons (s_set 5 (d_ni (b2n (o_ix (cl:=cl) rfl hu (fun _ _=>rfl))) g_ix.n (z_v (d_lst (a_cons (d_ni (b2n (o_ix (cl:=cl) rfl hu (fun _ _=>rfl))) g_ix.n (z_v (d_p k_str) (z_v (d_io H__law_take hr (by decide) tk (q_o 0 (q_val (d_p k_int) q_nil)) rfl) z_nil))) (a_cons (d_ni (b2n (o_ix (cl:=cl) rfl hu (fun _ _=>rfl))) g_ix.n (z_l 2 (z_v (d_io H__law_take hr (by decide) tk (q_o 0 (q_val (d_p k_int) q_nil)) rfl) z_nil))) a_nil))) (z_v (d_io H__law_take hr (by decide) tk (q_o 0 (q_val (d_p k_int) q_nil)) rfl) z_nil))) nd) (b_cons (s_if (t_n (c_cmp (op_eqD hr.units) (nomark _)) g_eq.n (n_k (k_var 3) (n_k k_int n_nil))) (b_one (s_ret (d_n (b2n (o_addB (cl:=cl) rfl)) na_add.n (n_v (d_n (b2n (o_addB (cl:=cl) rfl)) na_add.n (n_v (d_sl (cl:=cl) rfl (rb_k (k_var 1)) ZT (ro_k (k_var 4))) (n_k (k_var 5) n_nil))) (n_v (d_sl (cl:=cl) rfl (rb_k (k_var 1)) (ro_k (k_var 4)) ZT) n_nil))))) b_nil) (b_cons (s_if (t_n (c_cmp (op_eqD hr.units) (nomark _)) g_eq.n (n_k (k_var 3) (n_k k_int n_nil))) (b_one (s_ret (d_n (b2n (o_addB (cl:=cl) rfl)) na_add.n (n_v (d_sl (cl:=cl) rfl (rb_k (k_var 1)) ZT (ro_k (k_var 4))) (n_v (d_sl (cl:=cl) rfl (rb_k (k_var 1)) (ro_v (d_n (b2n (o_addB (cl:=cl) rfl)) na_add.n (n_k (k_var 4) (n_k k_int n_nil)))) ZT) n_nil))))) b_nil) (b_cons (s_if (t_n (c_cmp (op_eqD hr.units) (nomark _)) g_eq.n (n_k (k_var 3) (n_k k_int n_nil))) (b_one (s_ret (d_n (b2n (o_addB (cl:=cl) rfl)) na_add.n (n_v (d_n (b2n (o_addB (cl:=cl) rfl)) na_add.n (n_v (d_sl (cl:=cl) rfl (rb_k (k_var 1)) ZT (ro_k (k_var 4))) (n_k (k_var 5) n_nil))) (n_v (d_sl (cl:=cl) rfl (rb_k (k_var 1)) (ro_v (d_n (b2n (o_addB (cl:=cl) rfl)) na_add.n (n_k (k_var 4) (n_k k_int n_nil)))) ZT) n_nil))))) b_nil) (b_cons (s_set 6 (d_m (bm_1 (cl:=cl) rfl PySem.F.plainAttrs_str PySem.F.slot_str_split PySem.F.type_str_split (mt_split (X:=_))) na_split.n (rt_k (k_var 1)) (n_k k_str n_nil)) nd) (b_cons (s_set 7 (d_io H__law_take hr (by decide) tk (q_o 0 (q_val (d_n (b1n (o_len (cl:=cl) rfl T.f_len)) g_len.n (n_k (k_var 6) n_nil)) q_nil)) rfl) nd) (b_cons (s_set 8 (d_m (bm_1 (cl:=cl) rfl PySem.F.plainAttrs_str PySem.F.slot_str_split PySem.F.type_str_split (mt_split (X:=_))) na_split.n (rt_k (k_op (o_ix (cl:=cl) rfl hu (fun _ _=>rfl)) pop_ix (k_var 6) (k_var 7))) (n_k k_str n_nil)) nd) (b_cons (s_set 9 (d_io H__law_take hr (by decide) tk (q_o 0 (q_val (d_n (b1n (o_len (cl:=cl) rfl T.f_len)) g_len.n (n_k (k_var 8) n_nil)) q_nil)) rfl) nd) (b_cons (s_if (t_n (c_cmp (op_eqD hr.units) (nomark _)) g_eq.n (n_k (k_var 3) (n_k k_int n_nil))) (b_one (Ze0 hu (pl_var 6) (d_p (k_var 7)) (d_n (b1n o_join) g_join.n (n_v (d_n (b2n (o_addB (cl:=cl) rfl)) na_add.n (n_v (d_sl (cl:=cl) rfl (rb_k (k_var 8)) ZT (ro_k (k_var 9))) (n_v (d_sl (cl:=cl) rfl (rb_k (k_var 8)) (ro_v (d_n (b2n (o_addB (cl:=cl) rfl)) na_add.n (n_k (k_var 9) (n_k k_int n_nil)))) ZT) n_nil))) n_nil)) (hq:=fun _ _ h1 h2=>pg_sub h1 h2 (PSet.or' set_list (set_dict hu))))) (b_one (s_if (t_n (c_cmp (op_eqD hr.units) (nomark _)) g_eq.n (n_k (k_var 3) (n_k k_int n_nil))) (b_one (Ze0 hu (pl_var 6) (d_p (k_var 7)) (d_n (b1n o_join) g_join.n (n_v (d_n (b2n (o_addB (cl:=cl) rfl)) na_add.n (n_v (d_sl (cl:=cl) rfl (rb_k (k_var 8)) ZT (ro_v (d_n (b2n (o_addB (cl:=cl) rfl)) na_add.n (n_k (k_var 9) (n_k k_int n_nil))))) (n_v (d_sl (cl:=cl) rfl (rb_k (k_var 8)) (ro_k (k_var 9)) ZT) n_nil))) n_nil)) (hq:=fun _ _ h1 h2=>pg_sub h1 h2 (PSet.or' set_list (set_dict hu))))) (b_one (s_if (t_n (c_cmp (op_eqD hr.units) (nomark _)) g_eq.n (n_k (k_var 3) (n_k k_int n_nil))) (b_cons (s_set 10 (d_ni (b2n (o_ix (cl:=cl) rfl hu (fun _ _=>rfl))) g_ix.n (z_v (d_lst (a_cons (d_p k_str) (a_cons (d_p k_str) (a_cons (d_p k_str) (a_cons (d_p k_str) (a_cons (d_p k_str) (a_cons (d_p k_str) (a_cons (d_p k_str) (a_cons (d_p k_str) (a_cons (d_p k_str) (a_cons (d_p k_str) a_nil))))))))))) (z_v (d_io H__law_take hr (by decide) tk (q_o 0 (q_val (d_p k_int) q_nil)) rfl) z_nil))) nd) (b_one (Ze0 hu (pl_var 6) (d_p (k_var 7)) (d_n (b1n o_join) g_join.n (n_v (d_n (b2n (o_addB (cl:=cl) rfl)) na_add.n (n_v (d_n (b2n (o_addB (cl:=cl) rfl)) na_add.n (n_v (d_sl (cl:=cl) rfl (rb_k (k_var 8)) ZT (ro_k (k_var 9))) (n_v (d_lst (a_cons (d_p (k_var 10)) a_nil)) n_nil))) (n_v (d_sl (cl:=cl) rfl (rb_k (k_var 8)) (ro_v (d_n (b2n (o_addB (cl:=cl) rfl)) na_add.n (n_k (k_var 9) (n_k k_int n_nil)))) ZT) n_nil))) n_nil)) (hq:=fun _ _ h1 h2=>pg_sub h1 h2 (PSet.or' set_list (set_dict hu)))))) (b_one (s_set 6 (d_ni (b2n (o_addB (cl:=cl) rfl)) na_add.n (z_v (d_ni (b2n (o_addB (cl:=cl) rfl)) na_add.n (z_v (d_sl (cl:=cl) rfl (rb_k (k_var 6)) ZT (ro_k (k_var 7))) (z_v (d_slI (cl:=cl) rfl (zb_v (d_lst (a_cons (d_p (k_op (o_ix (cl:=cl) rfl hu (fun _ _=>rfl)) pop_ix (k_var 6) (k_var 7))) (a_cons (d_p k_str) a_nil)))) (rz_v (d_io H__law_take hr (by decide) tk (q_o 0 (q_val (d_p k_int) q_nil)) rfl)) Zn5) z_nil))) (z_v (d_sl (cl:=cl) rfl (rb_k (k_var 6)) (ro_k (k_var 7)) ZT) z_nil))) nd))))))) (b_one (s_ret (d_n (b1n o_join) g_join.n (n_k (k_var 6) n_nil)))))))))))))))))
theorem sc_is_whole:FnScope Ze9 ["thing"] (defScope ZbP):=⟨rfl,rfl,rfl,by decide +kernel,rfl,by decide +kernel,by decide +kernel⟩
theorem Zin (hK:cl.K = K) (hX:xf = xfG) (T:Tx cl mg) (Fd:FunD K "is_whole" "is_whole" (defArgs ZbP) (defBody ZbP) (defScope ZbP) [] [] f fd) :FnG P w K mg base (L2.CX P w) 1 f fd ["thing"] (spF cl xf 1 ZJ):=by
  subst hK; subst hX
  refine fn_ok (N:=Ze9) (ws:=fun _=>false) (ds:=ZU) (io:=[false]) Fd sc_is_whole rfl (by decide) (fun _ _=>rfl) fun cdv A outer s H E hr=>?_
  have tk:=takes_of (X:=cxOf (L2.CX P w) P w cl.K mg base Ze9 "is_whole" (defScope ZbP) f cdv A outer s H E) (E:=E) rfl rfl rfl rfl
  have hu:=huG hr; have hu2:=hu65 hr; have nd:=sc_is_whole.nd
  exact (b_one (s_ret (d_and (d_n (b1n (o_isi (T:="int") T.f_isinstance T.f_int (by decide +kernel))) (g_isi (by decide)).n (n_k (k_var 0) n_nil)) (d_one (d_not (d_n (b1n (o_isi (T:="bool") T.f_isinstance T.f_bool (by decide +kernel))) (g_isi (by decide)).n (n_k (k_var 0) n_nil)))))))
theorem sc_is_within:FnScope Zeh ["thing","low","high"] (defScope Zbt):=⟨rfl,rfl,rfl,by decide +kernel,rfl,by decide +kernel,by decide +kernel⟩
theorem Zhy (hK:cl.K = K) (hX:xf = xfG) (T:Tx cl mg) (Fd:FunD K "is_within" "is_within" (defArgs Zbt) (defBody Zbt) (defScope Zbt) [] [] f fd) (H_is_whole:Fn cl xf P w K mg base "is_whole" 1 1 ZJ):FnG P w K mg base (L2.CX P w) 2 f fd ["thing","low","high"] (spF cl xf 3 Zl):=by
  subst hK; subst hX
  refine fn_ok (N:=Zeh) (ws:=fun _=>false) (ds:=Z2) (io:=[false,false,false]) Fd sc_is_within rfl (by decide) (fun _ _=>rfl) fun cdv A outer s H E hr=>?_
  have tk:=takes_of (X:=cxOf (L2.CX P w) P w cl.K mg base Zeh "is_within" (defScope Zbt) f cdv A outer s H E) (E:=E) rfl rfl rfl rfl
  have hu:=huG hr; have hu2:=hu65 hr; have nd:=sc_is_within.nd
  exact (b_one (s_ret (d_and (d_call H_is_whole hr (by decide) tk (c_lend (k_var 0) c_nil) (Zp dl_nil)) (d_one (d_ch op_le op_le p_le p_le (d_p (k_var 1)) (d_p (k_var 0)) (d_p (k_var 2)))))))
theorem sc_window_fault:FnScope ZcL ["row"] (defScope Z0):=⟨rfl,rfl,rfl,by decide +kernel,rfl,by decide +kernel,by decide +kernel⟩
theorem ZfH (hK:cl.K = K) (hX:xf = xfG) (T:Tx cl mg) (Fd:FunD K "window_fault" "window_fault" (defArgs Z0) (defBody Z0) (defScope Z0) [] [] f fd) (H_is_within:Fn cl xf P w K mg base "is_within" 2 3 Zl):FnG P w K mg base (L2.CX P w) 3 f fd ["row"] (spF cl xf 1 Zt):=by
  subst hK; subst hX
  refine fn_ok (N:=ZcL) (ws:=fun _=>false) (ds:=Zo) (io:=[false]) Fd sc_window_fault rfl (by decide) (fun _ _=>rfl) fun cdv A outer s H E hr=>?_
  have tk:=takes_of (X:=cxOf (L2.CX P w) P w cl.K mg base ZcL "window_fault" (defScope Z0) f cdv A outer s H E) (E:=E) rfl rfl rfl rfl
  have hu:=huG hr; have hu2:=hu65 hr; have nd:=sc_window_fault.nd
  exact (b_cons (s_if (t_not (t_v (d_call H_is_within hr (by decide) tk (c_lend (k_op (o_ix (cl:=cl) rfl hu (fun _ _=>rfl)) pop_ix (k_var 0) k_int) (c_lend k_int (c_val (d_n (b2n (o_addB (cl:=cl) rfl)) na_add.n (n_k (Zcw (pa:=0) T.c_MOST_TURN) (n_k k_int n_nil))) c_nil))) (Zp (Zp (Zec dl_nil)))))) (b_one (s_ret (d_p k_str))) b_nil) (b_cons (s_if (t_not (t_v (d_call H_is_within hr (by decide) tk (c_lend (k_op (o_ix (cl:=cl) rfl hu (fun _ _=>rfl)) pop_ix (k_var 0) k_int) (c_val (d_n (b2n (o_max T.f_max)) g_max.n (n_k k_int (n_v (d_n (b2n o_sub) g_sub.n (n_k (k_op (o_ix (cl:=cl) rfl hu (fun _ _=>rfl)) pop_ix (k_var 0) k_int) (n_k k_int n_nil))) n_nil))) (c_lend (Zcw (pa:=0) T.c_MOST_TURN) c_nil))) (Zp (Zec (Zp dl_nil)))))) (b_one (s_ret (d_p k_str))) b_nil) (b_cons (s_if (t_not (t_v (d_call H_is_within hr (by decide) tk (c_lend (k_op (o_ix (cl:=cl) rfl hu (fun _ _=>rfl)) pop_ix (k_var 0) k_int) (c_lend k_int (c_lend (Zcw (pa:=0) T.c_MOST_LENGTH) c_nil))) (Zp (Zp (Zp dl_nil)))))) (b_one (s_ret (d_p k_str))) b_nil) (b_cons (s_if (t_w (w_and (t_n (c_cmp (op_eqD hr.units) (nomark _)) g_eq.n (n_v (d_n (b1n (o_len (cl:=cl) rfl T.f_len)) g_len.n (n_k (k_var 0) n_nil)) (n_k k_int n_nil))) (w_and1 (t_not (t_v (d_call H_is_within hr (by decide) tk (c_lend (k_op (o_ix (cl:=cl) rfl hu (fun _ _=>rfl)) pop_ix (k_var 0) k_int) (c_lend k_int (c_lend (k_op (o_ix (cl:=cl) rfl hu (fun _ _=>rfl)) pop_ix (k_var 0) k_int) c_nil))) (Zp (Zp (Zp dl_nil))))))))) (b_one (s_ret (d_p k_str))) b_nil) (b_one (s_ret (d_p k_non)))))))
theorem sc_is_name:FnScope ZeF ["thing"] (defScope ZbT):=⟨rfl,rfl,rfl,by decide +kernel,rfl,by decide +kernel,by decide +kernel⟩
theorem Zkg (hK:cl.K = K) (hX:xf = xfG) (T:Tx cl mg) (Fd:FunD K "is_name" "is_name" (defArgs ZbT) (defBody ZbT) (defScope ZbT) [] [] f fd) :FnG P w K mg base (L2.CX P w) 1 f fd ["thing"] (spF cl xf 1 Zx):=by
  subst hK; subst hX
  refine fn_ok (N:=ZeF) (ws:=fun _=>false) (ds:=ZB) (io:=[false]) Fd sc_is_name rfl (by decide) (fun _ _=>rfl) fun cdv A outer s H E hr=>?_
  have tk:=takes_of (X:=cxOf (L2.CX P w) P w cl.K mg base ZeF "is_name" (defScope ZbT) f cdv A outer s H E) (E:=E) rfl rfl rfl rfl
  have hu:=huG hr; have hu2:=hu65 hr; have nd:=sc_is_name.nd
  exact (b_cons (s_if (t_w (w_or (t_not (t_v (d_n (b1n (o_isi (T:="str") T.f_isinstance T.f_str (by decide +kernel))) (g_isi (by decide)).n (n_k (k_var 0) n_nil)))) (w_or (t_not (t_ch op_le op_le p_le p_le (d_p k_int) (d_n (b1n (o_len (cl:=cl) rfl T.f_len)) g_len.n (n_k (k_var 0) n_nil)) (d_p (Zcw (pa:=0) T.c_LONGEST_NAME)))) (w_or1 (t_n (c_cmp (ZcP (cl:=cl) rfl hu2) rfl) na_notin.n (n_k (k_op (o_ix (cl:=cl) rfl hu (fun _ _=>rfl)) pop_ix (k_var 0) k_int) (n_k (Zcw (pa:=0) T.c_LETTERS) n_nil))))))) (b_one (s_ret (d_p k_bl))) b_nil) (b_one (s_ret (d_n (b1n (o_all T.f_all)) g_all.n (n_v (d_lcP (own:=[("sign",1)]) (i_anyP (cl:=cl) rfl (k_var 0)) (blkOk_by (own:=[("sign",1)]) (N:=ZeF) (sc:=defScope ZbT) (by decide +kernel)) (ZV (by simp)) (uni_g fun _ _ _ _ _=>g_name 1 nd (by rfl)) uni_y (uni_e fun _ _ _ _ _=>(d_n (b2n (o_cmp (opk_in (cl:=cl) rfl hu2) rfl)) na_in.n (n_k (k_var 1) (n_v (d_n (b2n (o_addB (cl:=cl) rfl)) na_add.n (n_k (Zcw (pa:=0) T.c_LETTERS) (n_k (Zcw (pa:=0) T.c_FIGURES) n_nil))) n_nil)))) nd) n_nil)))))
theorem sc_row_fault:FnScope Zeg ["known","row"] (defScope Zbs):=⟨rfl,rfl,rfl,by decide +kernel,rfl,by decide +kernel,by decide +kernel⟩
theorem Zhw (hK:cl.K = K) (hX:xf = xfG) (T:Tx cl mg) (Fd:FunD K "row_fault" "row_fault" (defArgs Zbs) (defBody Zbs) (defScope Zbs) [] [] f fd) (H_is_name:Fn cl xf P w K mg base "is_name" 1 1 Zx) (H_window_fault:Fn cl xf P w K mg base "window_fault" 3 1 Zt):FnG P w K mg base (L2.CX P w) 4 f fd ["known","row"] (spF cl xf 2 Zs):=by
  subst hK; subst hX
  refine fn_ok (N:=Zeg) (ws:=fun _=>false) (ds:=Zk) (io:=[false,false]) Fd sc_row_fault rfl (by decide) (fun _ _=>rfl) fun cdv A outer s H E hr=>?_
  have tk:=takes_of (X:=cxOf (L2.CX P w) P w cl.K mg base Zeg "row_fault" (defScope Zbs) f cdv A outer s H E) (E:=E) rfl rfl rfl rfl
  have hu:=huG hr; have hu2:=hu65 hr; have nd:=sc_row_fault.nd
  exact (b_cons (s_if (t_w (w_or (t_not (t_v (d_n (b1n (o_isi (T:="tuple") T.f_isinstance T.f_tuple (by decide +kernel))) (g_isi (by decide)).n (n_k (k_var 1) n_nil)))) (w_or1 (t_not (t_ch op_le op_le p_le p_le (d_p k_int) (d_n (b1n (o_len (cl:=cl) rfl T.f_len)) g_len.n (n_k (k_var 1) n_nil)) (d_p k_int)))))) (b_one (s_ret (d_p k_str))) b_nil) (b_cons (s_if (t_not (t_v (d_call H_is_name hr (by decide) tk (c_lend (k_op (o_ix (cl:=cl) rfl hu (fun _ _=>rfl)) pop_ix (k_var 1) k_int) c_nil) (Zp dl_nil)))) (b_one (s_ret (d_p k_str))) b_nil) (b_cons (s_if (t_n (c_cmp (opk_in (cl:=cl) rfl hu2) rfl) na_in.n (n_k (k_op (o_ix (cl:=cl) rfl hu (fun _ _=>rfl)) pop_ix (k_var 1) k_int) (n_k (k_var 0) n_nil))) (b_one (s_ret (d_p k_str))) b_nil) (b_one (s_ret (d_call H_window_fault hr (by decide) tk (c_lend (k_var 1) c_nil) (Zp dl_nil)))))))
theorem sc_five_of:FnScope Zf8 ["row"] (defScope Zb6):=⟨rfl,rfl,rfl,by decide +kernel,rfl,by decide +kernel,by decide +kernel⟩
theorem Zkh (hK:cl.K = K) (hX:xf = xfG) (T:Tx cl mg) (Fd:FunD K "five_of" "five_of" (defArgs Zb6) (defBody Zb6) (defScope Zb6) [] [] f fd) :FnG P w K mg base (L2.CX P w) 1 f fd ["row"] (spF cl xf 1 ZD):=by
  subst hK; subst hX
  refine fn_ok (N:=Zf8) (ws:=fun _=>false) (ds:=Zbq) (io:=[false]) Fd sc_five_of rfl (by decide) (fun _ _=>rfl) fun cdv A outer s H E hr=>?_
  have tk:=takes_of (X:=cxOf (L2.CX P w) P w cl.K mg base Zf8 "five_of" (defScope Zb6) f cdv A outer s H E) (E:=E) rfl rfl rfl rfl
  have hu:=huG hr; have hu2:=hu65 hr; have nd:=sc_five_of.nd
  exact (b_cons (s_if (t_n (c_cmp (op_eqD hr.units) (nomark _)) g_eq.n (n_v (d_n (b1n (o_len (cl:=cl) rfl T.f_len)) g_len.n (n_k (k_var 0) n_nil)) (n_k k_int n_nil))) (b_one (s_ret (d_n (b2n (o_addB (cl:=cl) rfl)) na_add.n (n_k (k_var 0) (n_v (d_tup (a_cons (d_p (k_op (o_ix (cl:=cl) rfl hu (fun _ _=>rfl)) pop_ix (k_var 0) k_int)) a_nil)) n_nil))))) b_nil) (b_one (s_ret (d_mv 0))))
theorem sc_five_rows:FnScope Zei ["rows"] (defScope Zbu):=⟨rfl,rfl,rfl,by decide +kernel,rfl,by decide +kernel,by decide +kernel⟩
theorem Zhz (hK:cl.K = K) (hX:xf = xfG) (T:Tx cl mg) (Fd:FunD K "five_rows" "five_rows" (defArgs Zbu) (defBody Zbu) (defScope Zbu) [] [] f fd) (H_row_fault:Fn cl xf P w K mg base "row_fault" 4 2 Zs) (H_five_of:Fn cl xf P w K mg base "five_of" 1 1 ZD) (X_BadPieces:Xc cl xf P w K mg base "BadPieces" 1 1):FnG P w K mg base (L2.CX P w) 5 f fd ["rows"] (spF cl xf 1 ZA):=by
  subst hK; subst hX
  refine fn_ok (N:=Zei) (ws:=fun i=>[1,2,3,4].contains i) (ds:=Zy) (io:=[false]) Fd sc_five_rows rfl (by decide) (ioOk (by decide)) fun cdv A outer s H E hr=>?_
  have tk:=takes_of (X:=cxOf (L2.CX P w) P w cl.K mg base Zei "five_rows" (defScope Zbu) f cdv A outer s H E) (E:=E) rfl rfl rfl rfl
  have hu:=huG hr; have hu2:=hu65 hr; have nd:=sc_five_rows.nd
  exact (b_cons (s_if (t_not (t_v (d_n (o_isiT (cl:=cl) (t1:="list") (t2:="tuple") rfl T.f_isinstance T.f_list T.f_tuple (by decide +kernel) (by decide +kernel)) (Zlo (by decide) (by decide)) (n_k (k_var 0) n_nil)))) (b_one (Ze1 X_BadPieces rfl hr (by decide) tk (a_cons (d_p k_non) (a_cons (d_p k_str) a_nil)))) b_nil) (b_cons (s_if (t_n (c_cmp op_gt (nomark _)) g_gt.n (n_v (d_n (b1n (o_len (cl:=cl) rfl T.f_len)) g_len.n (n_k (k_var 0) n_nil)) (n_k (Zcw (pa:=0) T.c_MOST_PIECES) n_nil))) (b_one (Ze1 X_BadPieces rfl hr (by decide) tk (a_cons (d_p (Zcw (pa:=0) T.c_MOST_PIECES)) (a_cons (d_p k_str) a_nil)))) b_nil) (b_cons (s_set 1 Zl6 nd) (b_cons (s_for (i_enP (cl:=cl) rfl T.f_enumerate (k_var 0)) (g_tup (ZgY (g_name 2 nd) (ZgY (g_name 3 nd) gs_nil))) (b_cons (s_set 4 (d_call H_row_fault hr (by decide) tk (c_lend (k_var 1) (c_lend (k_var 3) c_nil)) (Zp (Zp dl_nil))) nd) (b_cons (s_if (Zk3 (n_k (k_var 4) n_nil)) (b_one (Ze1 X_BadPieces rfl hr (by decide) tk (a_cons (d_p (k_var 2)) (a_cons (d_p (k_var 4)) a_nil)))) b_nil) (b_one (Ze0 hu (pl_var 1) (d_p (k_op (o_ix (cl:=cl) rfl hu (fun _ _=>rfl)) pop_ix (k_var 3) k_int)) (d_call H_five_of hr (by decide) tk (c_lend (k_var 3) c_nil) (Zp dl_nil)) (hq:=fun _ _ h1 h2=>pg_sub h1 h2 (PSet.or' set_list (set_dict hu))))))) (passes_of rfl)) (b_one (s_ret (d_mv 1)))))))
theorem sc_Pieces___init__:FnScope Zb1 ["self","rows"] (defScope ZF):=⟨rfl,rfl,rfl,by decide +kernel,rfl,by decide +kernel,by decide +kernel⟩
theorem Zep (hK:cl.K = K) (hX:xf = xfG) (T:Tx cl mg) (Fd:FunD K "__init__" "Pieces.__init__" (defArgs ZF) (defBody ZF) (defScope ZF) [] [] f fd) (H_five_rows:Fn cl xf P w K mg base "five_rows" 5 1 ZA):FnG P w K mg base (L2.CX P w) 6 f fd ["self","rows"] (spF cl xf 2 Ze):=by
  subst hK; subst hX
  refine fn_ok (N:=Zb1) (ws:=fun _=>false) (ds:=ZG) (io:=[true,false]) Fd sc_Pieces___init__ rfl (by decide) (fun _ _=>rfl) fun cdv A outer s H E hr=>?_
  have tk:=takes_of (X:=cxOf (L2.CX P w) P w cl.K mg base Zb1 "Pieces.__init__" (defScope ZF) f cdv A outer s H E) (E:=E) rfl rfl rfl rfl
  have hu:=huG hr; have hu2:=hu65 hr; have nd:=sc_Pieces___init__.nd
  exact (b_one (s_fld (cl:=cl) rfl T.k_Pieces T.n_Pieces_fives (pl_var 0) (d_call H_five_rows hr (by decide) tk (c_lend (k_var 1) c_nil) (Zp dl_nil))))
theorem sc_number_of:FnScope Zc9 ["thing"] (defScope Zbk):=⟨rfl,rfl,rfl,by decide +kernel,rfl,by decide +kernel,by decide +kernel⟩
theorem Zhx (hK:cl.K = K) (hX:xf = xfG) (T:Tx cl mg) (Fd:FunD K "number_of" "number_of" (defArgs Zbk) (defBody Zbk) (defScope Zbk) [] [] f fd) :FnG P w K mg base (L2.CX P w) 1 f fd ["thing"] (spF cl xf 1 Zv):=by
  subst hK; subst hX
  refine fn_ok (N:=Zc9) (ws:=fun _=>false) (ds:=Zb0) (io:=[false]) Fd sc_number_of rfl (by decide) (fun _ _=>rfl) fun cdv A outer s H E hr=>?_
  have tk:=takes_of (X:=cxOf (L2.CX P w) P w cl.K mg base Zc9 "number_of" (defScope Zbk) f cdv A outer s H E) (E:=E) rfl rfl rfl rfl
  have hu:=huG hr; have hu2:=hu65 hr; have nd:=sc_number_of.nd
  exact (b_cons (s_if (t_w (w_or (t_not (t_v (d_n (b1n (o_isi (T:="str") T.f_isinstance T.f_str (by decide +kernel))) (g_isi (by decide)).n (n_k (k_var 0) n_nil)))) (w_or1 (t_not (t_ch op_le op_le p_le p_le (d_p k_int) (d_n (b1n (o_len (cl:=cl) rfl T.f_len)) g_len.n (n_k (k_var 0) n_nil)) (d_p (Zcw (pa:=0) T.c_MOST_FIGURES))))))) (b_one (s_ret (d_p k_non))) b_nil) (b_cons (s_if (t_w (w_or (t_not (t_v (d_n (b1n (o_all T.f_all)) g_all.n (n_v (d_lcP (own:=[("sign",1)]) (i_anyP (cl:=cl) rfl (k_var 0)) (blkOk_by (own:=[("sign",1)]) (N:=Zc9) (sc:=defScope Zbk) (by decide +kernel)) (ZV (by simp)) (uni_g fun _ _ _ _ _=>g_name 1 nd (by rfl)) uni_y (uni_e fun _ _ _ _ _=>(d_n (b2n (o_cmp (opk_in (cl:=cl) rfl hu2) rfl)) na_in.n (n_k (k_var 1) (n_k (Zcw (pa:=0) T.c_FIGURES) n_nil)))) nd) n_nil)))) (w_or1 (t_w (w_and (t_n (c_cmp (op_eqD hr.units) (nomark _)) g_eq.n (n_k (k_op (o_ix (cl:=cl) rfl hu (fun _ _=>rfl)) pop_ix (k_var 0) k_int) (n_k k_str n_nil))) (w_and1 (t_n (c_cmp (op_neD hr.units) (nomark _)) g_ne.n (n_k (k_var 0) (n_k k_str n_nil))))))))) (b_one (s_ret (d_p k_non))) b_nil) (b_one (s_ret (d_n (b1n (o_int T.f_int)) g_int.n (n_k (k_var 0) n_nil))))))
theorem sc_row_of:FnScope Zft ["line"] (defScope Zcj):=⟨rfl,rfl,rfl,by decide +kernel,rfl,by decide +kernel,by decide +kernel⟩
theorem Zlk (hK:cl.K = K) (hX:xf = xfG) (T:Tx cl mg) (Fd:FunD K "row_of" "row_of" (defArgs Zcj) (defBody Zcj) (defScope Zcj) [] [] f fd) (H_is_name:Fn cl xf P w K mg base "is_name" 1 1 Zx) (H_number_of:Fn cl xf P w K mg base "number_of" 1 1 Zv):FnG P w K mg base (L2.CX P w) 2 f fd ["line"] (spF cl xf 1 ZM):=by
  subst hK; subst hX
  refine fn_ok (N:=Zft) (ws:=fun i=>[1,2].contains i) (ds:=ZcJ) (io:=[false]) Fd sc_row_of rfl (by decide) (ioOk (by decide)) fun cdv A outer s H E hr=>?_
  have tk:=takes_of (X:=cxOf (L2.CX P w) P w cl.K mg base Zft "row_of" (defScope Zcj) f cdv A outer s H E) (E:=E) rfl rfl rfl rfl
  have hu:=huG hr; have hu2:=hu65 hr; have nd:=sc_row_of.nd
  exact (b_cons (s_set 1 (d_m (bm_1 (cl:=cl) rfl PySem.F.plainAttrs_str PySem.F.slot_str_split PySem.F.type_str_split (mt_split (X:=_))) na_split.n (rt_k (k_var 0)) (n_k k_str n_nil)) nd) (b_cons (s_if (t_w (w_or (t_not (t_ch op_le op_le p_le p_le (d_p k_int) (d_n (b1n (o_len (cl:=cl) rfl T.f_len)) g_len.n (n_k (k_var 1) n_nil)) (d_p k_int))) (w_or1 (t_not (t_v (d_call H_is_name hr (by decide) tk (c_lend (k_op (o_ix (cl:=cl) rfl hu (fun _ _=>rfl)) pop_ix (k_var 1) k_int) c_nil) (Zp dl_nil))))))) (b_one (s_ret (d_p k_non))) b_nil) (b_cons (s_lcP 2 (own:=[("word",3)]) (i_anyD (cl:=cl) rfl (d_sl (cl:=cl) rfl (rb_k (k_var 1)) (ro_k k_int) ZT)) (blkOk_by (own:=[("word",3)]) (N:=Zft) (sc:=defScope Zcj) (by decide +kernel)) (ZV (by simp)) (uni_g fun _ _ _ _ _=>g_name 3 nd (by rfl)) uni_y (uni_e fun _ _ _ _ _=>(d_call H_number_of hr (by decide) takes0 (c_lend (k_var 3) c_nil) (Zp dl_nil))) nd (sw_true rfl rfl rfl (by decide +kernel))) (b_cons (s_if (t_n (c_cmp (opk_in (cl:=cl) rfl hu2) rfl) na_in.n (n_k k_non (n_k (k_var 2) n_nil))) (b_one (s_ret (d_p k_non))) b_nil) (b_one (s_ret (d_n (bn_tup (cl:=cl) rfl T.f_tuple) na_tup.n (n_v (d_n (b2n (o_addB (cl:=cl) rfl)) na_add.n (n_v (d_sl (cl:=cl) rfl (rb_k (k_var 1)) ZT (ro_k k_int)) (n_k (k_var 2) n_nil))) n_nil))))))))
theorem sc_read_pieces:FnScope Zcl ["text"] (defScope ZX):=⟨rfl,rfl,rfl,by decide +kernel,rfl,by decide +kernel,by decide +kernel⟩
theorem Zgd (hK:cl.K = K) (hX:xf = xfG) (T:Tx cl mg) (Fd:FunD K "read_pieces" "read_pieces" (defArgs ZX) (defBody ZX) (defScope ZX) [] [] f fd) (H_row_of:Fn cl xf P w K mg base "row_of" 2 1 ZM) (K_Pieces:Kc cl xf P w K mg base "Pieces" 20 6 2 Ze) (X_BadText:Xc cl xf P w K mg base "BadText" 2 1):FnG P w K mg base (L2.CX P w) 8 f fd ["text"] (spF cl xf 1 Zh):=by
  subst hK; subst hX
  refine fn_ok (N:=Zcl) (ws:=fun i=>[1,3,4,5,6].contains i) (ds:=ZL) (io:=[false]) Fd sc_read_pieces rfl (by decide) (ioOk (by decide)) fun cdv A outer s H E hr=>?_
  have tk:=takes_of (X:=cxOf (L2.CX P w) P w cl.K mg base Zcl "read_pieces" (defScope ZX) f cdv A outer s H E) (E:=E) rfl rfl rfl rfl
  have hu:=huG hr; have hu2:=hu65 hr; have nd:=sc_read_pieces.nd
  exact (b_cons (s_if (t_not (t_v (d_n (b1n (o_isi (T:="str") T.f_isinstance T.f_str (by decide +kernel))) (g_isi (by decide)).n (n_k (k_var 0) n_nil)))) (b_one (Ze1 X_BadText rfl hr (by decide) tk (a_cons (d_p k_int) (a_cons (d_p k_str) a_nil)))) b_nil) (b_cons (s_set 1 (d_lst a_nil) nd) (b_cons (s_if (t_n (c_cmp (op_neD hr.units) (nomark _)) g_ne.n (n_k (k_var 0) (n_k k_str n_nil))) (b_one (s_lcP 1 (own:=[("line",2)]) (i_anyD (cl:=cl) rfl (d_m (bm_1 (cl:=cl) rfl PySem.F.plainAttrs_str PySem.F.slot_str_split PySem.F.type_str_split (mt_split (X:=_))) na_split.n (rt_k (k_var 0)) (n_k k_str n_nil))) (blkOk_by (own:=[("line",2)]) (N:=Zcl) (sc:=defScope ZX) (by decide +kernel)) (ZV (by simp)) (uni_g fun _ _ _ _ _=>g_name 2 nd (by rfl)) uni_y (uni_e fun _ _ _ _ _=>(d_call H_row_of hr (by decide) takes0 (c_lend (k_var 2) c_nil) (Zp dl_nil))) nd (sw_true rfl rfl rfl (by decide +kernel)))) b_nil) (b_cons (s_if (t_n (c_cmp (opk_in (cl:=cl) rfl hu2) rfl) na_in.n (n_k k_non (n_k (k_var 1) n_nil))) (b_one (Ze1 X_BadText rfl hr (by decide) tk (a_cons (d_m (bm_1 (cl:=cl) rfl PySem.F.plainAttrs_list PySem.F.slot_list_index PySem.F.type_list_index (mt_indexX hu2 (X:=_))) na_indexX.n (rt_k (k_var 1)) (n_k k_non n_nil)) (a_cons (d_p k_str) a_nil)))) b_nil) (b_cons (s_set 3 (d_p k_non) nd) (b_cons (s_set 4 (d_p k_int) nd) (b_cons (s_set 5 (d_p k_str) nd) (b_cons (s_try (n:=(fun c=>[1].contains c)) rfl tk nd (fun W' pn xe tk po=>(b_one (s_set 3 (d_mk K_Pieces hr (by decide) tk (c_lend (k_var 1) c_nil) (Zp dl_nil)) nd))) (.cons (hc_as (k:=6) (m:=(fun c=>[1].contains c)) ⟨rfl,by decide,.inl T.g_BadPieces⟩ rfl rfl rfl (ZfT T.ex_BadPieces_BadPieces is_nil) (fun a oe cls d pn hz hd=>(Zm1 (qs_set 4 (qe_p (qk_fld 6 1 0 T.xf_BadPieces T.xn_BadPieces_at hz hd (one_of (by decide)))) nd) (Zik (qs_set 5 (qe_p (qk_fld 6 1 1 T.xf_BadPieces T.xn_BadPieces_why hz hd (one_of (by decide)))) nd))))) Hcs.nil)) (b_cons (s_if (t_isNn (n_k (k_var 3) n_nil)) (b_one (Ze1 X_BadText rfl hr (by decide) tk (a_cons (d_p (k_var 4)) (a_cons (d_p (k_var 5)) a_nil)))) b_nil) (b_one (s_ret (d_mv 3))))))))))))
theorem sc_Pieces_told:FnScope Zdd ["self"] (defScope Z9):=⟨rfl,rfl,rfl,by decide +kernel,rfl,by decide +kernel,by decide +kernel⟩
theorem Zgh (hK:cl.K = K) (hX:xf = xfG) (T:Tx cl mg) (Fd:FunD K "told" "Pieces.told" (defArgs Z9) (defBody Z9) (defScope Z9) [] [] f fd) :FnG P w K mg base (L2.CX P w) 1 f fd ["self"] (spF cl xf 1 Zb):=by
  subst hK; subst hX
  refine fn_ok (N:=Zdd) (ws:=fun _=>false) (ds:=ZbI) (io:=[false]) Fd sc_Pieces_told rfl (by decide) (fun _ _=>rfl) fun cdv A outer s H E hr=>?_
  have tk:=takes_of (X:=cxOf (L2.CX P w) P w cl.K mg base Zdd "Pieces.told" (defScope Z9) f cdv A outer s H E) (E:=E) rfl rfl rfl rfl
  have hu:=huG hr; have hu2:=hu65 hr; have nd:=sc_Pieces_told.nd
  exact (b_one (s_ret (d_n (ZnH T.f_tuple) na_valsT.n (n_k (k_un o_fld (Zoe T.k_Pieces T.n_Pieces_fives) (k_var 0)) n_nil))))
theorem sc_line_of:FnScope ZeE ["row"] (defScope ZbS):=⟨rfl,rfl,rfl,by decide +kernel,rfl,by decide +kernel,by decide +kernel⟩
theorem Zkf (hK:cl.K = K) (hX:xf = xfG) (T:Tx cl mg) (Fd:FunD K "line_of" "line_of" (defArgs ZbS) (defBody ZbS) (defScope ZbS) [] [] f fd) :FnG P w K mg base (L2.CX P w) 1 f fd ["row"] (spF cl xf 1 ZbB):=by
  subst hK; subst hX
  refine fn_ok (N:=ZeE) (ws:=fun i=>[1].contains i) (ds:=Zcy) (io:=[false]) Fd sc_line_of rfl (by decide) (ioOk (by decide)) fun cdv A outer s H E hr=>?_
  have tk:=takes_of (X:=cxOf (L2.CX P w) P w cl.K mg base ZeE "line_of" (defScope ZbS) f cdv A outer s H E) (E:=E) rfl rfl rfl rfl
  have hu:=huG hr; have hu2:=hu65 hr; have nd:=sc_line_of.nd
  exact (b_cons (s_set 1 (d_p (k_var 0)) nd) (b_cons (s_if (t_n (c_cmp (op_eqD hr.units) (nomark _)) g_eq.n (n_k (k_op (o_ix (cl:=cl) rfl hu (fun _ _=>rfl)) pop_ix (k_var 0) k_int) (n_k (k_op (o_ix (cl:=cl) rfl hu (fun _ _=>rfl)) pop_ix (k_var 0) k_int) n_nil))) (b_one (s_set 1 (d_sl (cl:=cl) rfl (rb_k (k_var 0)) ZT (ro_k k_int)) nd)) b_nil) (b_one (s_ret (d_n (b1n o_join) g_join.n (n_v (d_lcP (own:=[("thing",2)]) (i_anyP (cl:=cl) rfl (k_var 1)) (blkOk_by (own:=[("thing",2)]) (N:=ZeE) (sc:=defScope ZbS) (by decide +kernel)) (ZV (by simp)) (uni_g fun _ _ _ _ _=>g_name 2 nd (by rfl)) uni_y (uni_e fun _ _ _ _ _=>(d_n (bn_str T.f_str) na_str.n (n_k (k_var 2) n_nil))) nd) n_nil))))))
theorem sc_show_pieces:FnScope Zck ["pieces"] (defScope ZW):=⟨rfl,rfl,rfl,by decide +kernel,rfl,by decide +kernel,by decide +kernel⟩
theorem Zgc (hK:cl.K = K) (hX:xf = xfG) (T:Tx cl mg) (Fd:FunD K "show_pieces" "show_pieces" (defArgs ZW) (defBody ZW) (defScope ZW) [] [] f fd) (H_line_of:Fn cl xf P w K mg base "line_of" 1 1 ZbB) (M_Pieces_told:Mt cl xf P w K mg base 20 "told" 1 1 Zb):FnG P w K mg base (L2.CX P w) 2 f fd ["pieces"] (spF cl xf 1 Zm):=by
  subst hK; subst hX
  refine fn_ok (N:=Zck) (ws:=fun _=>false) (ds:=ZbN) (io:=[false]) Fd sc_show_pieces rfl (by decide) (fun _ _=>rfl) fun cdv A outer s H E hr=>?_
  have tk:=takes_of (X:=cxOf (L2.CX P w) P w cl.K mg base Zck "show_pieces" (defScope ZW) f cdv A outer s H E) (E:=E) rfl rfl rfl rfl
  have hu:=huG hr; have hu2:=hu65 hr; have nd:=sc_show_pieces.nd
  exact (b_one (s_ret (d_n (b1n o_join) g_join.n (n_v (d_lcP (own:=[("row",1)]) (i_anyD (cl:=cl) rfl (Zg2 M_Pieces_told hr (by decide) tk (k_var 0) (Zp dl_nil))) (blkOk_by (own:=[("row",1)]) (N:=Zck) (sc:=defScope ZW) (by decide +kernel)) (ZV (by simp)) (uni_g fun _ _ _ _ _=>g_name 1 nd (by rfl)) uni_y (uni_e fun _ _ _ _ _=>(d_call H_line_of hr (by decide) takes0 (c_lend (k_var 1) c_nil) (Zp dl_nil))) nd) n_nil))))
theorem sc__law_answer:FnScope Zdc ["_law_thing_here"] (defScope Z8):=⟨rfl,rfl,rfl,by decide +kernel,rfl,by decide +kernel,by decide +kernel⟩
theorem Zgg (hK:cl.K = K) (hX:xf = xfG) (T:Tx cl mg) (Fd:FunD K "_law_answer" "_law_answer" (defArgs Z8) (defBody Z8) (defScope Z8) [] [] f fd) (H_read_pieces:Fn cl xf P w K mg base "read_pieces" 8 1 Zh) (H_show_pieces:Fn cl xf P w K mg base "show_pieces" 2 1 Zm) (M_Pieces_told:Mt cl xf P w K mg base 20 "told" 1 1 Zb):FnG P w K mg base (L2.CX P w) 9 f fd ["_law_thing_here"] (spF cl xf 1 ZK):=by
  subst hK; subst hX
  refine fn_ok (N:=Zdc) (ws:=fun i=>[1,2,3].contains i) (ds:=Zce) (io:=[false]) Fd sc__law_answer rfl (by decide) (ioOk (by decide)) fun cdv A outer s H E hr=>?_
  have tk:=takes_of (X:=cxOf (L2.CX P w) P w cl.K mg base Zdc "_law_answer" (defScope Z8) f cdv A outer s H E) (E:=E) rfl rfl rfl rfl
  have hu:=huG hr; have hu2:=hu65 hr; have nd:=sc__law_answer.nd
  exact (b_cons (s_set 1 (d_p k_non) nd) (b_cons (s_try (n:=(fun c=>[1,2].contains c)) rfl tk nd (fun W' pn xe tk po=>(b_cons (s_set 2 (d_call H_read_pieces hr (by decide) tk (c_lend (k_var 0) c_nil) (Zp dl_nil)) nd) (b_cons (s_set 1 (d_tup (a_cons (d_p k_str) (a_cons (Zg2 M_Pieces_told hr (by decide) tk (k_var 2) (Zp dl_nil)) a_nil))) nd) (b_one (s_if (t_n (c_cmp (op_neX hr.units) (nomark _)) g_neX.n (n_v (ZnE M_Pieces_told hr (by decide) tk (d_call H_read_pieces hr (by decide) tk (c_val (d_call H_show_pieces hr (by decide) tk (c_lend (k_var 2) c_nil) (Zp dl_nil)) c_nil) (Zec dl_nil)) (Zec dl_nil)) (n_v (Zg2 M_Pieces_told hr (by decide) tk (k_var 2) (Zp dl_nil)) n_nil))) (b_one (s_set 1 (d_p k_str) nd)) b_nil))))) (.cons (hc_as (k:=3) (m:=(fun c=>[2].contains c)) ⟨rfl,by decide,.inl T.g_BadText⟩ rfl rfl rfl (ZfT T.ex_BadPieces_BadText (ZfT T.ex_BadText_BadText is_nil)) (fun a oe cls d pn hz hd=>(Zik (qs_set 1 (qe_tup (Zil (qk_of k_str) (Zil (qk_fld 3 2 0 T.xf_BadText T.xn_BadText_at hz hd (one_of (by decide))) (Zil (qk_fld 3 2 1 T.xf_BadText T.xn_BadText_why hz hd (one_of (by decide))) ql_nil)))) nd)))) (.cons (ZoY (m:=(fun c=>[1,2].contains c)) ⟨rfl,by decide,.inl T.g_SlackError⟩ (ZfT T.ex_BadPieces_SlackError (ZfT T.ex_BadText_SlackError is_nil)) (fun a oe cls d pn hz hd=>(Zik (qs_set 1 (qe_p (qk_of k_str)) nd)))) Hcs.nil))) (b_one (s_ret (d_mv 1)))))
theorem sc__law_whole:FnScope ZdH ["_law_thing_here"] (defScope Zbg):=⟨rfl,rfl,rfl,by decide +kernel,rfl,by decide +kernel,by decide +kernel⟩
theorem ZgI (hK:cl.K = K) (hX:xf = xfG) (T:Tx cl mg) (Fd:FunD K "_law_whole" "_law_whole" (defArgs Zbg) (defBody Zbg) (defScope Zbg) [] [] f fd) :FnG P w K mg base (L2.CX P w) 1 f fd ["_law_thing_here"] (spF cl xf 1 Zq):=by
  subst hK; subst hX
  refine fn_ok (N:=ZdH) (ws:=fun _=>false) (ds:=Z5) (io:=[false]) Fd sc__law_whole rfl (by decide) (fun _ _=>rfl) fun cdv A outer s H E hr=>?_
  have tk:=takes_of (X:=cxOf (L2.CX P w) P w cl.K mg base ZdH "_law_whole" (defScope Zbg) f cdv A outer s H E) (E:=E) rfl rfl rfl rfl
  have hu:=huG hr; have hu2:=hu65 hr; have nd:=sc__law_whole.nd
  exact (b_one (s_ret (d_and (d_n (b1n (o_isi (T:="int") T.f_isinstance T.f_int (by decide +kernel))) (g_isi (by decide)).n (n_k (k_var 0) n_nil)) (d_one (d_not (d_n (b1n (o_isi (T:="bool") T.f_isinstance T.f_bool (by decide +kernel))) (g_isi (by decide)).n (n_k (k_var 0) n_nil)))))))
theorem sc__law_row_fault:FnScope ZbK ["_law_known","_law_row_here"] (defScope ZC):=⟨rfl,rfl,rfl,by decide +kernel,rfl,by decide +kernel,by decide +kernel⟩
theorem Ze5 (hK:cl.K = K) (hX:xf = xfG) (T:Tx cl mg) (Fd:FunD K "_law_row_fault" "_law_row_fault" (defArgs ZC) (defBody ZC) (defScope ZC) [] [] f fd) (H__law_whole:Fn cl xf P w K mg base "_law_whole" 1 1 Zq):FnG P w K mg base (L2.CX P w) 2 f fd ["_law_known","_law_row_here"] (spF cl xf 2 Zr):=by
  subst hK; subst hX
  refine fn_ok (N:=ZbK) (ws:=fun i=>[2].contains i) (ds:=Zi) (io:=[false,false]) Fd sc__law_row_fault rfl (by decide) (ioOk (by decide)) fun cdv A outer s H E hr=>?_
  have tk:=takes_of (X:=cxOf (L2.CX P w) P w cl.K mg base ZbK "_law_row_fault" (defScope ZC) f cdv A outer s H E) (E:=E) rfl rfl rfl rfl
  have hu:=huG hr; have hu2:=hu65 hr; have nd:=sc__law_row_fault.nd
  exact (b_cons (s_if (t_w (w_or (t_not (t_v (d_n (b1n (o_isi (T:="tuple") T.f_isinstance T.f_tuple (by decide +kernel))) (g_isi (by decide)).n (n_k (k_var 1) n_nil)))) (w_or1 (t_n (c_cmp (ZcP (cl:=cl) rfl hu2) rfl) na_notin.n (n_v (d_n (b1n (o_len (cl:=cl) rfl T.f_len)) g_len.n (n_k (k_var 1) n_nil)) (n_v (d_tup (a_cons (d_p k_int) (a_cons (d_p k_int) a_nil))) n_nil)))))) (b_one (s_ret (d_p k_str))) b_nil) (b_cons (s_set 2 (d_p k_str) nd) (b_cons (s_if (t_w (w_or (t_not (t_v (d_n (b1n (o_isi (T:="str") T.f_isinstance T.f_str (by decide +kernel))) (g_isi (by decide)).n (n_k (k_op (o_ix (cl:=cl) rfl hu (fun _ _=>rfl)) pop_ix (k_var 1) k_int) n_nil)))) (w_or (t_not (t_ch op_le op_le p_le p_le (d_p k_int) (d_n (b1n (o_len (cl:=cl) rfl T.f_len)) g_len.n (n_k (k_op (o_ix (cl:=cl) rfl hu (fun _ _=>rfl)) pop_ix (k_var 1) k_int) n_nil)) (d_p k_int))) (w_or1 (t_n (c_cmp (ZcP (cl:=cl) rfl hu2) rfl) na_notin.n (n_k (k_op (o_ix (cl:=cl) rfl hu (fun _ _=>rfl)) pop_ix (k_op (o_ix (cl:=cl) rfl hu (fun _ _=>rfl)) pop_ix (k_var 1) k_int) k_int) (n_k (k_var 2) n_nil))))))) (b_one (s_ret (d_p k_str))) b_nil) (b_cons (s_if (t_n (c_cmp (op_neD hr.units) (nomark _)) g_ne.n (n_v (d_lcP (own:=[("_law_sign",3)]) (i_anyP (cl:=cl) rfl (k_op (o_ix (cl:=cl) rfl hu (fun _ _=>rfl)) pop_ix (k_var 1) k_int)) (blkOk_by (own:=[("_law_sign",3)]) (N:=ZbK) (sc:=defScope ZC) (by decide +kernel)) (ZV (by simp)) (uni_g fun _ _ _ _ _=>g_name 3 nd (by rfl)) (uni_t fun _ _ _ _ _=>(t_n (c_cmp (ZcP (cl:=cl) rfl hu2) rfl) na_notin.n (n_k (k_var 3) (n_v (d_n (b2n (o_addB (cl:=cl) rfl)) na_add.n (n_k (k_var 2) (n_k k_str n_nil))) n_nil)))) (uni_e fun _ _ _ _ _=>(d_p (k_var 3))) nd) (n_v (d_lst a_nil) n_nil))) (b_one (s_ret (d_p k_str))) b_nil) (b_cons (s_if (t_n (c_cmp (opk_in (cl:=cl) rfl hu2) rfl) na_in.n (n_k (k_op (o_ix (cl:=cl) rfl hu (fun _ _=>rfl)) pop_ix (k_var 1) k_int) (n_k (k_var 0) n_nil))) (b_one (s_ret (d_p k_str))) b_nil) (b_cons (s_if (t_w (w_or (t_not (t_v (d_call H__law_whole hr (by decide) tk (c_lend (k_op (o_ix (cl:=cl) rfl hu (fun _ _=>rfl)) pop_ix (k_var 1) k_int) c_nil) (Zp dl_nil)))) (w_or1 (t_not (t_ch op_le op_le p_le p_le (d_p k_int) (d_p (k_op (o_ix (cl:=cl) rfl hu (fun _ _=>rfl)) pop_ix (k_var 1) k_int)) (d_p k_int)))))) (b_one (s_ret (d_p k_str))) b_nil) (b_cons (s_if (t_w (w_or (t_not (t_v (d_call H__law_whole hr (by decide) tk (c_lend (k_op (o_ix (cl:=cl) rfl hu (fun _ _=>rfl)) pop_ix (k_var 1) k_int) c_nil) (Zp dl_nil)))) (w_or1 (t_not (t_ch op_le op_le p_le p_le (d_n (b2n (o_max T.f_max)) g_max.n (n_k k_int (n_v (d_n (b2n o_sub) g_sub.n (n_k (k_op (o_ix (cl:=cl) rfl hu (fun _ _=>rfl)) pop_ix (k_var 1) k_int) (n_k k_int n_nil))) n_nil))) (d_p (k_op (o_ix (cl:=cl) rfl hu (fun _ _=>rfl)) pop_ix (k_var 1) k_int)) (d_p k_int)))))) (b_one (s_ret (d_p k_str))) b_nil) (b_cons (s_if (t_w (w_or (t_not (t_v (d_call H__law_whole hr (by decide) tk (c_lend (k_op (o_ix (cl:=cl) rfl hu (fun _ _=>rfl)) pop_ix (k_var 1) k_int) c_nil) (Zp dl_nil)))) (w_or1 (t_not (t_ch op_le op_le p_le p_le (d_p k_int) (d_p (k_op (o_ix (cl:=cl) rfl hu (fun _ _=>rfl)) pop_ix (k_var 1) k_int)) (d_p k_int)))))) (b_one (s_ret (d_p k_str))) b_nil) (b_cons (s_if (t_w (w_and (t_n (c_cmp (op_eqD hr.units) (nomark _)) g_eq.n (n_v (d_n (b1n (o_len (cl:=cl) rfl T.f_len)) g_len.n (n_k (k_var 1) n_nil)) (n_k k_int n_nil))) (w_and1 (t_w (w_or (t_not (t_v (d_call H__law_whole hr (by decide) tk (c_lend (k_op (o_ix (cl:=cl) rfl hu (fun _ _=>rfl)) pop_ix (k_var 1) k_int) c_nil) (Zp dl_nil)))) (w_or1 (t_not (t_ch op_le op_le p_le p_le (d_p k_int) (d_p (k_op (o_ix (cl:=cl) rfl hu (fun _ _=>rfl)) pop_ix (k_var 1) k_int)) (d_p (k_op (o_ix (cl:=cl) rfl hu (fun _ _=>rfl)) pop_ix (k_var 1) k_int)))))))))) (b_one (s_ret (d_p k_str))) b_nil) (b_one (s_ret (d_p k_str))))))))))))
theorem sc__law_fault:FnScope ZdJ ["_law_thing_here"] (defScope Zbi):=⟨rfl,rfl,rfl,by decide +kernel,rfl,by decide +kernel,by decide +kernel⟩
theorem ZgL (hK:cl.K = K) (hX:xf = xfG) (T:Tx cl mg) (Fd:FunD K "_law_fault" "_law_fault" (defArgs Zbi) (defBody Zbi) (defScope Zbi) [] [] f fd) (H__law_row_fault:Fn cl xf P w K mg base "_law_row_fault" 2 2 Zr):FnG P w K mg base (L2.CX P w) 3 f fd ["_law_thing_here"] (spF cl xf 1 ZN):=by
  subst hK; subst hX
  refine fn_ok (N:=ZdJ) (ws:=fun i=>[1,2,3,4].contains i) (ds:=Zbn) (io:=[false]) Fd sc__law_fault rfl (by decide) (ioOk (by decide)) fun cdv A outer s H E hr=>?_
  have tk:=takes_of (X:=cxOf (L2.CX P w) P w cl.K mg base ZdJ "_law_fault" (defScope Zbi) f cdv A outer s H E) (E:=E) rfl rfl rfl rfl
  have hu:=huG hr; have hu2:=hu65 hr; have nd:=sc__law_fault.nd
  exact (b_cons (s_if (t_not (t_v (d_n (o_isiT (cl:=cl) (t1:="list") (t2:="tuple") rfl T.f_isinstance T.f_list T.f_tuple (by decide +kernel) (by decide +kernel)) (Zlo (by decide) (by decide)) (n_k (k_var 0) n_nil)))) (b_one (s_ret (d_tup (a_cons (d_p k_non) (a_cons (d_p k_str) a_nil))))) b_nil) (b_cons (s_if (t_n (c_cmp op_gt (nomark _)) g_gt.n (n_v (d_n (b1n (o_len (cl:=cl) rfl T.f_len)) g_len.n (n_k (k_var 0) n_nil)) (n_k k_int n_nil))) (b_one (s_ret (d_tup (a_cons (d_p k_int) (a_cons (d_p k_str) a_nil))))) b_nil) (b_cons (s_set 1 (d_lst a_nil) nd) (b_cons (s_for (i_enP (cl:=cl) rfl T.f_enumerate (k_var 0)) (g_tup (ZgY (g_name 2 nd) (ZgY (g_name 3 nd) gs_nil))) (b_cons (s_set 4 (d_call H__law_row_fault hr (by decide) tk (c_lend (k_var 1) (c_lend (k_var 3) c_nil)) (Zp (Zp dl_nil))) nd) (b_cons (s_if (t_n (c_cmp (op_neD hr.units) (nomark _)) g_ne.n (n_k (k_var 4) (n_k k_str n_nil))) (b_one (s_ret (d_tup (a_cons (d_p (k_var 2)) (a_cons (d_p (k_var 4)) a_nil))))) b_nil) (b_one (s_expr (d_app 1 (d_p (k_op (o_ix (cl:=cl) rfl hu (fun _ _=>rfl)) pop_ix (k_var 3) k_int)) (hq:=fun _ h=>pe_bm PySem.F.plainAttrs_list PySem.F.slot_list_append PySem.F.type_list_append mt_append (pv 1) (pa_cons h pa_nil))))))) (passes_of rfl)) (b_one (s_ret (d_p k_non)))))))
theorem sc__law_number:FnScope Zcm ["_law_word"] (defScope ZY):=⟨rfl,rfl,rfl,by decide +kernel,rfl,by decide +kernel,by decide +kernel⟩
theorem Zgf (hK:cl.K = K) (hX:xf = xfG) (T:Tx cl mg) (Fd:FunD K "_law_number" "_law_number" (defArgs ZY) (defBody ZY) (defScope ZY) [] [] f fd) :FnG P w K mg base (L2.CX P w) 1 f fd ["_law_word"] (spF cl xf 1 Zbd):=by
  subst hK; subst hX
  refine fn_ok (N:=Zcm) (ws:=fun _=>false) (ds:=ZcK) (io:=[false]) Fd sc__law_number rfl (by decide) (fun _ _=>rfl) fun cdv A outer s H E hr=>?_
  have tk:=takes_of (X:=cxOf (L2.CX P w) P w cl.K mg base Zcm "_law_number" (defScope ZY) f cdv A outer s H E) (E:=E) rfl rfl rfl rfl
  have hu:=huG hr; have hu2:=hu65 hr; have nd:=sc__law_number.nd
  exact (b_cons (s_if (t_w (w_or (t_n (c_cmp op_lt (nomark _)) g_lt.n (n_v (d_n (b1n (o_len (cl:=cl) rfl T.f_len)) g_len.n (n_k (k_var 0) n_nil)) (n_k k_int n_nil))) (w_or (t_n (c_cmp op_gt (nomark _)) g_gt.n (n_v (d_n (b1n (o_len (cl:=cl) rfl T.f_len)) g_len.n (n_k (k_var 0) n_nil)) (n_k k_int n_nil))) (w_or1 (t_n (c_cmp (op_neD hr.units) (nomark _)) g_ne.n (n_v (d_lcP (own:=[("_law_sign",1)]) (i_anyP (cl:=cl) rfl (k_var 0)) (blkOk_by (own:=[("_law_sign",1)]) (N:=Zcm) (sc:=defScope ZY) (by decide +kernel)) (ZV (by simp)) (uni_g fun _ _ _ _ _=>g_name 1 nd (by rfl)) (uni_t fun _ _ _ _ _=>(t_n (c_cmp (ZcP (cl:=cl) rfl hu2) rfl) na_notin.n (n_k (k_var 1) (n_k k_str n_nil)))) (uni_e fun _ _ _ _ _=>(d_p (k_var 1))) nd) (n_v (d_lst a_nil) n_nil))))))) (b_one (s_ret (d_p k_non))) b_nil) (b_cons (s_if (t_w (w_and (t_n (c_cmp (op_eqD hr.units) (nomark _)) g_eq.n (n_k (k_op (o_ix (cl:=cl) rfl hu (fun _ _=>rfl)) pop_ix (k_var 0) k_int) (n_k k_str n_nil))) (w_and1 (t_n (c_cmp (op_neD hr.units) (nomark _)) g_ne.n (n_k (k_var 0) (n_k k_str n_nil)))))) (b_one (s_ret (d_p k_non))) b_nil) (b_one (s_ret (d_n (b1n (o_int T.f_int)) g_int.n (n_k (k_var 0) n_nil))))))
theorem sc__law_row:FnScope ZdU ["_law_line_here"] (defScope ZbF):=⟨rfl,rfl,rfl,by decide +kernel,rfl,by decide +kernel,by decide +kernel⟩
theorem Zio (hK:cl.K = K) (hX:xf = xfG) (T:Tx cl mg) (Fd:FunD K "_law_row" "_law_row" (defArgs ZbF) (defBody ZbF) (defScope ZbF) [] [] f fd) (H__law_row_fault:Fn cl xf P w K mg base "_law_row_fault" 2 2 Zr) (H__law_number:Fn cl xf P w K mg base "_law_number" 1 1 Zbd):FnG P w K mg base (L2.CX P w) 3 f fd ["_law_line_here"] (spF cl xf 1 Zbp):=by
  subst hK; subst hX
  refine fn_ok (N:=ZdU) (ws:=fun i=>[1,2].contains i) (ds:=Zc6) (io:=[false]) Fd sc__law_row rfl (by decide) (ioOk (by decide)) fun cdv A outer s H E hr=>?_
  have tk:=takes_of (X:=cxOf (L2.CX P w) P w cl.K mg base ZdU "_law_row" (defScope ZbF) f cdv A outer s H E) (E:=E) rfl rfl rfl rfl
  have hu:=huG hr; have hu2:=hu65 hr; have nd:=sc__law_row.nd
  exact (b_cons (s_set 1 (d_m (bm_1 (cl:=cl) rfl PySem.F.plainAttrs_str PySem.F.slot_str_split PySem.F.type_str_split (mt_split (X:=_))) na_split.n (rt_k (k_var 0)) (n_k k_str n_nil)) nd) (b_cons (s_if (t_w (w_or (t_n (c_cmp (ZcP (cl:=cl) rfl hu2) rfl) na_notin.n (n_v (d_n (b1n (o_len (cl:=cl) rfl T.f_len)) g_len.n (n_k (k_var 1) n_nil)) (n_v (d_tup (a_cons (d_p k_int) (a_cons (d_p k_int) a_nil))) n_nil))) (w_or1 (t_n (c_cmp (op_neD hr.units) (nomark _)) g_ne.n (n_v (d_call H__law_row_fault hr (by decide) tk (c_val (d_lst a_nil) (c_val (d_tup (a_cons (d_p (k_op (o_ix (cl:=cl) rfl hu (fun _ _=>rfl)) pop_ix (k_var 1) k_int)) (a_cons (d_p k_int) (a_cons (d_p k_int) (a_cons (d_p k_int) a_nil))))) c_nil)) (Zec (Zec dl_nil))) (n_k k_str n_nil)))))) (b_one (s_ret (d_p k_non))) b_nil) (b_cons (s_lcP 2 (own:=[("_law_word",3)]) (i_anyD (cl:=cl) rfl (d_sl (cl:=cl) rfl (rb_k (k_var 1)) (ro_k k_int) ZT)) (blkOk_by (own:=[("_law_word",3)]) (N:=ZdU) (sc:=defScope ZbF) (by decide +kernel)) (ZV (by simp)) (uni_g fun _ _ _ _ _=>g_name 3 nd (by rfl)) uni_y (uni_e fun _ _ _ _ _=>(d_call H__law_number hr (by decide) takes0 (c_lend (k_var 3) c_nil) (Zp dl_nil))) nd (sw_true rfl rfl rfl (by decide +kernel))) (b_cons (s_if (t_n (c_cmp (opk_in (cl:=cl) rfl hu2) rfl) na_in.n (n_k k_non (n_k (k_var 2) n_nil))) (b_one (s_ret (d_p k_non))) b_nil) (b_one (s_ret (d_n (bn_tup (cl:=cl) rfl T.f_tuple) na_tup.n (n_v (d_n (b2n (o_addB (cl:=cl) rfl)) na_add.n (n_v (d_sl (cl:=cl) rfl (rb_k (k_var 1)) ZT (ro_k k_int)) (n_k (k_var 2) n_nil))) n_nil))))))))
theorem sc__law_due:FnScope ZcT ["_law_thing_here"] (defScope Zbr):=⟨rfl,rfl,rfl,by decide +kernel,rfl,by decide +kernel,by decide +kernel⟩
theorem Zip (hK:cl.K = K) (hX:xf = xfG) (T:Tx cl mg) (Fd:FunD K "_law_due" "_law_due" (defArgs Zbr) (defBody Zbr) (defScope Zbr) [] [] f fd) (H__law_row:Fn cl xf P w K mg base "_law_row" 3 1 Zbp) (H__law_fault:Fn cl xf P w K mg base "_law_fault" 3 1 ZN):FnG P w K mg base (L2.CX P w) 4 f fd ["_law_thing_here"] (spF cl xf 1 Zw):=by
  subst hK; subst hX
  refine fn_ok (N:=ZcT) (ws:=fun i=>[1,3].contains i) (ds:=ZbV) (io:=[false]) Fd sc__law_due rfl (by decide) (ioOk (by decide)) fun cdv A outer s H E hr=>?_
  have tk:=takes_of (X:=cxOf (L2.CX P w) P w cl.K mg base ZcT "_law_due" (defScope Zbr) f cdv A outer s H E) (E:=E) rfl rfl rfl rfl
  have hu:=huG hr; have hu2:=hu65 hr; have nd:=sc__law_due.nd
  exact (b_cons (s_if (t_not (t_v (d_n (b1n (o_isi (T:="str") T.f_isinstance T.f_str (by decide +kernel))) (g_isi (by decide)).n (n_k (k_var 0) n_nil)))) (b_one (s_ret (d_tup (a_cons (d_p k_str) (a_cons (d_p k_int) (a_cons (d_p k_str) a_nil)))))) b_nil) (b_cons (s_set 1 (d_lst a_nil) nd) (b_cons (s_if (t_n (c_cmp (op_neD hr.units) (nomark _)) g_ne.n (n_k (k_var 0) (n_k k_str n_nil))) (b_one (s_lcP 1 (own:=[("_law_line_here",2)]) (i_anyD (cl:=cl) rfl (d_m (bm_1 (cl:=cl) rfl PySem.F.plainAttrs_str PySem.F.slot_str_split PySem.F.type_str_split (mt_split (X:=_))) na_split.n (rt_k (k_var 0)) (n_k k_str n_nil))) (blkOk_by (own:=[("_law_line_here",2)]) (N:=ZcT) (sc:=defScope Zbr) (by decide +kernel)) (ZV (by simp)) (uni_g fun _ _ _ _ _=>g_name 2 nd (by rfl)) uni_y (uni_e fun _ _ _ _ _=>(d_call H__law_row hr (by decide) takes0 (c_lend (k_var 2) c_nil) (Zp dl_nil))) nd (sw_true rfl rfl rfl (by decide +kernel)))) b_nil) (b_cons (s_if (t_n (c_cmp (opk_in (cl:=cl) rfl hu2) rfl) na_in.n (n_k k_non (n_k (k_var 1) n_nil))) (b_one (s_ret (d_tup (a_cons (d_p k_str) (a_cons (d_m (bm_1 (cl:=cl) rfl PySem.F.plainAttrs_list PySem.F.slot_list_index PySem.F.type_list_index (mt_indexX hu2 (X:=_))) na_indexX.n (rt_k (k_var 1)) (n_k k_non n_nil)) (a_cons (d_p k_str) a_nil)))))) b_nil) (b_cons (s_set 3 (d_call H__law_fault hr (by decide) tk (c_lend (k_var 1) c_nil) (Zp dl_nil)) nd) (b_cons (s_if (Zk3 (n_k (k_var 3) n_nil)) (b_one (s_ret (d_n (b2n (o_addB (cl:=cl) rfl)) na_add.n (n_v (d_tup (a_cons (d_p k_str) a_nil)) (n_k (k_var 3) n_nil))))) b_nil) (b_one (s_ret (d_tup (a_cons (d_p k_str) (a_cons (d_n (bn_tup (cl:=cl) rfl T.f_tuple) na_tup.n (n_v (d_lcP (own:=[("_law_row_here",4)]) (i_anyP (cl:=cl) rfl (k_var 1)) (blkOk_by (own:=[("_law_row_here",4)]) (N:=ZcT) (sc:=defScope Zbr) (by decide +kernel)) (ZV (by simp)) (uni_g fun _ _ _ _ _=>g_name 4 nd (by rfl)) uni_y (uni_e fun _ _ _ _ _=>(d_sl (cl:=cl) rfl (rb_v (d_n (b2n (o_addB (cl:=cl) rfl)) na_add.n (n_k (k_var 4) (n_v (d_sl (cl:=cl) rfl (rb_k (k_var 4)) (ro_k k_int) (ro_k k_int)) n_nil)))) ZT (ro_k k_int))) nd) n_nil)) a_nil)))))))))))
theorem sc__law_line:FnScope Zdb ["_law_row_here","_law_brief"] (defScope Zbl):=⟨rfl,rfl,rfl,by decide +kernel,rfl,by decide +kernel,by decide +kernel⟩
theorem ZhC (hK:cl.K = K) (hX:xf = xfG) (T:Tx cl mg) (Fd:FunD K "_law_line" "_law_line" (defArgs Zbl) (defBody Zbl) (defScope Zbl) [] [] f fd) :FnG P w K mg base (L2.CX P w) 1 f fd ["_law_row_here","_law_brief"] (spF cl xf 2 ZO):=by
  subst hK; subst hX
  refine fn_ok (N:=Zdb) (ws:=fun i=>[2].contains i) (ds:=ZcH) (io:=[false,false]) Fd sc__law_line rfl (by decide) (ioOk (by decide)) fun cdv A outer s H E hr=>?_
  have tk:=takes_of (X:=cxOf (L2.CX P w) P w cl.K mg base Zdb "_law_line" (defScope Zbl) f cdv A outer s H E) (E:=E) rfl rfl rfl rfl
  have hu:=huG hr; have hu2:=hu65 hr; have nd:=sc__law_line.nd
  exact (b_cons (s_set 2 (d_p (k_var 0)) nd) (b_cons (s_if (t_w (w_and (t_v (d_p (k_var 1))) (w_and1 (t_n (c_cmp (op_eqD hr.units) (nomark _)) g_eq.n (n_k (k_op (o_ix (cl:=cl) rfl hu (fun _ _=>rfl)) pop_ix (k_var 0) k_int) (n_k (k_op (o_ix (cl:=cl) rfl hu (fun _ _=>rfl)) pop_ix (k_var 0) k_int) n_nil)))))) (b_one (s_set 2 (d_sl (cl:=cl) rfl (rb_k (k_var 0)) ZT (ro_k k_int)) nd)) b_nil) (b_one (s_ret (d_n (b1n o_join) g_join.n (n_v (d_lcP (own:=[("_law_one",3)]) (i_anyP (cl:=cl) rfl (k_var 2)) (blkOk_by (own:=[("_law_one",3)]) (N:=Zdb) (sc:=defScope Zbl) (by decide +kernel)) (ZV (by simp)) (uni_g fun _ _ _ _ _=>g_name 3 nd (by rfl)) uni_y (uni_e fun _ _ _ _ _=>(d_n (bn_str T.f_str) na_str.n (n_k (k_var 3) n_nil))) nd) n_nil))))))
theorem sc_law:FnScope N_law ["_law_script"] (defScope s_law):=⟨rfl,rfl,rfl,by decide +kernel,rfl,by decide +kernel,by decide +kernel⟩
theorem ok_law (hK:cl.K = K) (hX:xf = xfG) (T:Tx cl mg) (Fd:FunD K "law" "law" (defArgs s_law) (defBody s_law) (defScope s_law) [] [] f fd) (H__law_box:Fn cl xf P w K mg base "_law_box" 1 1 ZbO) (H__law_cell:Fn cl xf P w K mg base "_law_cell" 1 2 ZbE) (H__law_rows:Fn cl xf P w K mg base "_law_rows" 3 2 Zbj) (H__law_take:Fn cl xf P w K mg base "_law_take" 1 2 Za) (H__law_names:Fn cl xf P w K mg base "_law_names" 2 2 ZZ) (H__law_line:Fn cl xf P w K mg base "_law_line" 1 2 ZO) (H__law_spoilt:Fn cl xf P w K mg base "_law_spoilt" 2 2 Z6) (H__law_answer:Fn cl xf P w K mg base "_law_answer" 9 1 ZK) (H__law_due:Fn cl xf P w K mg base "_law_due" 4 1 Zw) (H__law_thing:Fn cl xf P w K mg base "_law_thing" 2 1 Zba):FnG P w K mg base (L2.CX P w) 10 f fd ["_law_script"] (spF cl xf 1 Zc1):=by
  subst hK; subst hX
  refine fn_ok (N:=N_law) (ws:=fun i=>[1,2,3,5,7,8,9].contains i) (ds:=Zf4) (io:=[false]) Fd sc_law rfl (by decide) (ioOk (by decide)) fun cdv A outer s H E hr=>?_
  have tk:=takes_of (X:=cxOf (L2.CX P w) P w cl.K mg base N_law "law" (defScope s_law) f cdv A outer s H E) (E:=E) rfl rfl rfl rfl
  have hu:=huG hr; have hu2:=hu65 hr; have nd:=sc_law.nd
  exact (b_cons (s_for (Zeu T.f_range (d_n (b2n (o_max T.f_max)) g_max.n (n_k k_int (n_v (d_n (b2n (o_min T.f_min)) g_min.n (n_v (d_n (b1n (o_len (cl:=cl) rfl T.f_len)) g_len.n (n_k (k_var 0) n_nil)) (n_k k_int n_nil))) n_nil)))) (g_name 1 nd) (b_cons (s_set 2 (d_call H__law_box hr (by decide) tk (c_val (d_call H__law_cell hr (by decide) tk (c_lend (k_var 0) (c_lend (k_var 1) c_nil)) (Zp (Zp dl_nil))) c_nil) (Zec dl_nil)) nd) (b_cons (s_set 3 (d_io H__law_rows hr (by decide) tk (q_o 2 (q_val (d_p k_int) q_nil)) rfl) nd) (b_cons (s_if (t_ni (c_cmp (op_eqM hr.units) (nomark _)) g_eqM.n (z_v (d_io H__law_take hr (by decide) tk (q_o 2 (q_val (d_p k_int) q_nil)) rfl) (z_v (d_p k_int) z_nil))) (b_one (s_lc 3 (own:=[("_law_name",4)]) (i_anyD (cl:=cl) rfl (d_io H__law_names hr (by decide) tk (q_o 2 (q_val (d_p k_int) q_nil)) rfl)) (blkOk_by (own:=[("_law_name",4)]) (N:=N_law) (sc:=defScope s_law) (by decide +kernel)) (ZV (by simp)) (uni_g fun _ _ _ _ _=>g_name 4 nd (by rfl)) uni_y (uni_e fun _ _ _ _ _=>(d_tup (a_cons (d_p (k_var 4)) (a_cons (d_p (k_var 1)) (a_cons (d_n (b2n o_sub) g_sub.n (n_k k_int (n_k (k_var 1) n_nil))) (a_cons (d_n (b2n (o_addB (cl:=cl) rfl)) na_add.n (n_k k_int (n_v (d_n (b2n o_mod) g_mod.n (n_k (k_var 1) (n_k k_int n_nil))) n_nil))) (a_cons (d_n (b2n o_mod) g_mod.n (n_k (k_var 1) (n_k k_int n_nil))) a_nil))))))) nd (sw_true rfl rfl rfl (by decide +kernel)))) b_nil) (b_cons (s_set 5 (d_ni (b1n o_join) g_join.n (z_v (d_lc (own:=[("_law_row_here",6)]) (i_anyD (cl:=cl) rfl (d_fz 3)) (blkOk_by (own:=[("_law_row_here",6)]) (N:=N_law) (sc:=defScope s_law) (by decide +kernel)) (ZV (by simp)) (uni_g fun _ _ _ _ _=>g_name 6 nd (by rfl)) uni_y (uni_e fun _ _ _ _ _=>(d_io H__law_line hr (by decide) takes0 (q_l 6 (q_val (d_ni (b2n (o_cmp (op_eqM hr.units) (nomark _))) g_eqM.n (z_v (d_io H__law_take hr (by decide) takes0 (q_o 2 (q_val (d_p k_int) q_nil)) rfl) (z_v (d_p k_int) z_nil))) q_nil)) rfl)) nd) z_nil)) nd) (b_cons (s_if (t_n (c_cmp (op_eqM hr.units) (nomark _)) g_eqM.n (n_v (d_n (b1n (o_len (cl:=cl) rfl T.f_len)) g_len.n (n_k (k_var 3) n_nil)) (n_k k_int n_nil))) (b_one (s_set 5 (d_ni (b2n (o_addB (cl:=cl) rfl)) na_add.n (z_l 5 (z_v (d_ni (b2n (o_ix (cl:=cl) rfl hu (fun _ _=>rfl))) g_ix.n (z_v (d_lst (a_cons (d_p k_str) (a_cons (d_p k_str) a_nil))) (z_v (d_io H__law_take hr (by decide) tk (q_o 2 (q_val (d_p k_int) q_nil)) rfl) z_nil))) z_nil))) nd)) b_nil) (b_cons (s_for (Zeu T.f_range (d_io H__law_take hr (by decide) tk (q_o 2 (q_val (d_p k_int) q_nil)) rfl)) (g_name 7 nd) (b_one (s_set 5 (d_io H__law_spoilt hr (by decide) tk (q_o 2 (q_l 5 q_nil)) rfl) nd)) (passes_of rfl)) (b_cons (s_if (t_ni (c_cmp (op_eqM hr.units) (nomark _)) g_eqM.n (z_v (d_io H__law_take hr (by decide) tk (q_o 2 (q_val (d_p k_int) q_nil)) rfl) (z_v (d_p k_int) z_nil))) (b_cons (s_set 8 (d_ni (b2n (o_ix (cl:=cl) rfl hu (fun _ _=>rfl))) g_ix.n (z_v (d_lst (a_cons (d_p k_str) (a_cons (d_p k_str) (a_cons (d_p k_str) (a_cons (d_p k_str) a_nil))))) (z_v (d_io H__law_take hr (by decide) tk (q_o 2 (q_val (d_p k_int) q_nil)) rfl) z_nil))) nd) (b_one (s_set 5 (d_sl (cl:=cl) rfl (rb_v (d_n (b2n (o_addB (cl:=cl) rfl)) na_add.n (n_k (k_var 5) (n_v (d_n (b2n o_mulS) na_mulT.n (n_k (k_var 8) (n_k k_int n_nil))) n_nil)))) ZT (ro_k k_int)) nd))) b_nil) (b_cons (s_if (t_n (c_cmp (op_neX hr.units) (nomark _)) g_neX.n (n_v (d_call H__law_answer hr (by decide) tk (c_lend (k_var 5) c_nil) (Zp dl_nil)) (n_v (d_call H__law_due hr (by decide) tk (c_lend (k_var 5) c_nil) (Zp dl_nil)) n_nil))) (b_one (s_ret (d_p k_bl))) b_nil) (b_cons (s_set 9 (d_io H__law_thing hr (by decide) tk (q_o 2 q_nil) rfl) nd) (b_one (s_if (t_n (c_cmp (op_neX hr.units) (nomark _)) g_neX.n (n_v (d_call H__law_answer hr (by decide) tk (c_lend (k_var 9) c_nil) (Zp dl_nil)) (n_v (d_call H__law_due hr (by decide) tk (c_lend (k_var 9) c_nil) (Zp dl_nil)) n_nil))) (b_one (s_ret (d_p k_bl))) b_nil))))))))))) (passes_of rfl)) (b_one (s_ret (d_p k_bl))))
end
end Lw
namespace Fs
open PySem PySem.Spec PyProof.Rows L2
section
variable {α β:Type} {x:Option D} {δ:Sl}
@[simp] theorem Zz {a:α} {s:Sl} {f:α → Sl → Out β}:(Out.ok a s).bind f = f a s:=of_eq_true (eq_self _)
@[simp] theorem Zpy {c:Nat} {xs:List D} {s:Sl} {f:α → Sl → Out β}:(Out.exc c xs s).bind f = .exc c xs s:=of_eq_true (eq_self _)
@[simp] theorem Zpz {f:α → Sl → Out β}:(Out.bad:Out α).bind f = .bad:=of_eq_true (eq_self _)
@[simp] theorem Zje {a:α} {s:Sl}:Out.ofO (some a) s = .ok a s:=of_eq_true (eq_self _)
@[simp] theorem ZpP {s:Sl}:Out.ofO (none:Option α) s = .bad:=of_eq_true (eq_self _)
def seqK (b:DS):Flow → Sl → Out Flow:=fun f δ1=>match f with | .nx=>b δ1 | f=>.ok f δ1
@[simp] theorem Zrq {a b:DS}:dsSeq a b (x :: δ) = (a (x :: δ)).bind (seqK b):=of_eq_true (eq_self _)
theorem sq_c {a b:DS} {s:Sl}:dsSeq a b s = (a s).bind (seqK b):=of_eq_true (eq_self _)
@[simp] theorem ZqF {b:DS} {s:Sl}:seqK b .nx s = b s:=of_eq_true (eq_self _)
@[simp] theorem ZqE {b:DS} {d:D} {s:Sl}:seqK b (.rt d) s = .ok (.rt d) s:=of_eq_true (eq_self _)
@[simp] theorem ZqH {b:DS} {s:Sl}:seqK b .bk s = .ok .bk s:=of_eq_true (eq_self _)
@[simp] theorem ZqG {b:DS} {s:Sl}:seqK b .ct s = .ok .ct s:=of_eq_true (eq_self _)
def ifK (a b:DS):Bool → Sl → Out Flow:=fun x δ1=>match x with | true=>a δ1 | false=>b δ1
@[simp] theorem dsIf_c {c:DT} {a b:DS}:dsIf c a b (x :: δ) = (c (x :: δ)).bind (ifK a b):=of_eq_true (eq_self _)
@[simp] theorem ifK_t {a b:DS} {s:Sl}:ifK a b true s = a s:=of_eq_true (eq_self _)
@[simp] theorem ifK_f {a b:DS} {s:Sl}:ifK a b false s = b s:=of_eq_true (eq_self _)
@[simp] theorem Zqu:dsNext (x :: δ) = .ok .nx (x :: δ):=of_eq_true (eq_self _)
@[simp] theorem Zqt:dsRetN (x :: δ) = .ok (.rt .non) (x :: δ):=of_eq_true (eq_self _)
@[simp] theorem Zru:dsBrk (x :: δ) = .ok .bk (x :: δ):=of_eq_true (eq_self _)
@[simp] theorem Zrt:dsCnt (x :: δ) = .ok .ct (x :: δ):=of_eq_true (eq_self _)
def asgK (tg:D → Sl → Option Sl):D → Sl → Out Flow:=fun d δ1=>match tg d δ1 with | some δ2=>.ok .nx δ2 | none=>.bad
@[simp] theorem Zrv {e:DE} {tg:D → Sl → Option Sl}:dsAsg e tg (x :: δ) = (e (x :: δ)).bind (asgK tg):=of_eq_true (eq_self _)
@[simp] theorem asgK_n {i:Nat} {d:D} {s:Sl}:asgK (tgN i) d s = .ok .nx (s.set i (some d)):=of_eq_true (eq_self _)
def retK:D → Sl → Out Flow:=fun d δ1=>.ok (.rt d) δ1
@[simp] theorem Zrr {e:DE}:dsRet e (x :: δ) = (e (x :: δ)).bind retK:=of_eq_true (eq_self _)
@[simp] theorem retK_c {d:D} {s:Sl}:retK d s = .ok (.rt d) s:=of_eq_true (eq_self _)
def dropK:D → Sl → Out Flow:=fun _ δ1=>.ok .nx δ1
@[simp] theorem Zqw {e:DE}:dsDrop e (x :: δ) = (e (x :: δ)).bind dropK:=of_eq_true (eq_self _)
@[simp] theorem Zrw {d:D} {s:Sl}:dropK d s = .ok .nx s:=of_eq_true (eq_self _)
def forK (tg:D → Sl → Option Sl) (body:DS):List D → Sl → Out Flow:=fun its δ1=>loop tg body its δ1
@[simp] theorem Zrs {di:DA} {tg:D → Sl → Option Sl} {b:DS}:dsFor di tg b (x :: δ) = (di (x :: δ)).bind (forK tg b):=of_eq_true (eq_self _)
@[simp] theorem forK_c {tg:D → Sl → Option Sl} {b:DS} {its:List D} {s:Sl}:forK tg b its s = loop tg b its s:=of_eq_true (eq_self _)
def loopK (tg:D → Sl → Option Sl) (body:DS) (xs:List D):Flow → Sl → Out Flow:=fun f δ2=>match f with
  | .nx=>loop tg body xs δ2
  | .ct=>loop tg body xs δ2
  | .bk=>.ok .nx δ2
  | .rt d=>.ok (.rt d) δ2
theorem Zjp {tg:D → Sl → Option Sl} {b:DS} {s:Sl}:loop tg b [] s = .ok .nx s:=rfl
theorem ZdD {tg:D → Sl → Option Sl} {b:DS} {d:D} {ds:List D} {s s1:Sl} (h:tg d s = some s1):loop tg b (d :: ds) s = (b s1).bind (loopK tg b ds):=by
  unfold loop; rw [h]; rfl
@[simp] theorem Zer {tg:D → Sl → Option Sl} {b:DS} {ds:List D} {s:Sl}:loopK tg b ds .nx s = loop tg b ds s:=of_eq_true (eq_self _)
@[simp] theorem Zjq {tg:D → Sl → Option Sl} {b:DS} {ds:List D} {s:Sl}:loopK tg b ds .ct s = loop tg b ds s:=of_eq_true (eq_self _)
@[simp] theorem Znm {tg:D → Sl → Option Sl} {b:DS} {ds:List D} {s:Sl}:loopK tg b ds .bk s = .ok .nx s:=of_eq_true (eq_self _)
@[simp] theorem Znl {tg:D → Sl → Option Sl} {b:DS} {ds:List D} {d:D} {s:Sl}:loopK tg b ds (.rt d) s = .ok (.rt d) s:=of_eq_true (eq_self _)
def dtVK:D → Sl → Out Bool:=fun x δ1=>match x with | .v (.bl c)=>.ok c δ1 | _=>.bad
@[simp] theorem dtV_c {a:DE}:dtV a (x :: δ) = (a (x :: δ)).bind dtVK:=of_eq_true (eq_self _)
@[simp] theorem dtVK_c {c:Bool} {s:Sl}:dtVK (.v (.bl c)) s = .ok c s:=of_eq_true (eq_self _)
def dtAndK (b:DT):Bool → Sl → Out Bool:=fun x δ1=>match x with | true=>b δ1 | false=>.ok false δ1
def dtOrK (b:DT):Bool → Sl → Out Bool:=fun x δ1=>match x with | true=>.ok true δ1 | false=>b δ1
def dtNotK:Bool → Sl → Out Bool:=fun x δ1=>.ok (!x) δ1
@[simp] theorem Zro {a b:DT}:dtAnd a b (x :: δ) = (a (x :: δ)).bind (dtAndK b):=of_eq_true (eq_self _)
@[simp] theorem dtOr_c {a b:DT}:dtOr a b (x :: δ) = (a (x :: δ)).bind (dtOrK b):=of_eq_true (eq_self _)
@[simp] theorem Zrn {a:DT}:dtNot a (x :: δ) = (a (x :: δ)).bind dtNotK:=of_eq_true (eq_self _)
@[simp] theorem Zqq {b:DT} {s:Sl}:dtAndK b true s = b s:=of_eq_true (eq_self _)
@[simp] theorem Zqr {b:DT} {s:Sl}:dtAndK b false s = .ok false s:=of_eq_true (eq_self _)
@[simp] theorem Zrl {b:DT} {s:Sl}:dtOrK b true s = .ok true s:=of_eq_true (eq_self _)
@[simp] theorem Zrm {b:DT} {s:Sl}:dtOrK b false s = b s:=of_eq_true (eq_self _)
@[simp] theorem Zqp {b:Bool} {s:Sl}:dtNotK b s = .ok (!b) s:=of_eq_true (eq_self _)
@[simp] theorem Zrk:dtYes (x :: δ) = .ok true (x :: δ):=of_eq_true (eq_self _)
@[simp] theorem pVar_z {d:D}:pVar 0 (some d :: δ) = some d:=of_eq_true (eq_self _)
@[simp] theorem pVar_s {i:Nat}:pVar (i + 1) (x :: δ) = pVar i δ:=of_eq_true (eq_self _)
@[simp] theorem pC_c {v:V} {s:Sl}:pC v s = some (.v v):=of_eq_true (eq_self _)
def pOp2 (f:D → D → Option D):Option D → Option D → Option D
  | some a,some b=>f a b
  | _,_=>none
@[simp] theorem pOp2_c {f:D → D → Option D} {a b:D}:pOp2 f (some a) (some b) = f a b:=of_eq_true (eq_self _)
@[simp] theorem pOp_c {f:D → D → Option D} {a b:PP}:pOp f a b (x :: δ) = pOp2 f (a (x :: δ)) (b (x :: δ)):=by unfold pOp pOp2; cases a (x :: δ) <;> cases b (x :: δ) <;> rfl
@[simp] theorem filt_v {v:V}:Option.filter D.kept (some (.v v)) = some (.v v):=of_eq_true (eq_self _)
@[simp] theorem filt_s {ns:List Int}:Option.filter D.kept (some (.s ns)) = some (.s ns):=of_eq_true (eq_self _)
@[simp] theorem filt_n {k:Kd} {ds:List D}:Option.filter D.kept (some (.n k .shr ds)) = some (.n k .shr ds):=of_eq_true (eq_self _)
@[simp] theorem dP_c {a:PP}:dP a (x :: δ) = Out.ofO (Option.filter D.kept (a (x :: δ))) (x :: δ):=of_eq_true (eq_self _)
@[simp] theorem dPP_c {f:D → D → Option D} {a b:PP}:dPP f a b (x :: δ) = Out.ofO (pOp2 f (a (x :: δ)) (b (x :: δ))) (x :: δ):=by unfold dPP pOp2; cases a (x :: δ) <;> cases b (x :: δ) <;> rfl
@[simp] theorem dP1_c {f:D → Option D} {a:PP}:dP1 f a (x :: δ) = Out.ofO ((a (x :: δ)).bind f) (x :: δ):=of_eq_true (eq_self _)
def k2 (f:D → D → Option D) (a:Option D):D → Sl → Out D:=fun y δ2=>Out.ofO (pOp2 f a (some y)) δ2
@[simp] theorem k2_c {f:D → D → Option D} {a:Option D} {y:D} {s:Sl}:k2 f a y s = Out.ofO (pOp2 f a (some y)) s:=of_eq_true (eq_self _)
@[simp] theorem dPD_v {f:D → D → Option D} {i:Nat} {b:DE}:dPD f (pVar i) b (x :: δ) = if ((x :: δ)[i]?).join.isSome then (b (x :: δ)).bind (k2 f ((x :: δ)[i]?).join) else .bad:=by
  unfold dPD pVar
  cases ((x :: δ)[i]?).join <;> rfl
@[simp] theorem dPD_k {f:D → D → Option D} {v:V} {b:DE}:dPD f (pC v) b (x :: δ) = (b (x :: δ)).bind (k2 f (some (.v v))):=of_eq_true (eq_self _)
def k1 (f:D → D → Option D) (b:PP):D → Sl → Out D:=fun x δ1=>Out.ofO ((b δ1).bind fun y=>f x y) δ1
@[simp] theorem dDP_c {f:D → D → Option D} {a:DE} {b:PP}:dDP f a b (x :: δ) = (a (x :: δ)).bind (k1 f b):=of_eq_true (eq_self _)
@[simp] theorem k1_c {f:D → D → Option D} {b:PP} {d:D}:k1 f b d (x :: δ) = Out.ofO (pOp2 f (some d) (b (x :: δ))) (x :: δ):=by unfold k1 pOp2; cases b (x :: δ) <;> rfl
def kd (f:D → D → Option D) (b:DE):D → Sl → Out D:=fun x δ1=>(b δ1).bind fun y δ2=>Out.ofO (f x y) δ2
@[simp] theorem d2_c {f:D → D → Option D} {a b:DE}:d2 f a b (x :: δ) = (a (x :: δ)).bind (kd f b):=by
  unfold d2 both kd
  cases a (x :: δ) with
  | ok d s=>simp only [Zz]; cases b s <;> rfl
  | exc c xs s=>rfl
  | bad=>rfl
@[simp] theorem kd_c {f:D → D → Option D} {b:DE} {d:D}:kd f b d (x :: δ) = (b (x :: δ)).bind (k2 f (some d)):=of_eq_true (eq_self _)
def kf (f:D → Option D):D → Sl → Out D:=fun x δ2=>Out.ofO (f x) δ2
@[simp] theorem d1_c {f:D → Option D} {a:DE}:d1 f a (x :: δ) = (a (x :: δ)).bind (kf f):=of_eq_true (eq_self _)
@[simp] theorem d1S_c {f:D → Option D} {a:DE}:d1S f a (x :: δ) = (a (x :: δ)).bind (kf f):=of_eq_true (eq_self _)
@[simp] theorem kf_c {f:D → Option D} {d:D} {s:Sl}:kf f d s = Out.ofO (f d) s:=of_eq_true (eq_self _)
def andK (b:DE):D → Sl → Out D:=fun x δ1=>match x with | .v (.bl true)=>b δ1 | .v (.bl false)=>.ok (.bl false) δ1 | _=>.bad
def orK (b:DE):D → Sl → Out D:=fun x δ1=>match x with | .v (.bl true)=>.ok (.bl true) δ1 | .v (.bl false)=>b δ1 | _=>.bad
@[simp] theorem dAnd_c {a b:DE}:dAnd a b (x :: δ) = (a (x :: δ)).bind (andK b):=of_eq_true (eq_self _)
@[simp] theorem dOr_c {a b:DE}:dOr a b (x :: δ) = (a (x :: δ)).bind (orK b):=of_eq_true (eq_self _)
@[simp] theorem andK_b {b:DE} {c:Bool} {s:Sl}:andK b (.v (.bl c)) s = if c then b s else .ok (.bl false) s:=by cases c <;> rfl
@[simp] theorem orK_b {b:DE} {c:Bool} {s:Sl}:orK b (.v (.bl c)) s = if c then .ok (.bl true) s else b s:=by cases c <;> rfl
@[simp] theorem notD_b {c:Bool}:notD (.v (.bl c)) = some (.bl !c):=of_eq_true (eq_self _)
def ifeK (a b:DE):Bool → Sl → Out D:=fun x δ1=>match x with | true=>a δ1 | false=>b δ1
@[simp] theorem dIf_c {t:DT} {a b:DE}:dIf t a b (x :: δ) = (t (x :: δ)).bind (ifeK a b):=of_eq_true (eq_self _)
@[simp] theorem ifeK_t {a b:DE} {s:Sl}:ifeK a b true s = a s:=of_eq_true (eq_self _)
@[simp] theorem ifeK_f {a b:DE} {s:Sl}:ifeK a b false s = b s:=of_eq_true (eq_self _)
def chK2 (g:D → D → Option D) (y:D):D → Sl → Out D:=fun z δ2=>Out.ofO ((g y z).filter D.kept) δ2
def chK (f g:D → D → Option D) (c:DE):D × D → Sl → Out D:=fun xy δ1=>match f xy.1 xy.2 with
  | some (.v (.bl true))=>(c δ1).bind (chK2 g xy.2)
  | some (.v (.bl false))=>.ok (.bl false) δ1
  | _=>.bad
def pairK (b:DE):D → Sl → Out (D × D):=fun x δ1=>(b δ1).bind fun y δ2=>.ok (x,y) δ2
def pairK2 (x:D):D → Sl → Out (D × D):=fun y δ2=>.ok (x,y) δ2
@[simp] theorem dCh_c {f g:D → D → Option D} {a b c:DE}:dCh f g a b c (x :: δ) = ((a (x :: δ)).bind (pairK b)).bind (chK f g c):=of_eq_true (eq_self _)
@[simp] theorem ZqP {b:DE} {d:D}:pairK b d (x :: δ) = (b (x :: δ)).bind (pairK2 d):=of_eq_true (eq_self _)
@[simp] theorem ZpJ {a b:D} {s:Sl}:pairK2 a b s = .ok (a,b) s:=of_eq_true (eq_self _)
theorem chK_c {f g:D → D → Option D} {c:DE} {a b:D} {k:Bool} (h:f a b = some (.v (.bl k))):chK f g c (a,b) (x :: δ) = if k then (c (x :: δ)).bind (chK2 g b) else .ok (.bl false) (x :: δ):=by
  unfold chK
  simp only [h]
  cases k <;> rfl
@[simp] theorem chK_le {c:DE} {i j:Int}:chK leD leD c (.v (.int i),.v (.int j)) (x :: δ) = if decide (i ≤ j) then (c (x :: δ)).bind (chK2 leD (.v (.int j))) else .ok (.bl false) (x :: δ):=chK_c rfl
@[simp] theorem chK2_c {g:D → D → Option D} {y z:D} {s:Sl}:chK2 g y z s = Out.ofO ((g y z).filter D.kept) s:=of_eq_true (eq_self _)
@[simp] theorem Zrx {s:Sl}:daNil s = .ok [] s:=of_eq_true (eq_self _)
def consK2 (d:D):List D → Sl → Out (List D):=fun xs δ2=>.ok (d :: xs) δ2
def consK (r:DA):D → Sl → Out (List D):=fun x δ1=>(r δ1).bind (consK2 x)
@[simp] theorem Zqz {a:DE} {r:DA}:daCons a r (x :: δ) = (a (x :: δ)).bind (consK r):=of_eq_true (eq_self _)
@[simp] theorem ZrD {r:DA} {d:D}:consK r d (x :: δ) = (r (x :: δ)).bind (consK2 d):=of_eq_true (eq_self _)
@[simp] theorem ZqA {d:D} {ds:List D} {s:Sl}:consK2 d ds s = .ok (d :: ds) s:=of_eq_true (eq_self _)
@[simp] theorem Zqx {i:Nat} {r:DA}:daLend (pVar i) r (x :: δ) = match ((x :: δ)[i]?).join with | some d=>(r (x :: δ)).bind (consK2 (lend d)) | none=>.bad:=by
  unfold daLend pVar
  cases ((x :: δ)[i]?).join <;> rfl
@[simp] theorem Zqy {v:V} {r:DA}:daLend (pC v) r (x :: δ) = (r (x :: δ)).bind (consK2 (.v v)):=by
  unfold daLend
  simp only [pC_c,lend]
  rfl
def fK (F:List D → Option D):List D → Sl → Out D:=fun xs δ1=>Out.ofO (F xs) δ1
@[simp] theorem dF_c {F:List D → Option D} {r:DA}:dF F r (x :: δ) = (r (x :: δ)).bind (fK F):=of_eq_true (eq_self _)
@[simp] theorem fK_c {F:List D → Option D} {ds:List D} {s:Sl}:fK F ds s = Out.ofO (F ds) s:=of_eq_true (eq_self _)
def callK (F:List D → Out D):List D → Sl → Out D:=fun ds δ1=>match F ds with
  | .ok d _=>.ok d δ1
  | .exc c xs _=>.exc c xs δ1
  | .bad=>.bad
@[simp] theorem Zrz {F:List D → Out D} {r:DA}:dCall F r (x :: δ) = (r (x :: δ)).bind (callK F):=of_eq_true (eq_self _)
theorem Zfs {F:List D → Out D} {ds:List D} {d:D} {s s':Sl} (h:F ds = .ok d s'):callK F ds s = .ok d s:=by unfold callK; rw [h]
def ioK (F:List D → Out D) (ks:List AK):List D → Sl → Out D:=fun ts δ1=>match tk ks ts δ1 with
  | none=>.bad
  | some r=>match res r.2 r.1 with
    | none=>.bad
    | some ds=>match F ds with
      | .ok d ios=>(match putB ks ios r.2 with | some δ2=>.ok d δ2 | none=>.bad)
      | .exc c xs ios=>(match putB ks ios r.2 with | some δ2=>.exc c xs δ2 | none=>.bad)
      | .bad=>.bad
@[simp] theorem Zpw {F:List D → Out D} {ks:List AK}:Zd F ks (x :: δ) = (dArgs ks (x :: δ)).bind (ioK F ks):=of_eq_true (eq_self _)
def finF (io:List Bool):Out Flow → Out D
  | .ok .nx δ'=>.ok .non (ioF io δ')
  | .ok (.rt d) δ'=>.ok d (ioF io δ')
  | .ok .bk _=>.bad
  | .ok .ct _=>.bad
  | .exc c xs δ'=>.exc c xs (ioF io δ')
  | .bad=>.bad
theorem runF_c {N:Nat} {io:List Bool} {ds:DS} {args:List D} (h:args.length = io.length):runF N io ds args = finF io (ds (args.map some ++ List.replicate (N - args.length) none)):=by
  unfold runF
  rw [if_pos h]
  unfold finF
  split <;> simp_all
@[simp] theorem Zrc {io:List Bool} {s:Sl}:finF io (.ok .nx s) = .ok .non (ioF io s):=of_eq_true (eq_self _)
@[simp] theorem Zrb {io:List Bool} {d:D} {s:Sl}:finF io (.ok (.rt d) s) = .ok d (ioF io s):=of_eq_true (eq_self _)
@[simp] theorem Zqh {io:List Bool} {c:Nat} {xs:List D} {s:Sl}:finF io (.exc c xs s) = .exc c xs (ioF io s):=of_eq_true (eq_self _)
@[simp] theorem ZpL {i j:Int}:mulD (.v (.int i)) (.v (.int j)) = if cMul i j then some (.v (.int (i * j))) else none:=by simp only [mulD,f2I]; split <;> rfl
@[simp] theorem ZpM {i j:Int}:modD (.v (.int i)) (.v (.int j)) = if cMod i j then some (.v (.int (i % j))) else none:=by simp only [modD,f2I]; split <;> rfl
@[simp] theorem ZpN {i j:Int}:divD (.v (.int i)) (.v (.int j)) = if cDiv i j then some (.v (.int (i / j))) else none:=by simp only [divD,f2I]; split <;> rfl
@[simp] theorem Zok {i j:Int}:gtD (.v (.int i)) (.v (.int j)) = some (.v (.bl (decide (j < i)))):=of_eq_true (eq_self _)
@[simp] theorem ZqQ {i j:Int}:ltD (.v (.int i)) (.v (.int j)) = some (.v (.bl (decide (i < j)))):=of_eq_true (eq_self _)
@[simp] theorem ZpK {i j:Int}:subD (.v (.int i)) (.v (.int j)) = some (.v (.int (i - j))):=of_eq_true (eq_self _)
@[simp] theorem ZpO {i j:Int}:addD (.v (.int i)) (.v (.int j)) = some (.v (.int (i + j))):=of_eq_true (eq_self _)
@[simp] theorem ix3_0 {w:Fl} {a b c:D}:ixD (.n .lst w [a,b,c]) (.v (.int 0)) = some a:=of_eq_true (eq_self _)
@[simp] theorem ix3_1 {w:Fl} {a b c:D}:ixD (.n .lst w [a,b,c]) (.v (.int 1)) = some b:=of_eq_true (eq_self _)
@[simp] theorem ix3_2 {w:Fl} {a b c:D}:ixD (.n .lst w [a,b,c]) (.v (.int 2)) = some c:=of_eq_true (eq_self _)
theorem cMul_r {i j:Int} (h:j.natAbs < 2 ^ 64):cMul i j = true:=by simp [cMul,h]
theorem cMul_l {i j:Int} (h:i.natAbs < 2 ^ 64):cMul i j = true:=by simp [cMul,h]
theorem cMod_p {i j:Int} (h:0 < j):cMod i j = true:=by simp [cMod,h]
theorem cDiv_w {i j:Int} (h:0 < j) (h2:j < 1606938044258990275541962092341162602522202993782792835301376):cDiv i j = true:=by simp [cDiv,h,h2]
theorem cDiv_p {i j:Int} (h:0 < j) (h2:j < 1073741824):cDiv i j = true:=cDiv_w h (by omega)
def setK (i:Nat) (ix:DE):D → Sl → Out Fs.Flow:=fun y δ1=>if (δ1[i]?).join.isSome then (ix δ1).bind fun k δ2=>(match (δ2[i]?).join,k with
  | some (.n .lst .own xs),.v (.int n)=>(match ixN xs.length n with | some m=>.ok .nx (δ2.set i (some (.n .lst .own (xs.set m (frz y))))) | none=>.bad)
  | _,_=>.bad) else .bad
@[simp] theorem Zqs {x:Option D} {δ:Sl} {i:Nat} {ix e:DE}:dsSetL i ix e (x :: δ) = (e (x :: δ)).bind (setK i ix):=of_eq_true (eq_self _)
@[simp] theorem setK_0 {a b c:D} {d:D} {δ:Sl}:setK 0 (dP (pC (.int 0))) d (some (.n .lst .own [a,b,c]) :: δ) = .ok .nx (some (.n .lst .own [frz d,b,c]) :: δ):=of_eq_true (eq_self _)
@[simp] theorem setK_2 {a b c:D} {d:D} {δ:Sl}:setK 0 (dP (pC (.int 2))) d (some (.n .lst .own [a,b,c]) :: δ) = .ok .nx (some (.n .lst .own [a,b,frz d]) :: δ):=of_eq_true (eq_self _)
@[simp] theorem frz_v {v:V}:frz (.v v) = .v v:=by simp [frz]
@[simp] theorem dMv_v {i:Nat} {δ:Sl} {v:V} (h:(δ[i]?).join = some (.v v)):dMv i δ = .ok (.v v) (δ.set i none):=by unfold dMv; rw [h]; rfl
def Out.val:Out α → Option α | .ok a _=>some a | _=>none
@[simp] theorem val_ok {a:α} {s:Sl}:(Out.ok a s).val = some a:=of_eq_true (eq_self _)
@[simp] theorem ZqR {i j:Int}:leD (.v (.int i)) (.v (.int j)) = some (.v (.bl (decide (i ≤ j)))):=of_eq_true (eq_self _)
@[simp] theorem ZqS {i j:Int}:geD (.v (.int i)) (.v (.int j)) = some (.v (.bl (decide (j ≤ i)))):=of_eq_true (eq_self _)
end
end Fs
namespace Fs
open PySem PySem.Spec PyProof.Rows L2
section
variable {α β:Type} {x:Option D} {δ s:Sl}
@[simp] theorem Zri:evO [] s = .ok [] s:=of_eq_true (eq_self _)
def evK (o:Option D) (os:List Od) (δ:Sl):Out (List D):=match o with
  | some d=>(evO os δ).bind (consK2 d)
  | none=>.bad
@[simp] theorem evO_k {a:PP} {os:List Od}:evO (.k a :: os) s = evK (a s) os s:=of_eq_true (eq_self _)
@[simp] theorem evK_s {d:D} {os:List Od}:evK (some d) os s = (evO os s).bind (consK2 d):=of_eq_true (eq_self _)
@[simp] theorem evK_n {os:List Od}:evK none os s = .bad:=of_eq_true (eq_self _)
def evV (os:List Od):D → Sl → Out (List D):=fun d s=>(evO os s).bind (consK2 d)
@[simp] theorem evO_v {e:DE} {os:List Od}:evO (.v e :: os) s = (e s).bind (evV os):=of_eq_true (eq_self _)
@[simp] theorem evV_c {d:D} {os:List Od}:evV os d s = (evO os s).bind (consK2 d):=of_eq_true (eq_self _)
@[simp] theorem dN_c {F:List D → Option D} {os:List Od}:dN F os s = (evO os s).bind (fK F):=of_eq_true (eq_self _)
@[simp] theorem f2_c {f:D → D → Option D} {a b:D}:f2 f [a,b] = f a b:=of_eq_true (eq_self _)
@[simp] theorem f1_c {f:D → Option D} {a:D}:f1 f [a] = f a:=of_eq_true (eq_self _)
@[simp] theorem Zpx:dArgs [] s = .ok [] s:=of_eq_true (eq_self _)
def argK (ks:List AK):D → Sl → Out (List D):=fun d s=>(dArgs ks s).bind (consK2 d)
@[simp] theorem ZrA {e:DE} {ks:List AK}:dArgs (.v e :: ks) s = (e s).bind (argK ks):=of_eq_true (eq_self _)
@[simp] theorem argK_c {d:D} {ks:List AK}:argK ks d s = (dArgs ks s).bind (consK2 d):=of_eq_true (eq_self _)
@[simp] theorem ZrC {i:Nat} {ks:List AK}:dArgs (.l i :: ks) s = if (s[i]?).join.isSome then dArgs ks s else .bad:=of_eq_true (eq_self _)
@[simp] theorem ZrB {i:Nat} {ks:List AK}:dArgs (.o i :: ks) s = if (s[i]?).join.isSome then dArgs ks s else .bad:=of_eq_true (eq_self _)
def niK (F:List D → Option D) (ks:List AK):List D → Sl → Out D:=fun ts s=>Out.ofO ((resN ks ts s).bind F) s
@[simp] theorem dNI_c {F:List D → Option D} {ks:List AK}:dNI F ks s = (dArgs ks s).bind (niK F ks):=by
  unfold dNI niK
  cases dArgs ks s with
  | ok a s1=>simp only [Zz]; cases resN ks a s1 <;> rfl
  | exc c xs s1=>rfl
  | bad=>rfl
@[simp] theorem niK_c {F:List D → Option D} {ks:List AK} {ts:List D}:niK F ks ts s = Out.ofO ((resN ks ts s).bind F) s:=of_eq_true (eq_self _)
@[simp] theorem ZpC:resN [] [] s = some []:=of_eq_true (eq_self _)
@[simp] theorem resN_v {e:DE} {ks:List AK} {t:D} {ts:List D}:resN (.v e :: ks) (t :: ts) s = (resN ks ts s).map (t :: ·):=by simp [resN]
@[simp] theorem resN_l {i:Nat} {ks:List AK} {ts:List D}:resN (.l i :: ks) ts s = ((s[i]?).join).bind fun d=>(resN ks ts s).map (d :: ·):=by simp [resN]
@[simp] theorem pUn_c {f:D → Option D} {a:PP}:pUn f a s = (a s).bind f:=of_eq_true (eq_self _)
@[simp] theorem pRc_c {c:Nat} {m:Str} {a:PP}:pRc c m a s = (a s).bind (rcD c m):=of_eq_true (eq_self _)
def lendK (o:Option D) (r:DA) (s:Sl):Out (List D):=match o with
  | some d=>(r s).bind (consK2 (lend d))
  | none=>.bad
theorem Zg1 {a:PP} {r:DA}:daLend a r s = lendK (a s) r s:=by
  unfold daLend lendK
  cases a s <;> rfl
@[simp] theorem ZqZ {d:D} {r:DA}:lendK (some d) r s = (r s).bind (consK2 (lend d)):=of_eq_true (eq_self _)
@[simp] theorem Zpt {f:D → Option D} {a:PP} {r:DA}:daLend (pUn f a) r s = lendK (pUn f a s) r s:=Zg1
@[simp] theorem Zpv {f:D → D → Option D} {a b:PP} {r:DA}:daLend (pOp f a b) r s = lendK (pOp f a b s) r s:=Zg1
@[simp] theorem Zpu {c:Nat} {m:Str} {a:PP} {r:DA}:daLend (pRc c m a) r s = lendK (pRc c m a s) r s:=Zg1
def rcK (c:Nat) (m:Str):D → Sl → Out D:=fun d s=>Out.ofO (rcD c m d) s
@[simp] theorem dRc_c {c:Nat} {m:Str} {a:DE}:dRc c m a s = (a s).bind (rcK c m):=of_eq_true (eq_self _)
@[simp] theorem rcK_c {c:Nat} {m:Str} {d:D}:rcK c m d s = Out.ofO (rcD c m d) s:=of_eq_true (eq_self _)
@[simp] theorem lend_v {v:V}:lend (.v v) = .v v:=by simp [lend]
@[simp] theorem lend_s {ns:List Int}:lend (.s ns) = .s ns:=by simp [lend]
@[simp] theorem Zno {k:Kd} {ds:List D}:lend (.n k .shr ds) = .n k .shr ds:=by simp [lend]
@[simp] theorem ZcC {k:Kd} {ds:List D}:lend (.n k .bor ds) = .n k .bor ds:=by simp [lend]
@[simp] theorem ZcB {k:Kd} {ds:List D}:lend (.n k .own ds) = .n k .bor (lends ds):=by simp [lend]
@[simp] theorem ZiD {k:Kd} {ds:List D}:frz (.n k .shr ds) = .n k .shr ds:=by simp [frz]
@[simp] theorem frz_s {ns:List Int}:frz (.s ns) = .s ns:=by simp [frz]
@[simp] theorem ZjC:frzs [] = []:=by simp [frzs]
@[simp] theorem Zf2 {d:D} {ds:List D}:frzs (d :: ds) = frz d :: frzs ds:=by simp [frzs]
@[simp] theorem Zpn:lends [] = []:=by simp [lends]
@[simp] theorem Zkm {d:D} {ds:List D}:lends (d :: ds) = lend d :: lends ds:=by simp [lends]
@[simp] theorem addA_i {i j:Int}:addA (.v (.int i)) (.v (.int j)) = some (.v (.int (i + j))):=of_eq_true (eq_self _)
@[simp] theorem mulA_i {i j:Int}:mulA (.v (.int i)) (.v (.int j)) = if cMul i j then some (.v (.int (i * j))) else none:=by
  simp only [mulA]
@[simp] theorem maxD_i {i j:Int}:maxD (.v (.int i)) (.v (.int j)) = some (.v (.int (max i j))):=by
  show some (D.v (V.int (if j > i then j else i))) = _
  have:(if j > i then j else i) = max i j:=by split <;> omega
  rw [this]
@[simp] theorem minD_i {i j:Int}:minD (.v (.int i)) (.v (.int j)) = some (.v (.int (min i j))):=by
  show some (D.v (V.int (if j < i then j else i))) = _
  have:(if j < i then j else i) = min i j:=by split <;> omega
  rw [this]
@[simp] theorem Zp7:isND (.v .non) = some (.v (.bl true)):=of_eq_true (eq_self _)
@[simp] theorem Zp8 {i:Int}:isND (.v (.int i)) = some (.v (.bl false)):=of_eq_true (eq_self _)
@[simp] theorem Zp6 {z:Str}:isND (.v (.str z)) = some (.v (.bl false)):=of_eq_true (eq_self _)
@[simp] theorem Zpl:notND (.v .non) = some (.v (.bl false)):=of_eq_true (eq_self _)
@[simp] theorem Zpm {i:Int}:notND (.v (.int i)) = some (.v (.bl true)):=of_eq_true (eq_self _)
@[simp] theorem Zpk {z:Str}:notND (.v (.str z)) = some (.v (.bl true)):=of_eq_true (eq_self _)
def storeK (pl:PL) (kd:DE) (fz:Bool):D → Sl → Out Flow:=fun y δ1=>stC pl δ1 fun i π d c=>(noX (kd δ1)).bind fun kk δ2=>stEnd mSet i π d c [kk,if fz then frz y else y] δ2
@[simp] theorem Zpr {pl:PL} {kd e:DE} {fz:Bool}:Zby pl kd fz e s = (e s).bind (storeK pl kd fz):=of_eq_true (eq_self _)
@[simp] theorem ZpB {a b c d:D}:storeK (plV 0) (dP (pC (.int 0))) true d (some (.n .lst .own [a,b,c]) :: δ) = .ok .nx (some (.n .lst .own [frz d,b,c]) :: δ):=of_eq_true (eq_self _)
@[simp] theorem ZpA {a b c d:D}:storeK (plV 0) (dP (pC (.int 2))) true d (some (.n .lst .own [a,b,c]) :: δ) = .ok .nx (some (.n .lst .own [a,b,frz d]) :: δ):=of_eq_true (eq_self _)
def fldSK (pl:PL) (c0:Nat) (f:Str):D → Sl → Out Flow:=fun y δ1=>stC pl δ1 fun i π d c=>stEnd (mFld c0 f) i π d c [y] δ1
@[simp] theorem Zqv {pl:PL} {c:Nat} {f:Str} {e:DE}:dsFldS pl c f e s = (e s).bind (fldSK pl c f):=of_eq_true (eq_self _)
def raiseK (c n:Nat):List D → Sl → Out Flow:=fun xs s=>if xs.length = n then .exc c xs s else .bad
@[simp] theorem Zps {c n:Nat} {da:DA}:Zbz c n da s = (da s).bind (raiseK c n):=of_eq_true (eq_self _)
@[simp] theorem ZpH {c n:Nat} {xs:List D}:raiseK c n xs s = if xs.length = n then .exc c xs s else .bad:=of_eq_true (eq_self _)
def sat (o:Out α) (Q:α → Sl → Prop):Prop:=∃ a s,o = .ok a s ∧ Q a s
@[simp] theorem sat_ok {a:α} {Q:α → Sl → Prop}:sat (.ok a s) Q ↔ Q a s:=⟨fun ⟨_,_,e,h⟩=>by cases e; exact h,fun h=>⟨a,s,rfl,h⟩⟩
@[simp] theorem ZqK {Q:α → Sl → Prop}:sat (.bad:Out α) Q ↔ False:=⟨fun ⟨_,_,e,_⟩=>(by cases e),False.elim⟩
@[simp] theorem Zn2 {c:Nat} {xs:List D} {Q:α → Sl → Prop}:sat (.exc c xs s:Out α) Q ↔ False:=⟨fun ⟨_,_,e,_⟩=>(by cases e),False.elim⟩
@[simp] theorem Zi6 {o:Out α} {f:α → Sl → Out β} {Q:β → Sl → Prop}:sat (o.bind f) Q ↔ sat o fun a s=>sat (f a s) Q:=by
  cases o <;> simp
theorem Zf {o:Out α} {Q Q':α → Sl → Prop} (h:sat o Q) (k:∀ a s,Q a s → Q' a s):sat o Q':=by
  obtain ⟨a,s,e,h⟩:=h; exact ⟨a,s,e,k a s h⟩
@[simp] theorem tk_nil:tk [] [] s = some ([],s):=of_eq_true (eq_self _)
@[simp] theorem tk_v {e:DE} {ks:List AK} {t:D} {ts:List D}:tk (.v e :: ks) (t :: ts) s = (tk ks ts s).map fun r=>((some t,0) :: r.1,r.2):=by simp only [tk]
@[simp] theorem tk_l {i:Nat} {ks:List AK} {ts:List D}:tk (.l i :: ks) ts s = (tk ks ts s).map fun r=>((none,i) :: r.1,r.2):=by simp only [tk]
@[simp] theorem tk_o {i:Nat} {ks:List AK} {ts:List D}:tk (.o i :: ks) ts s = ((s[i]?).join).bind fun d=>if d.free then (tk ks ts (s.set i none)).map fun r=>((some d,0) :: r.1,r.2) else none:=by simp only [tk]
@[simp] theorem ZqL:res s [] = some []:=of_eq_true (eq_self _)
@[simp] theorem res_s {d:D} {n:Nat} {r:List (Option D × Nat)}:res s ((some d,n) :: r) = (res s r).map fun ds=>d :: ds:=by simp only [res]
@[simp] theorem res_n {i:Nat} {r:List (Option D × Nat)}:res s ((none,i) :: r) = ((s[i]?).join).bind fun d=>(res s r).map fun ds=>lend d :: ds:=by simp only [res]
@[simp] theorem ZpI:putB [] [] s = some s:=of_eq_true (eq_self _)
@[simp] theorem putB_o {i:Nat} {ks:List AK} {d:D} {ios:Sl}:putB (.o i :: ks) (some d :: ios) s = if d.free then putB ks ios (s.set i (some d)) else none:=by simp only [putB]
@[simp] theorem putB_v {e:DE} {ks:List AK} {x:Option D} {ios:Sl}:putB (.v e :: ks) (x :: ios) s = putB ks ios s:=by simp only [putB]
@[simp] theorem putB_l {i:Nat} {ks:List AK} {x:Option D} {ios:Sl}:putB (.l i :: ks) (x :: ios) s = putB ks ios s:=by simp only [putB]
def ioP (F:List D → Out D) (ks:List AK) (Q:D → Sl → Prop):Option (List (Option D × Nat) × Sl) → Prop
  | some r=>(match res r.2 r.1 with
    | some ds=>sat (F ds) fun y ios=>∃ δ2,putB ks ios r.2 = some δ2 ∧ Q y δ2
    | none=>False)
  | none=>False
@[simp] theorem ZqJ {F:List D → Out D} {ks:List AK} {ts:List D} {Q:D → Sl → Prop}:sat (ioK F ks ts s) Q ↔ ioP F ks Q (tk ks ts s):=by
  unfold ioK ioP
  cases tk ks ts s with
  | none=>simp
  | some r =>
    simp only
    cases res r.2 r.1 with
    | none=>simp
    | some ds =>
      simp only
      cases F ds with
      | bad=>simp
      | exc c xs ios=>simp only [Zn2,iff_false]; split <;> simp
      | ok d ios =>
        simp only [sat_ok]
        cases putB ks ios r.2 <;> simp
@[simp] theorem ioP_s {F:List D → Out D} {ks:List AK} {Q:D → Sl → Prop} {es:List (Option D × Nat)} {δr:Sl}:ioP F ks Q (some (es,δr)) = (match res δr es with
    | some ds=>sat (F ds) fun y ios=>∃ δ2,putB ks ios δr = some δ2 ∧ Q y δ2
    | none=>False):=rfl
theorem Zi5 {F:List D → Out D} {ds:List D} {Q:D → Sl → Prop} (h:sat (F ds) fun y _=>Q y s):sat (callK F ds s) Q:=by
  obtain ⟨y,s',e,h⟩:=h
  rw [Zfs e]
  exact ⟨y,s,rfl,h⟩
theorem sat_F {N:Nat} {io:List Bool} {ds:DS} {args:List D} {Q:D → Sl → Prop} (hl:args.length = io.length) (h:sat (ds (args.map some ++ List.replicate (N - args.length) none)) fun f s=>match f with | .nx=>Q .non (ioF io s) | .rt d=>Q d (ioF io s) | _=>False):sat (runF N io ds args) Q:=by
  rw [runF_c hl]
  obtain ⟨f,s,e,h⟩:=h
  rw [e]
  cases f with
  | nx=>exact ⟨_,_,rfl,h⟩
  | rt d=>exact ⟨_,_,rfl,h⟩
  | bk=>exact h.elim
  | ct=>exact h.elim
theorem Zfl {tg:D → Sl → Option Sl} {b:DS} (I:List D → Sl → Prop) (hs:∀ d r s,I (d :: r) s → ∃ s1,tg d s = some s1 ∧ sat (b s1) fun f s2=>(f = .nx ∨ f = .ct) ∧ I r s2):∀ {its:List D} {s:Sl},I its s → sat (loop tg b its s) fun f s2=>f = .nx ∧ I [] s2
  | [],s,h=>by rw [Zjp]; exact sat_ok.mpr ⟨rfl,h⟩
  | d :: r,s,h=>by
    obtain ⟨s1,e1,f,s2,e2,hf,h2⟩:=hs d r s h
    rw [ZdD e1,e2,Zz]
    rcases hf with rfl | rfl
    · rw [Zer]; exact Zfl I hs h2
    · rw [Zjq]; exact Zfl I hs h2
end
end Fs
namespace Fs
open PySem PySem.Spec PyProof.Rows L2
theorem Zbf:∀ {d:D},d.kept = true → lend d = d
  | .v _,_=>by simp
  | .s _,_=>by simp
  | .n _ .shr _,_=>by simp
  | .n _ .own _,h=>by simp [D.kept] at h
  | .n _ .bor _,h=>by simp [D.kept] at h
class Ke {ρ:Type} (enc:ρ → D):Prop where
  kept:∀ x,(enc x).kept = true
instance:Ke D.int:=⟨fun _=>rfl⟩
instance:Ke D.str:=⟨fun _=>rfl⟩
instance:Ke D.bl:=⟨fun _=>rfl⟩
def lnd:Fl → Fl | .own=>.bor | .bor=>.bor | .shr=>.shr
def fzd:Fl → Fl | .own=>.shr | .bor=>.bor | .shr=>.shr
@[simp] theorem ZqX:lnd .own = .bor:=rfl
@[simp] theorem ZqY:lnd .bor = .bor:=rfl
@[simp] theorem ZqW:lnd .shr = .shr:=rfl
@[simp] theorem ZlX:fzd .own = .shr:=rfl
@[simp] theorem Zq6:fzd .shr = .shr:=rfl
section
variable {ρ τ:Type} {enc:ρ → D} {w w':Fl} {xs ys:List ρ} {s δ:Sl}
def Lst (enc:ρ → D) (w:Fl) (xs:List ρ):D:=.n .lst w (xs.map enc)
def Tpl (enc:ρ → D) (xs:List ρ):D:=.n .tup .shr (xs.map enc)
instance [Ke enc]:Ke (Lst enc .shr):=⟨fun _=>rfl⟩
instance:Ke (Tpl enc):=⟨fun _=>rfl⟩
theorem ZhH [Ke enc]:∀ xs:List ρ,lends (xs.map enc) = xs.map enc
  | []=>by simp
  | x :: xs=>by simp [ZhH xs,Zbf (Ke.kept (enc:=enc) x)]
theorem ZjD [Ke enc]:∀ xs:List ρ,frzs (xs.map enc) = xs.map enc
  | []=>by simp
  | x :: xs=>by simp [ZjD xs,Zbm (Ke.kept (enc:=enc) x)]
theorem Zbb [Ke enc] (xs:List ρ):(xs.map enc).all D.kept = true:=by
  simp only [List.all_map,List.all_eq_true]
  intro x _; exact Ke.kept x
@[simp] theorem Znp [Ke enc]:lend (Lst enc w xs) = Lst enc (lnd w) xs:=by
  unfold Lst; cases w <;> simp [lnd,ZhH]
@[simp] theorem ZlY [Ke enc]:frz (Lst enc w xs) = Lst enc (fzd w) xs:=by
  unfold Lst; cases w <;> simp [fzd,ZjD,frz]
@[simp] theorem ZpW:lend (Tpl enc xs) = Tpl enc xs:=by unfold Tpl; simp
@[simp] theorem ZoZ:frz (Tpl enc xs) = Tpl enc xs:=by unfold Tpl; simp
@[simp] theorem Zp3:(Lst enc .shr xs).kept = true:=rfl
@[simp] theorem Zp2:(Tpl enc xs).kept = true:=rfl
@[simp] theorem Zqk:Option.filter D.kept (some (Tpl enc xs)) = some (Tpl enc xs):=rfl
@[simp] theorem Zqn:Option.filter D.kept (some (Lst enc .shr xs)) = some (Lst enc .shr xs):=rfl
@[simp] theorem ZgT:lenD (Lst enc w xs) = some (.v (.int (xs.length:Int))):=by simp [Lst,lenD]
@[simp] theorem Zq1:lenD (Tpl enc xs) = some (.v (.int (xs.length:Int))):=by simp [Tpl,lenD]
@[simp] theorem Zq3:isiD "list" (Lst enc w xs) = some (.v (.bl true)):=rfl
@[simp] theorem Zq2:isiD "tuple" (Tpl enc xs) = some (.v (.bl true)):=rfl
@[simp] theorem it_Lst [Ke enc]:itA true (Lst enc w xs) = some (xs.map enc):=by
  simp only [Lst,itA]
  rw [if_pos ⟨Zbb xs,.inl (by trivial)⟩]
theorem Ziz [Ke enc] {p:Bool} (h:w ≠ .own):itA p (Lst enc w xs) = some (xs.map enc):=by
  simp only [Lst,itA]
  rw [if_pos ⟨Zbb xs,.inr h⟩]
@[simp] theorem Zp5 [Ke enc] {p:Bool}:itA p (Lst enc .bor xs) = some (xs.map enc):=Ziz (by decide)
@[simp] theorem Zp4 [Ke enc] {p:Bool}:itA p (Lst enc .shr xs) = some (xs.map enc):=Ziz (by decide)
@[simp] theorem it_Tpl [Ke enc] {p:Bool}:itA p (Tpl enc xs) = some (xs.map enc):=by
  simp only [Tpl,itA]
  rw [if_pos ⟨Zbb xs,.inr (by decide)⟩]
theorem ix_Lst [Ke enc] {i:Nat} {x:ρ} (h:xs[i]? = some x):ixD (Lst enc w xs) (.v (.int (i:Int))) = some (enc x):=by
  have hl:i < xs.length:=(List.getElem?_eq_some_iff.mp h).1
  simp only [Lst,ixD,atI,ixN]
  have h2:xs[i] = x:=by rw [List.getElem?_eq_getElem hl] at h; exact Option.some.inj h
  simp [hl,h2]
theorem ZoT [Ke enc] {i:Nat} {x:ρ} (h:xs[i]? = some x):ixK (Lst enc w xs) (.v (.int (i:Int))) = some (enc x):=by
  unfold ixK
  rw [ix_Lst h]
  simp [Option.filter,Ke.kept]
theorem Zcx [Ke enc] {i:Int} (h0:0 ≤ i) (h1:i < xs.length):∃ x,x ∈ xs ∧ xs[i.toNat]? = some x ∧ ixK (Lst enc w xs) (.v (.int i)) = some (enc x) ∧ ixD (Lst enc w xs) (.v (.int i)) = some (enc x):=by
  obtain ⟨n,rfl⟩:∃ n:Nat,i = (n:Int):=⟨i.toNat,by omega⟩
  have h2:n < xs.length:=by omega
  have h3:xs[n]? = some xs[n]:=List.getElem?_eq_getElem h2
  exact ⟨xs[n],List.getElem_mem h2,h3,ZoT h3,ix_Lst h3⟩
theorem Zc8 [Ke enc] (h:xs.length + ys.length ≤ 100000):addA (Lst enc w xs) (Lst enc w' ys) = some (Lst enc .own (xs ++ ys)):=by
  simp only [Lst,addA]
  rw [if_pos ⟨by simpa using h,Zbb xs,Zbb ys⟩]
  simp
@[simp] theorem ZpT [Ke enc]:listD (Lst enc w xs) = some (Lst enc .own xs):=by
  simp only [Lst,listD,Zbb,if_true]
@[simp] theorem ZpS [Ke enc]:listD (Tpl enc xs) = some (Lst enc .own xs):=by
  simp only [Lst,Tpl,listD,Zbb,if_true]
@[simp] theorem ZkZ [Ke enc]:tupD (Lst enc w xs) = some (Tpl enc xs):=by
  simp only [Lst,Tpl,tupD,Zbb,if_true]
theorem sl_Lst [Ke enc] {a b:D} {lo hi:Option Int} (ha:partD a = some lo) (hb:partD b = some hi):slD [Lst enc w xs,a,b] = some (Lst enc .own (cutD xs lo hi)):=by
  simp only [Lst,slD,ha,hb,Option.bind_some,Zbb,if_true,cutD,List.map_drop,List.map_take,List.length_map]
theorem seqI_I {ns:List Int}:seqI (Lst D.int w ns) = some ns:=by
  have:∀ ns:List Int,intsD (ns.map D.int) = some ns:=fun ns=>by
    induction ns with
    | nil=>rfl
    | cons i ns ih=>simp [intsD,ih]
  simp [Lst,seqI,seqL,this]
@[simp] theorem sum_I {ns:List Int}:sumD (Lst D.int w ns) = some (.v (.int ns.sum)):=by simp only [sumD,seqI_I]; rfl
@[simp] theorem ZqV {ns:List Int} {k:Int}:maxDfD (Lst D.int w ns) (.v (.int k)) = some (.v (.int ((maxI ns).getD k))):=by
  simp only [maxDfD,seqI_I,Option.bind_some]
  cases maxI ns <;> rfl
@[simp] theorem sort_I {ns:List Int}:sortD (Lst D.int w ns) = some (Lst D.int .own (isrt ns)):=by simp only [sortD,seqI_I]; rfl
@[simp] theorem Zpj {ns:List Int} (h:ns.length < 64):Zb4 (Lst D.int w ns) = some (Lst D.int .own (sset ns)):=by
  simp only [Zb4,seqI_I,Option.bind_some,if_pos h]; rfl
@[simp] theorem mkI1 {a:Int}:mkLst [.v (.int a)] = some (Lst D.int .own [a]):=rfl
@[simp] theorem mkI2 {a b:Int}:mkLst [.v (.int a),.v (.int b)] = some (Lst D.int .own [a,b]):=rfl
@[simp] theorem mkI3 {a b c:Int}:mkLst [.v (.int a),.v (.int b),.v (.int c)] = some (Lst D.int .own [a,b,c]):=rfl
@[simp] theorem mkI4 {a b c d:Int}:mkLst [.v (.int a),.v (.int b),.v (.int c),.v (.int d)] = some (Lst D.int .own [a,b,c,d]):=rfl
@[simp] theorem mkI5 {a b c d e:Int}:mkLst [.v (.int a),.v (.int b),.v (.int c),.v (.int d),.v (.int e)] = some (Lst D.int .own [a,b,c,d,e]):=rfl
@[simp] theorem mkI6 {a b c d e f:Int}:mkLst [.v (.int a),.v (.int b),.v (.int c),.v (.int d),.v (.int e),.v (.int f)] = some (Lst D.int .own [a,b,c,d,e,f]):=rfl
@[simp] theorem mkI7 {a b c d e f g:Int}:mkLst [.v (.int a),.v (.int b),.v (.int c),.v (.int d),.v (.int e),.v (.int f),.v (.int g)] = some (Lst D.int .own [a,b,c,d,e,f,g]):=rfl
@[simp] theorem mkI8 {a b c d e f g h:Int}:mkLst [.v (.int a),.v (.int b),.v (.int c),.v (.int d),.v (.int e),.v (.int f),.v (.int g),.v (.int h)] = some (Lst D.int .own [a,b,c,d,e,f,g,h]):=rfl
class EqE {ρ:Type} (enc:ρ → D) (ok:outParam (ρ → Prop)) where
  p:ρ → PyData
  pd_eq:∀ x,pd (enc x) = some (p x)
  lay:∀ x,ok x → PyData.canLay0 (p x) = true
  dep:∀ x,PyData.depth (p x) ≤ 8
  eqv:∀ x y,PyData.eqv (p x) (p y) = true ↔ x = y
def okS (z:Str):Prop:=∀ c ∈ z.cps.toList,c < 1114112
theorem ZdR {z:Str} (h:okS z):PyData.strOk z = true:=by
  simp [PyData.strOk]; intro i hi; exact h _ (by simp)
instance:EqE D.int (fun _=>True):=⟨.int,fun _=>by simp [pd],fun _ _=>by simp [PyData.canLay0],fun _=>by simp [PyData.depth],fun x y=>by simp [PyData.eqv]⟩
instance:EqE D.str okS:=⟨.str,fun _=>by simp [pd],fun _ h=>by simpa [PyData.canLay0] using ZdR h,fun _=>by simp [PyData.depth],fun x y=>by simp [PyData.eqv]⟩
theorem Zc3 {ok:ρ → Prop} [E:EqE enc ok]:∀ xs:List ρ,pds (xs.map enc) = some (xs.map E.p)
  | []=>rfl
  | x :: xs=>by simp [pds,E.pd_eq,Zc3 xs]
theorem Ziv {ok:ρ → Prop} [E:EqE enc ok]:∀ xs:List ρ,(∀ x ∈ xs,ok x) → PyData.canLayAll0 (xs.map E.p) = true
  | [],_=>rfl
  | x :: xs,h=>by simp [PyData.canLayAll0,E.lay x (h x List.mem_cons_self),Ziv xs fun y hy=>h y (List.mem_cons_of_mem _ hy)]
theorem ZiF {ok:ρ → Prop} [E:EqE enc ok]:∀ xs:List ρ,PyData.depthAll (xs.map E.p) ≤ 8
  | []=>by simp [PyData.depthAll]
  | x :: xs=>by
    have h1:=E.dep x
    have h2:=ZiF (E:=E) xs
    simp only [List.map_cons,PyData.depthAll]
    omega
theorem Zg0 {ok:ρ → Prop} [E:EqE enc ok]:∀ xs ys:List ρ,PyData.eqvAll (xs.map E.p) (ys.map E.p) = true ↔ xs = ys
  | [],[]=>by simp [PyData.eqvAll]
  | [],y :: ys=>by simp [PyData.eqvAll]
  | x :: xs,[]=>by simp [PyData.eqvAll]
  | x :: xs,y :: ys=>by simp [PyData.eqvAll,E.eqv,Zg0 xs ys]
theorem eqD_of {x y:D} {a b:PyData} (hx:pd x = some a) (hy:pd y = some b) (ha:SeqAt.shaped a = true) (hb:SeqAt.shaped b = true):eqD x y = some (.v (.bl (PyData.eqv a b))):=by
  unfold eqD
  rw [hx,hy]
  simp only [Option.bind_some]
  rw [if_pos ⟨ha,hb⟩]
theorem neD_of {x y:D} {a b:PyData} (hx:pd x = some a) (hy:pd y = some b) (ha:SeqAt.shaped a = true) (hb:SeqAt.shaped b = true):neD x y = some (.v (.bl (!PyData.eqv a b))):=by
  unfold neD
  rw [hx,hy]
  simp only [Option.bind_some]
  rw [if_pos ⟨ha,hb⟩]
theorem sh_enc {ok:ρ → Prop} [E:EqE enc ok] (h:∀ x ∈ xs,ok x):SeqAt.shaped (.list (xs.map E.p)) = true:=by
  have h2:=ZiF (E:=E) xs
  simp [SeqAt.shaped,PyData.canLay0,PyData.depth,Ziv xs h]
  omega
theorem ZgF {ok:ρ → Prop} [E:EqE enc ok] (h:∀ x ∈ xs,ok x):SeqAt.shaped (.tuple (xs.map E.p)) = true:=by
  have h2:=ZiF (E:=E) xs
  simp [SeqAt.shaped,PyData.canLay0,PyData.depth,Ziv xs h]
  omega
theorem eq_Lst [DecidableEq ρ] {ok:ρ → Prop} [E:EqE enc ok] (hx:∀ x ∈ xs,ok x) (hy:∀ x ∈ ys,ok x):eqD (Lst enc w xs) (Lst enc w' ys) = some (.v (.bl (decide (xs = ys)))):=by
  rw [eqD_of (a:=.list (xs.map E.p)) (b:=.list (ys.map E.p)) (by simp [Lst,pd,Zc3]) (by simp [Lst,pd,Zc3]) (sh_enc hx) (sh_enc hy)]
  have:=Zg0 (E:=E) xs ys
  simp only [PyData.eqv]
  congr 3
  rw [Bool.eq_iff_iff,this]; simp
theorem Zo3 [DecidableEq ρ] {ok:ρ → Prop} [E:EqE enc ok] (hx:∀ x ∈ xs,ok x) (hy:∀ x ∈ ys,ok x):eqD (Tpl enc xs) (Tpl enc ys) = some (.v (.bl (decide (xs = ys)))):=by
  rw [eqD_of (a:=.tuple (xs.map E.p)) (b:=.tuple (ys.map E.p)) (by simp [Tpl,pd,Zc3]) (by simp [Tpl,pd,Zc3]) (ZgF hx) (ZgF hy)]
  have:=Zg0 (E:=E) xs ys
  simp only [PyData.eqv]
  congr 3
  rw [Bool.eq_iff_iff,this]; simp
theorem Zlq [DecidableEq ρ] {ok:ρ → Prop} [E:EqE enc ok] (hx:∀ x ∈ xs,ok x) (hy:∀ x ∈ ys,ok x):neD (Tpl enc xs) (Tpl enc ys) = some (.v (.bl (!decide (xs = ys)))):=by
  rw [neD_of (a:=.tuple (xs.map E.p)) (b:=.tuple (ys.map E.p)) (by simp [Tpl,pd,Zc3]) (by simp [Tpl,pd,Zc3]) (ZgF hx) (ZgF hy)]
  have:=Zg0 (E:=E) xs ys
  simp only [PyData.eqv]
  congr 4
  rw [Bool.eq_iff_iff,this]; simp
theorem eq_nil {ok:ρ → Prop} [E:EqE enc ok] (hx:∀ x ∈ xs,ok x):eqD (Lst enc w xs) (.n .lst w' []) = some (.v (.bl xs.isEmpty)):=by
  rw [eqD_of (a:=.list (xs.map E.p)) (b:=.list []) (by simp [Lst,pd,Zc3]) (by simp [pd,pds]) (sh_enc hx) (by decide)]
  cases xs <;> simp [PyData.eqv,PyData.eqvAll]
theorem Zir {ok:ρ → Prop} [E:EqE enc ok] (hx:∀ x ∈ xs,ok x):neD (Lst enc w xs) (.n .lst w' []) = some (.v (.bl (!xs.isEmpty))):=by
  rw [neD_of (a:=.list (xs.map E.p)) (b:=.list []) (by simp [Lst,pd,Zc3]) (by simp [pd,pds]) (sh_enc hx) (by decide)]
  cases xs <;> simp [PyData.eqv,PyData.eqvAll]
variable {keep:Bool} {vs:List Nat} {di:DA} {tg:D → Sl → Option Sl} {tst:DT} {elt:DE} {Q:D → Sl → Prop} {out:τ → D}
theorem Zg3 [Ke out] (st:ρ → Sl) (t:ρ → Bool) (f:ρ → τ):∀ (xs:List ρ) (acc:List D),(∀ x ∈ xs,tg (enc x) δ = some (st x) ∧ wipeD (st x) vs = δ ∧ tst (st x) = .ok (t x) (st x) ∧ (t x = true → elt (st x) = .ok (out (f x)) (st x))) → acc.length + xs.length ≤ 100000 → comp vs tg tst elt (xs.map enc) acc δ = .ok (acc ++ ((xs.filter t).map f).map out) δ
  | [],acc,_,_=>by simp [comp]
  | x :: xs,acc,h,hl=>by
    obtain ⟨h1,h2,h3,h4⟩:=h x List.mem_cons_self
    rw [List.map_cons]
    unfold comp
    simp only [h1,h3,noX_ok,Zz]
    cases ht:t x with
    | true =>
      simp only [h4 ht,noX_ok,Zz,Zbm (Ke.kept (enc:=out) (f x))]
      rw [if_pos (by simp at hl; omega),h2,Zg3 st t f xs (acc ++ [out (f x)]) (fun y hy=>h y (List.mem_cons_of_mem _ hy)) (by simp at hl ⊢; omega)]
      simp [ht]
    | false =>
      simp only
      rw [h2,Zg3 st t f xs acc (fun y hy=>h y (List.mem_cons_of_mem _ hy)) (by simp at hl ⊢; omega)]
      simp [ht]
theorem ZnF [Ke out] (st:ρ → Sl) (t:ρ → Bool) (f:ρ → τ) {δ0:Sl} (h1:di δ0 = .ok (xs.map enc) δ) (hw:wipeD δ vs = δ) (h:∀ x ∈ xs,tg (enc x) δ = some (st x) ∧ wipeD (st x) vs = δ ∧ tst (st x) = .ok (t x) (st x) ∧ (t x = true → elt (st x) = .ok (out (f x)) (st x))) (hl:xs.length ≤ 100000):dComp keep vs di tg tst elt δ0 = .ok (Lst out .own ((xs.filter t).map f)) δ:=by
  unfold dComp
  rw [h1,Zz,hw,Zg3 st t f xs [] h (by simpa using hl),Zz]
  cases keep <;> simp [Lst]
/-- [elt for v in its if tst] -/
theorem Zig {i:Nat} [Ke out] (enc:ρ → D) (xs:List ρ) (t:ρ → Bool) (f:ρ → τ) (hd:sat (di s) fun a s'=>a = xs.map enc ∧ s' = s) (hw:s.set i none = s) (h:∀ x ∈ xs,tst (s.set i (some (enc x))) = .ok (t x) (s.set i (some (enc x))) ∧ (t x = true → elt (s.set i (some (enc x))) = .ok (out (f x)) (s.set i (some (enc x))))) (hl:xs.length ≤ 100000) (k:Q (Lst out .own ((xs.filter t).map f)) s):sat (dComp keep [i] di (tgN i) tst elt s) Q:=by
  obtain ⟨a,s',e,rfl,rfl⟩:=hd
  rw [ZnF (enc:=enc) (fun x=>s'.set i (some (enc x))) t f e (by simpa [wipeD] using hw) (fun x hx=>⟨rfl,by simp only [wipeD,List.set_set]; exact hw,(h x hx).1,(h x hx).2⟩) hl]
  exact sat_ok.mpr k
/-- [elt for v in its] -/
theorem sat_cm {i:Nat} [Ke out] (enc:ρ → D) (xs:List ρ) (f:ρ → τ) (hd:sat (di s) fun a s'=>a = xs.map enc ∧ s' = s) (hw:s.set i none = s) (h:∀ x ∈ xs,elt (s.set i (some (enc x))) = .ok (out (f x)) (s.set i (some (enc x)))) (hl:xs.length ≤ 100000) (k:Q (Lst out .own (xs.map f)) s):sat (dComp keep [i] di (tgN i) dtYes elt s) Q :=
  Zig enc xs (fun _=>true) f hd hw (fun x hx=>⟨rfl,fun _=>h x hx⟩) hl (by rw [List.filter_eq_self.mpr (fun _ _=>rfl)]; exact k)
/-- a loop: what holds behind the first things; a return or a break may end it -/
theorem ZeZ {b:DS} {P:Flow → Sl → Prop} (I:List ρ → Sl → Prop) (hs:∀ pre x post s,xs = pre ++ x :: post → I pre s → ∃ s1,tg (enc x) s = some s1 ∧ sat (b s1) fun f s2=>match f with | .nx=>I (pre ++ [x]) s2 | .ct=>I (pre ++ [x]) s2 | .bk=>P .nx s2 | .rt d=>P (.rt d) s2) (h0:I [] s) (k:∀ s,I xs s → P .nx s):sat (loop tg b (xs.map enc) s) P:=by
  have key:∀ (post pre:List ρ) (s:Sl),xs = pre ++ post → I pre s → sat (loop tg b (post.map enc) s) P:=by
    intro post
    induction post with
    | nil =>
      intro pre s e h
      rw [List.append_nil] at e
      subst e
      exact sat_ok.mpr (k s h)
    | cons x post ih =>
      intro pre s e h
      obtain ⟨s1,e1,f,s2,e2,h2⟩:=hs pre x post s e h
      rw [List.map_cons,ZdD e1,e2,Zz]
      cases f with
      | nx=>rw [Zer]; exact ih (pre ++ [x]) s2 (by simp [e]) h2
      | ct=>rw [Zjq]; exact ih (pre ++ [x]) s2 (by simp [e]) h2
      | bk=>rw [Znm]; exact sat_ok.mpr h2
      | rt d=>rw [Znl]; exact sat_ok.mpr h2
  exact key xs [] s rfl h0
theorem ZmU {i:Nat} {a:DE} [Ke enc] (hi:(s[i]?).join = some (Lst enc w xs)) (ha:sat (a s) fun y s1=>∃ x ys,y = enc x ∧ (s1[i]?).join = some (Lst enc .own ys) ∧ ys.length < 100000 ∧ Q .non (s1.set i (some (Lst enc .own (ys ++ [x]))))):sat (dApp i a s) Q:=by
  obtain ⟨y,s',e,x,ys,rfl,h1,hl,k⟩:=ha
  unfold dApp
  unfold Lst at hi h1
  rw [hi]
  simp only [e,Zz,h1,List.length_map,hl,if_true,Zbm (Ke.kept (enc:=enc) x)]
  refine sat_ok.mpr ?_
  have:Lst enc .own (ys ++ [x]) = .n .lst .own (ys.map enc ++ [enc x]):=by simp [Lst]
  rw [← this]
  exact k
theorem ZgG {i:Nat} {a:DE} [Ke enc] (x:ρ) (hi:(s[i]?).join = some (Lst enc .own xs)) (ha:sat (a s) fun y s'=>y = enc x ∧ s' = s) (hl:xs.length < 100000) (k:Q .non (s.set i (some (Lst enc .own (xs ++ [x]))))):sat (dApp i a s) Q :=
  ZmU (w:=.own) hi (Zf ha fun y s1 ⟨h1,h2⟩=>⟨x,xs,h1,by rw [h2]; exact hi,hl,by rw [h2]; exact k⟩)
@[simp] theorem Zqg:(Lst enc .own xs).free = true:=rfl
@[simp] theorem Zpp:(Lst enc .shr xs).free = true:=rfl
@[simp] theorem Zqe:(Tpl enc xs).free = true:=rfl
@[simp] theorem free_v {v:V}:(D.v v).free = true:=rfl
@[simp] theorem Zqc {k:Kd} {ds:List D}:(D.n k .shr ds).free = true:=rfl
@[simp] theorem Zqd {k:Kd} {ds:List D}:(D.n k .own ds).free = true:=rfl
def natE (k:Nat):D:=.v (.int (k:Int))
instance:Ke natE:=⟨fun _=>rfl⟩
theorem itR_I {i:Int} (h0:0 ≤ i) (h1:i ≤ 100000):itR (.v (.int i)) = some ((List.range i.toNat).map natE):=by
  simp only [itR]
  rw [if_pos (by omega)]
  rfl
theorem law_of {F:List D → Out D} {ns:List Int} (h:sat (F [.s ns]) fun y _=>y = .bl true):∃ s,F [.s ns] = .ok (.bl true) s:=by
  obtain ⟨y,s,e,rfl⟩:=h
  exact ⟨s,e⟩
end
end Fs
namespace Lw
open PySem PySem.Spec PyProof.Rows L2 Fs
abbrev boxD (a b c:Int):D:=.n .lst .own [.int a,.int b,.int c]
def IsBox (d:D):Prop:=∃ a b c:Int,d = boxD a b c ∧ 0 ≤ b ∧ b < 2147483647
theorem IsBox.free {d:D} (h:IsBox d):d.free = true:=by obtain ⟨a,b,c,rfl,_⟩:=h; rfl
theorem emod_b (x m:Int) (h:0 < m):0 ≤ x % m ∧ x % m < m:=⟨Int.emod_nonneg x (by omega),Int.emod_lt_of_pos x h⟩
theorem ZmM {d:D} {m:Int} (h:IsBox d) (hm:0 < m) (hm2:m < 1606938044258990275541962092341162602522202993782792835301376):sat (Za [d,.int m]) fun y ios=>∃ r d',y = .int r ∧ ios = [some d',none] ∧ 0 ≤ r ∧ r < m ∧ IsBox d':=by
  obtain ⟨a,b,c,rfl,hb,hb2⟩:=h
  refine sat_F rfl ?_
  by_cases ha:0 < a
  · simp [ZcG,ha,cMod_p hm,cDiv_w hm hm2,ioF]
    exact ⟨(emod_b a m hm).1,(emod_b a m hm).2,_,_,_,rfl,hb,hb2⟩
  · have h1:=emod_b (b * 48271 + 7919 * (c + 1) + 11) 2147483629 (by omega)
    generalize hx:(b * 48271 + 7919 * (c + 1) + 11) % 2147483629 = n1 at h1
    have h2:=emod_b (n1 * n1 % 2147483587 * 69621) 2147483647 (by omega)
    generalize hy:n1 * n1 % 2147483587 * 69621 % 2147483647 = n2 at h2
    have e1:cMul n1 n1 = true:=cMul_l (by omega)
    have e2:cMul n2 n2 = true:=cMul_l (by omega)
    have e3:∀ i,cMul i 48271 = true:=fun i=>cMul_r (by decide)
    have e4:∀ i,cMul 7919 i = true:=fun i=>cMul_l (by decide)
    have e5:∀ i,cMul i 69621 = true:=fun i=>cMul_r (by decide)
    have e6:∀ i j:Int,0 < j → cMod i j = true:=fun i j h=>cMod_p h
    have e7:∀ i,cDiv i 8 = true:=fun i=>cDiv_p (by decide) (by decide)
    simp [ZcG,ha,e1,e2,e3,e4,e5,e6,e7,hm,hx,hy,ioF]
    exact ⟨(emod_b _ m hm).1,(emod_b _ m hm).2,_,_,_,rfl,hb,hb2⟩
theorem Zn {d:D} {m:Int} (h:IsBox d) (hm:0 < m) (hm2:m < 1073741824):sat (Za [d,.int m]) fun y ios=>∃ r d',y = .int r ∧ ios = [some d',none] ∧ 0 ≤ r ∧ r < m ∧ IsBox d':=ZmM h hm (by omega)
@[simp] theorem Zrj {i j:Int}:eqD (.v (.int i)) (.v (.int j)) = some (.v (.bl (decide (i = j)))):=by
  have h1:∀ k:Int,SeqAt.shaped (.int k) = true:=fun k=>rfl
  simp only [eqD,pd,Option.bind_some,h1,and_self,if_true]
  simp only [PyData.eqv,Option.some.injEq,D.v.injEq,V.bl.injEq]; by_cases h:i = j <;> simp [h]
@[simp] theorem ZqT {i j:Int}:neD (.v (.int i)) (.v (.int j)) = some (.v (.bl (!decide (i = j)))):=by
  have h1:∀ k:Int,SeqAt.shaped (.int k) = true:=fun k=>rfl
  simp only [neD,pd,Option.bind_some,h1,and_self,if_true]
  simp only [PyData.eqv,Option.some.injEq,D.v.injEq,V.bl.injEq]; by_cases h:i = j <;> simp [h]
theorem ZgS {ns:List Int}:lenD (.s ns) = some (.int (ns.length:Int)):=rfl
theorem box_sp (i:Int):sat (ZbO [.int i]) fun y _=>IsBox y:=by
  refine sat_F rfl ?_
  have e1:cMod i 2147483647 = true:=cMod_p (by decide)
  have h:=emod_b i 2147483647 (by decide)
  have e2:powD (.v (.int 10)) (.v (.int 18)) = some (.v (.int (10 ^ 18))):=rfl
  simp [Zef,e1,e2,mkLst]
  exact ⟨_,_,_,rfl,h.1,h.2⟩
theorem Zo7 (ns:List Int) (k:Nat) (hk:k ≤ 100):sat (ZbE [.s ns,.int (k:Int)]) fun y _=>∃ i,y = .int i:=by
  refine sat_F rfl ?_
  by_cases h:k < ns.length
  · have e:ixD (.s ns) (.v (.int (k:Int))) = some (.int ns[k]):=by
      simp only [ixD,atI,ixN]
      simp [h]
    simp [Zca,ZgS,h,e]
  · have h3:¬ ((k:Int) < ns.length):=by omega
    by_cases h0:ns.length = 0
    · have e1:cMul 48271 (k:Int) = true:=cMul_l (by decide)
      have h4:¬ ((k:Int) < 0):=by omega
      simp [Zca,ZgS,h0,h4,e1]
    · have h5:¬ (ns = []):=fun z=>h0 (by rw [z]; rfl)
      have e1:cMod (k:Int) (ns.length:Int) = true:=cMod_p (by omega)
      have hm:=emod_b (k:Int) (ns.length:Int) (by omega)
      have e2:ixK (.s ns) (.v (.int ((k:Int) % (ns.length:Int)))) = some (.int (ns[((k:Int) % (ns.length:Int)).toNat]'(by omega))):=by
        simp only [ixK,ixD,atI,ixN]
        have:((k:Int) % (ns.length:Int)).toNat < ns.length:=by omega
        simp [hm.1,hm.2,this]
      have e3:∀ i:Int,cDiv i ((k:Int) + 1) = true:=fun i=>cDiv_p (by omega) (by omega)
      have e4:cMul 7919 (k:Int) = true:=cMul_l (by decide)
      simp [Zca,ZgS,h,h3,h5,e1,e2,e3,e4]
end Lw
namespace Lw
open PySem PySem.Spec PyProof.Rows L2 Fs
section
variable {s:Sl}
theorem Zg {N:Nat} {io:List Bool} {ds:DS} {args:List D} {d:D} (hl:args.length = io.length) (h:sat (ds (args.map some ++ List.replicate (N - args.length) none)) fun f _=>match f with | .nx=>d = .non | .rt x=>x = d | _=>False):callK (runF N io ds) args s = .ok d s:=by
  have h2:sat (runF N io ds args) fun y _=>y = d:=sat_F hl (Zf h fun f s h=>by cases f <;> first | exact h.symm | exact h)
  obtain ⟨y,s',e,rfl⟩:=h2
  exact Zfs e
@[simp] theorem Zpo {i:Int}:isiD "int" (.v (.int i)) = some (.v (.bl true)):=rfl
@[simp] theorem Zpg {i:Int}:isiD "bool" (.v (.int i)) = some (.v (.bl false)):=rfl
@[simp] theorem ZlN {z:Str}:isiD "str" (.v (.str z)) = some (.v (.bl true)):=rfl
@[simp] theorem Zq4 {w:Fl} {ds:List D}:isiD "tuple" (.n .tup w ds) = some (.v (.bl true)):=rfl
@[simp] theorem Zph {i:Int}:callK ZJ [.v (.int i)] s = .ok (.v (.bl true)) s:=Zg rfl (by simp [ZU])
@[simp] theorem ZoU {i lo hi:Int}:callK Zl [.v (.int i),.v (.int lo),.v (.int hi)] s = .ok (.v (.bl (decide (lo ≤ i) && decide (i ≤ hi)))) s:=Zg rfl (by
  by_cases h:lo ≤ i <;> simp [Z2,h])
abbrev sg (c:Nat):D:=D.str ⟨#[c]⟩
def LF:List Nat:=(("abcdefghijklmnopqrstuvwxyz":Str) ++ ("0123456789":Str)).cps.toList
def LT:List Nat:=("abcdefghijklmnopqrstuvwxyz":Str).cps.toList
theorem Z4 (z:Str):z.length = z.cps.toList.length:=by simp [Str.length]
theorem Str.ext' {a b:Str} (h:a.cps.toList = b.cps.toList):a = b:=by
  obtain ⟨⟨x⟩⟩:=a; obtain ⟨⟨y⟩⟩:=b
  simp only at h
  rw [h]
def nameB (cs:List Nat):Bool:=match cs with
  | []=>false
  | c :: _=>decide (cs.length ≤ 8) && (decide (c ∈ LT) && cs.all fun c=>decide (c ∈ LF))
theorem Zg6 (f:Nat → Bool):∀ cs:List Nat,Fs.allB (cs.map fun c=>D.bl (f c)) = some (cs.all f)
  | []=>rfl
  | c :: cs=>by simp [Fs.allB,Zg6 f cs]
theorem Zf7 {i:Nat} {tst:DT} {elt:DE} {g:D → D} {t:D → Bool} {δ:Sl} (hw:δ.set i none = δ):∀ (its acc:List D),(∀ d ∈ its,tst (δ.set i (some d)) = .ok (t d) (δ.set i (some d)) ∧ (t d = true → elt (δ.set i (some d)) = .ok (g d) (δ.set i (some d)) ∧ frz (g d) = g d)) → acc.length + its.length ≤ 100000 → comp [i] (tgN i) tst elt its acc δ = .ok (acc ++ (its.filter t).map g) δ
  | [],acc,_,_=>by simp [comp]
  | d :: its,acc,h,hl=>by
    have h1:=h d List.mem_cons_self
    unfold comp
    have e0:(tgN i) d δ = some (δ.set i (some d)):=rfl
    have e1:wipeD (δ.set i (some d)) [i] = δ:=by simp only [wipeD,List.set_set]; exact hw
    simp only [e0,h1.1,noX_ok,Zz]
    cases ht:t d with
    | true =>
      simp only [(h1.2 ht).1,(h1.2 ht).2,noX_ok,Zz]
      rw [if_pos (by simp at hl; omega),e1,Zf7 hw its (acc ++ [g d]) (fun x hx=>h x (List.mem_cons_of_mem _ hx)) (by simp at hl ⊢; omega)]
      simp [ht]
    | false =>
      simp only
      rw [e1,Zf7 hw its acc (fun x hx=>h x (List.mem_cons_of_mem _ hx)) (by simp at hl ⊢; omega)]
      simp [ht]
theorem Zo5 {i:Nat} {keep:Bool} {di:DA} {tst:DT} {elt:DE} {δ δ1:Sl} {its:List D} (t:D → Bool) (g:D → D) (h1:di δ = .ok its δ1) (hw:(δ1.set i none) = δ1) (h2:∀ d ∈ its,tst (δ1.set i (some d)) = .ok (t d) (δ1.set i (some d)) ∧ (t d = true → elt (δ1.set i (some d)) = .ok (g d) (δ1.set i (some d)) ∧ frz (g d) = g d)) (hl:its.length ≤ 100000):dComp keep [i] di (tgN i) tst elt δ = .ok (.n .lst .own ((its.filter t).map g)) δ1:=by
  unfold dComp
  have e1:wipeD δ1 [i] = δ1:=by simp only [wipeD]; exact hw
  rw [h1,Zz,e1,Zf7 hw its [] h2 (by simpa using hl),Zz]
  cases keep <;> simp
theorem Zo4 {i:Nat} {keep:Bool} {di:DA} {elt:DE} {δ δ1:Sl} {its:List D} (g:D → D) (h1:di δ = .ok its δ1) (hw:(δ1.set i none) = δ1) (h2:∀ d ∈ its,elt (δ1.set i (some d)) = .ok (g d) (δ1.set i (some d)) ∧ frz (g d) = g d) (hl:its.length ≤ 100000):dComp keep [i] di (tgN i) dtYes elt δ = .ok (.n .lst .own (its.map g)) δ1:=by
  have h:=Zo5 (keep:=keep) (i:=i) (tst:=dtYes) (elt:=elt) (fun _=>true) g h1 hw (fun d hd=>⟨rfl,fun _=>h2 d hd⟩) hl
  rw [h,List.filter_eq_self.mpr (fun _ _=>rfl)]
theorem it_str {z:Str}:itA true (.v (.str z)) = some (z.cps.toList.map sg):=rfl
theorem len_str {z:Str} (hl:z.length ≤ 100000):lenD (.v (.str z)) = some (.int z.length):=by simp [lenD,hl]
theorem Zcc {z:Str} {c:Nat} {cs:List Nat} (h:z.cps.toList = c :: cs) (hl:z.length ≤ 100000):ixD (.v (.str z)) (.v (.int 0)) = some (sg c):=by
  simp only [ixD,hl,if_true,h]
  simp [atI,ixN]
theorem add_lf:addA (.v (.str "abcdefghijklmnopqrstuvwxyz")) (.v (.str "0123456789")) = some (.v (.str (("abcdefghijklmnopqrstuvwxyz":Str) ++ ("0123456789":Str)))):=by
  simp only [addA]
  rw [if_pos (by decide +kernel)]
theorem ZdE {z:Str} (hl:z.length ≤ 100):callK Zx [.v (.str z)] s = .ok (.v (.bl (nameB z.cps.toList))) s:=Zg rfl (by
  have hl2:z.length ≤ 100000:=by omega
  have hlen:=Z4 z
  cases hc:z.cps.toList with
  | nil =>
    rw [hc] at hlen
    simp [ZB,len_str hl2,hlen,nameB]
  | cons c cs =>
    rw [hc] at hlen
    simp only [List.length_cons] at hlen
    by_cases h8:z.length ≤ 8
    · by_cases hL:c ∈ LT
      · have hcomp:dComp true [1] (diP (itA true) (pVar 0)) (tgN 1) dtYes (dN (f2 inD) [.k (pVar 1),.v (dN (f2 addA) [.k (pC (.str "abcdefghijklmnopqrstuvwxyz")),.k (pC (.str "0123456789"))])]) [some (D.v (.str z)),none] = .ok (.n .lst .own (((c :: cs).map sg).map fun d=>match d with | .v (.str ⟨⟨[c]⟩⟩)=>D.bl (decide (c ∈ LF)) | _=>.non)) [some (D.v (.str z)),none]:=by
          refine Zo4 _ (by simp only [diP,pVar,List.getElem?_cons_zero,Option.join_some,Option.bind_some,it_str,hc]; rfl) rfl (fun d hd=>?_) (by simp; omega)
          obtain ⟨k,hk,rfl⟩:=List.mem_map.mp hd
          have e2:inD (sg k) (.v (.str (("abcdefghijklmnopqrstuvwxyz":Str) ++ ("0123456789":Str)))) = some (.v (.bl (decide (k ∈ LF)))):=rfl
          constructor
          · simp [add_lf,e2]
          · simp
        have e3:allD (.n .lst .own (((c :: cs).map sg).map fun d=>match d with | .v (.str ⟨⟨[c]⟩⟩)=>D.bl (decide (c ∈ LF)) | _=>.non)) = some (.v (.bl ((c :: cs).all fun c=>decide (c ∈ LF)))):=by
          have:=Zg6 (fun c=>decide (c ∈ LF)) (c :: cs)
          simp only [List.map_map,allD] at this ⊢
          rw [show ((fun d=>match d with | .v (.str ⟨⟨[c]⟩⟩)=>D.bl (decide (c ∈ LF)) | _=>.non) ∘ sg) = fun c=>D.bl (decide (c ∈ LF)) from rfl,this]
          rfl
        generalize (((c :: cs).map sg).map fun d=>match d with | .v (.str ⟨⟨[c]⟩⟩)=>D.bl (decide (c ∈ LF)) | _=>.non) = G at hcomp e3
        have hn:notinD (sg c) (.v (.str "abcdefghijklmnopqrstuvwxyz")) = some (.v (.bl false)):=by show some (D.v (.bl (!decide (c ∈ LT)))) = _; simp [hL]
        have h1:(1:Int) ≤ z.length:=by omega
        have h2:(z.length:Int) ≤ 8:=by omega
        simp only [ZB]
        have h3:cs.length + 1 ≤ 8:=by omega
        simp only [nameB,List.length_cons,h3,hL,decide_true,Bool.true_and]
        simp [len_str hl2,h1,h2,Zcc hc hl2,hn,hcomp,e3]
      · have hn:notinD (sg c) (.v (.str "abcdefghijklmnopqrstuvwxyz")) = some (.v (.bl true)):=by show some (D.v (.bl (!decide (c ∈ LT)))) = _; simp [hL]
        have h1:(1:Int) ≤ z.length:=by omega
        have h2:(z.length:Int) ≤ 8:=by omega
        simp [ZB,len_str hl2,h1,h2,Zcc hc hl2,hn,nameB,hL]
    · have h1:(1:Int) ≤ z.length:=by omega
      have h2:¬ (z.length:Int) ≤ 8:=by omega
      have h3:¬ (cs.length + 1 ≤ 8):=by omega
      simp [ZB,len_str hl2,h1,h2,nameB,h3])
end
end Lw
namespace Lw
open PySem PySem.Spec PyProof.Rows L2 Fs
structure Row where
  nm:Str
  a:Int
  b:Int
  l:Int
  k:Int
abbrev rowD (r:Row):D:=.n .tup .shr [.v (.str r.nm),.v (.int r.a),.v (.int r.b),.v (.int r.l),.v (.int r.k)]
structure Row.ok (r:Row):Prop where
  nm:nameB r.nm.cps.toList = true
  a0:0 ≤ r.a
  a1:r.a ≤ 200
  b0:0 ≤ r.b
  b1:r.a - 1 ≤ r.b
  b2:r.b ≤ 199
  l0:1 ≤ r.l
  l1:r.l ≤ 12
  k0:0 ≤ r.k
  k1:r.k ≤ r.l
theorem ZdB {cs:List Nat} (h:nameB cs = true):cs.length ≤ 8:=by
  cases cs with
  | nil=>simp
  | cons c cs =>
    simp only [nameB,Bool.and_eq_true,decide_eq_true_eq] at h
    exact h.1
section
variable {s:Sl}
@[simp] theorem ixR0 {r:Row}:ixD (rowD r) (.v (.int 0)) = some (.v (.str r.nm)):=rfl
@[simp] theorem ixR1 {r:Row}:ixD (rowD r) (.v (.int 1)) = some (.v (.int r.a)):=rfl
@[simp] theorem ixR2 {r:Row}:ixD (rowD r) (.v (.int 2)) = some (.v (.int r.b)):=rfl
@[simp] theorem ixR3 {r:Row}:ixD (rowD r) (.v (.int 3)) = some (.v (.int r.l)):=rfl
@[simp] theorem ixR4 {r:Row}:ixD (rowD r) (.v (.int 4)) = some (.v (.int r.k)):=rfl
@[simp] theorem lenR {r:Row}:lenD (rowD r) = some (.v (.int 5)):=rfl
theorem ZmI {r:Row} (h:r.ok):callK Zt [rowD r] s = .ok .non s:=Zg rfl (by
  have h1:max 0 (r.a - 1) ≤ r.b:=by have:=h.b0; have:=h.b1; omega
  have h2:=h.b0; have h3:r.a ≤ r.b + 1:=by have:=h.b1; omega
  simp [Zo,h.a0,h.a1,h1,h2,h3,h.b2,h.l0,h.l1,h.k0,h.k1])
theorem in_dct {z:Str} {ks:List Key} {w:Fl} {xs:List D}:inD (.v (.str z)) (.n (.dct ks) w xs) = some (.v (.bl (lkD ks xs (.inr z)).isSome)):=by
  simp [inD,inB,keyD]
theorem Zih {r:Row} {ks:List Key} {w:Fl} {xs:List D} (h:r.ok) (hn:lkD ks xs (.inr r.nm) = none):callK Zs [.n (.dct ks) w xs,rowD r] s = .ok .non s:=Zg rfl (by
  have hl:=ZdB h.nm
  have hl2:r.nm.length ≤ 100:=by rw [Z4]; omega
  simp [Zk,ZdE hl2,h.nm,in_dct,hn,ZmI h])
theorem ZhZ {r:Row}:callK ZD [rowD r] s = .ok (rowD r) s:=Zg rfl (by
  simp [Zbq,dMv,D.free])
end
end Lw
namespace Lw
open PySem PySem.Spec PyProof.Rows L2 Fs
abbrev keyR (r:Row):Key:=.inr r.nm
abbrev keysR (rs:List Row):List Key:=rs.map keyR
abbrev rowsD (rs:List Row):List D:=rs.map rowD
abbrev fivesD (w:Fl) (rs:List Row):D:=.n (.dct (keysR rs)) w (rowsD rs)
abbrev Zj (w:Fl) (rs:List Row):D:=.n (.obj 20 ["fives"]) w [fivesD w rs]
structure RowsOk (rs:List Row):Prop where
  len:rs.length ≤ 30
  nd:(rs.map Row.nm).Nodup
  ok:∀ r ∈ rs,r.ok
def lw:Fl → Fl | .own=>.bor | .bor=>.bor | .shr=>.shr
section
variable {s:Sl}
theorem Zgo {i:Nat} {ks:List Key} {xs:List D} {k:Key} {kk y:D} {kd:DE} {fz:Bool} (hd:s[i]? = some (some (.n (.dct ks) .own xs))) (hk:kd s = .ok kk s) (hkey:keyD kk = some k) (hn:ks.Nodup) (hl:xs.length < 100000) :
    storeK (plV i) kd fz y s = .ok .nx (s.set i (some (.n (.dct (putKs ks k)) .own (putVs ks xs k (if fz then frz y else y))))):=by
  simp only [storeK,Fs.stC,plV,hd,Option.join_some,getP,D.free,ownP,Bool.and_self,if_true,hk,noX_ok,Zz,stEnd,mSet,hkey,Option.bind_some]
  rw [if_pos ⟨hn,hl⟩]
  rfl
theorem lkR (rs:List Row) (z:Str):lkD (keysR rs) (rowsD rs) (.inr z) = (rs.find? fun r=>decide (r.nm = z)).map rowD:=by
  induction rs with
  | nil=>rfl
  | cons r rs ih =>
    simp only [keysR,rowsD,List.map_cons,lkD,List.find?_cons] at ih ⊢
    by_cases h:r.nm = z
    · simp [h]
    · have h2:¬ ((Sum.inr r.nm:Key) = .inr z):=fun e=>h (Sum.inr.inj e)
      simp only [if_neg h2,decide_eq_false h,ih]
theorem Znn {rs:List Row} {z:Str} (h:z ∉ rs.map Row.nm):lkD (keysR rs) (rowsD rs) (.inr z) = none:=by
  rw [lkR,List.find?_eq_none.mpr]
  · rfl
  · intro r hr
    simp only [decide_eq_true_eq]
    exact fun e=>h (List.mem_map.mpr ⟨r,hr,e⟩)
theorem ZfE:∀ {ks:List Key} {k:Key},k ∉ ks → putKs ks k = ks ++ [k]
  | [],k,_=>rfl
  | k' :: ks,k,h=>by
    have h1:k' ≠ k:=fun e=>h (by rw [e]; exact List.mem_cons_self)
    rw [Ze2 h1,ZfE (fun e=>h (List.mem_cons_of_mem _ e))]
    rfl
theorem ZfD {α:Type}:∀ {ks:List Key} {xs:List α} {k:Key} {y:α},k ∉ ks → ks.length = xs.length → putVs ks xs k y = xs ++ [y]
  | [],xs,k,y,_,_=>rfl
  | k' :: ks,[],k,y,h,e=>by simp at e
  | k' :: ks,x :: xs,k,y,h,e=>by
    have h1:k' ≠ k:=fun e=>h (by rw [e]; exact List.mem_cons_self)
    simp only [putVs,if_neg h1,List.cons_append]
    rw [ZfD (fun e=>h (List.mem_cons_of_mem _ e)) (by simpa using e)]
theorem ZlF {rs:List Row} (h:(rs.map Row.nm).Nodup):(keysR rs).Nodup:=by
  have e:keysR rs = (rs.map Row.nm).map Sum.inr:=by simp [keysR,keyR]
  rw [e]
  exact List.pairwise_map.mpr (h.imp fun q e=>q (Sum.inr.inj e))
theorem ZfB (rs:List Row):(rowsD rs).all D.kept = true:=by simp [rowsD,D.kept]
theorem ZfG {n:Nat} {x:D} {xs:List D}:pairsE n (x :: xs) = .n .tup .shr [.int (n:Int),x] :: pairsE (n + 1) xs:=rfl
theorem ZcQ:∀ rs:List Row,lends (rowsD rs) = rowsD rs
  | []=>by simp
  | r :: rs=>by
    have:=ZcQ rs
    simp only [rowsD,List.map_cons,Zkm,Zno] at this ⊢
    rw [this]
theorem ZhY:∀ rs:List Row,frzs (rowsD rs) = rowsD rs
  | []=>by simp
  | r :: rs=>by
    have:=ZhY rs
    simp only [rowsD,List.map_cons,Zf2,ZiD] at this ⊢
    rw [this]
@[simp] theorem ZbY {w:Fl} {rs:List Row}:lend (Zj w rs) = Zj (lw w) rs:=by
  cases w <;> simp [Zj,ZcQ,lw]
@[simp] theorem ZfC {w:Fl} {rs:List Row} {m:Str} (h:(m == ("fives":Str)) = false):rcD 20 m (Zj w rs) = some (Zj w rs):=by
  have h2:¬ (m = "fives"):=fun e=>by rw [e] at h; simp at h
  simp [rcD,h2]
@[simp] theorem Zpi {w:Fl} {rs:List Row}:fldD 20 "fives" (Zj w rs) = some (fivesD w rs):=rfl
@[simp] theorem told_c {w:Fl} {rs:List Row}:callK Zb [Zj w rs] s = .ok (.n .tup .shr (rowsD rs)) s:=Zg rfl (by
  have e:valsTD (fivesD w rs) = some (.n .tup .shr (rowsD rs)):=by simp only [valsTD,ZfB,if_true]
  simp [ZbI,e])
end
end Lw
namespace Lw
open PySem PySem.Spec PyProof.Rows L2 Fs
section
variable {s:Sl} {τ:Type}
theorem ZiG {i:Nat} {tst:DT} {elt:DE} {enc:τ → D} {g:τ → D} {t:τ → Bool} {δ:Sl} (hw:δ.set i none = δ):∀ (xs:List τ) (acc:List D),(∀ x ∈ xs,tst (δ.set i (some (enc x))) = .ok (t x) (δ.set i (some (enc x))) ∧ (t x = true → elt (δ.set i (some (enc x))) = .ok (g x) (δ.set i (some (enc x))) ∧ frz (g x) = g x)) → acc.length + xs.length ≤ 100000 → comp [i] (tgN i) tst elt (xs.map enc) acc δ = .ok (acc ++ (xs.filter t).map g) δ
  | [],acc,_,_=>by simp [comp]
  | x :: xs,acc,h,hl=>by
    have h1:=h x List.mem_cons_self
    rw [List.map_cons]
    unfold comp
    have e0:(tgN i) (enc x) δ = some (δ.set i (some (enc x))):=rfl
    have e1:wipeD (δ.set i (some (enc x))) [i] = δ:=by simp only [wipeD,List.set_set]; exact hw
    simp only [e0,h1.1,noX_ok,Zz]
    cases ht:t x with
    | true =>
      simp only [(h1.2 ht).1,(h1.2 ht).2,noX_ok,Zz]
      rw [if_pos (by simp at hl; omega),e1,ZiG hw xs (acc ++ [g x]) (fun y hy=>h y (List.mem_cons_of_mem _ hy)) (by simp at hl ⊢; omega)]
      simp [ht]
    | false =>
      simp only
      rw [e1,ZiG hw xs acc (fun y hy=>h y (List.mem_cons_of_mem _ hy)) (by simp at hl ⊢; omega)]
      simp [ht]
theorem ZjI {i:Nat} {keep:Bool} {di:DA} {tst:DT} {elt:DE} {δ δ1:Sl} {enc:τ → D} {xs:List τ} (t:τ → Bool) (g:τ → D) (h1:di δ = .ok (xs.map enc) δ1) (hw:(δ1.set i none) = δ1) (h2:∀ x ∈ xs,tst (δ1.set i (some (enc x))) = .ok (t x) (δ1.set i (some (enc x))) ∧ (t x = true → elt (δ1.set i (some (enc x))) = .ok (g x) (δ1.set i (some (enc x))) ∧ frz (g x) = g x)) (hl:xs.length ≤ 100000):dComp keep [i] di (tgN i) tst elt δ = .ok (.n .lst .own ((xs.filter t).map g)) δ1:=by
  unfold dComp
  have e1:wipeD δ1 [i] = δ1:=by simp only [wipeD]; exact hw
  rw [h1,Zz,e1,ZiG hw xs [] h2 (by simpa using hl),Zz]
  cases keep <;> simp
theorem ZeD {i:Nat} {keep:Bool} {di:DA} {elt:DE} {δ δ1:Sl} {enc:τ → D} {xs:List τ} (g:τ → D) (h1:di δ = .ok (xs.map enc) δ1) (hw:(δ1.set i none) = δ1) (h2:∀ x ∈ xs,elt (δ1.set i (some (enc x))) = .ok (g x) (δ1.set i (some (enc x))) ∧ frz (g x) = g x) (hl:xs.length ≤ 100000):dComp keep [i] di (tgN i) dtYes elt δ = .ok (.n .lst .own (xs.map g)) δ1:=by
  have h:=ZjI (keep:=keep) (i:=i) (tst:=dtYes) (elt:=elt) (fun _=>true) g h1 hw (fun d hd=>⟨rfl,fun _=>h2 d hd⟩) hl
  rw [h,List.filter_eq_self.mpr (fun _ _=>rfl)]
theorem ZnI:∀ c ∈ LF,c < 128:=by decide +kernel
theorem ZfK {cs:List Nat} (h:nameB cs = true):∀ c ∈ cs,c < 1114112:=by
  cases cs with
  | nil=>simp
  | cons c cs =>
    simp only [nameB,Bool.and_eq_true,List.all_eq_true,decide_eq_true_eq] at h
    intro d hd
    have:=ZnI d (h.2.2 d hd)
    omega
theorem ZeY {z:Str} (h:∀ c ∈ z.cps.toList,c < 1114112):SeqAt.shaped (.str z) = true:=by
  simp [SeqAt.shaped,PyData.canLay0,PyData.strOk,PyData.depth]; intro i hi; exact h _ (by simp)
theorem Zl3 {a b:Str} (ha:∀ c ∈ a.cps.toList,c < 1114112) (hb:∀ c ∈ b.cps.toList,c < 1114112):eqD (.v (.str a)) (.v (.str b)) = some (.v (.bl (decide (a = b)))):=by
  simp only [eqD,pd,Option.bind_some,ZeY ha,ZeY hb,and_self,if_true]
  simp only [PyData.eqv,Option.some.injEq,D.v.injEq,V.bl.injEq]
  by_cases h:a = b <;> simp [h]
theorem ZiA {rs:List Row} {p:Bool}:itA p (.n .tup .shr (rowsD rs)) = some (rowsD rs):=by
  have h0:(rowsD rs).all D.kept = true ∧ (p = true ∨ Fl.shr ≠ .own):=⟨ZfB rs,.inr (by decide)⟩
  simp only [itA,if_pos h0]
theorem ZlM {rs:List Row} {w:Fl}:itA true (.n .lst w (rowsD rs)) = some (rowsD rs):=by
  have h0:(rowsD rs).all D.kept = true ∧ (true = true ∨ w ≠ .own):=⟨ZfB rs,.inl rfl⟩
  show (if (rowsD rs).all D.kept = true ∧ (true = true ∨ w ≠ .own) then some (rowsD rs) else none) = _
  rw [if_pos h0]
@[simp] theorem intP_i {i:Int}:intP (.v (.int i)) = some (.v (.int i)):=rfl
abbrev stD (a b:Int):D:=.n .tup .shr [.v (.int a),.v (.int b)]
structure StOk (a b:Int):Prop where
  a0:0 ≤ a
  a1:a ≤ 200
  b0:a - 1 ≤ b
  b1:b ≤ 199
@[simp] theorem ixS0 {a b:Int}:ixD (stD a b) (.v (.int 0)) = some (.v (.int a)):=rfl
@[simp] theorem ixS1 {a b:Int}:ixD (stD a b) (.v (.int 1)) = some (.v (.int b)):=rfl
@[simp] theorem lenS {a b:Int}:lenD (stD a b) = some (.v (.int 2)):=rfl
theorem ZhS {a b:Int} (h:StOk a b):callK ZbX [stD a b] s = .ok (.v (.bl true)) s:=Zg rfl (by
  have:=h.b0
  simp [ZbW,h.a0,h.a1,h.b1]
  omega)
theorem ZcI {a b:Int} (h:StOk a b):callK ZS [stD a b] s = .ok .non s:=Zg rfl (by
  simp [ZbR,ZhS h])
theorem ZdA {f:Int} (h0:0 ≤ f) (h1:f ≤ 300):callK Zbc [.v (.int f)] s = .ok .non s:=Zg rfl (by
  simp [ZbJ,h0,h1])
theorem room_c {a b:Int} (h:StOk a b):callK Zdw [stD a b] s = .ok (.v (.int (b - a + 1))) s:=Zg rfl (by
  simp [Zdh,ZcI h])
def inSt (a b:Int) (r:Row):Bool:=decide (a ≤ r.a) && decide (r.b ≤ b)
theorem Zc2 {w:Fl} {rs:List Row} {a b:Int} (h:StOk a b) (hl:rs.length ≤ 1000):callK Zu [Zj w rs,stD a b] s = .ok (.n .lst .own (rowsD (rs.filter (inSt a b)))) s:=Zg rfl (by
  have e1:rcD 20 "told" (Zj w rs) = some (Zj w rs):=ZfC (by decide)
  have e2:lend (Zj w rs) = Zj (lw w) rs:=ZbY
  have hc:=ZjI (keep:=true) (i:=2) (di:=diD (itA true) (dCall Zb (daLend (pRc 20 "told" (pVar 0)) daNil))) (tst:=dtAnd (dtV (dN (f2 geD) [.k (pOp ixD (pVar 2) (pC (.int 1))),.k (pOp ixD (pVar 1) (pC (.int 0)))])) (dtV (dN (f2 leD) [.k (pOp ixD (pVar 2) (pC (.int 2))),.k (pOp ixD (pVar 1) (pC (.int 1)))]))) (elt:=dP (pVar 2)) (δ:=[some (Zj w rs),some (stD a b),none]) (δ1:=[some (Zj w rs),some (stD a b),none]) (enc:=rowD) (xs:=rs) (inSt a b) rowD
    (by simp [diD,e1,e2,ZiA,-ZcB,-ZcC]) rfl (fun o ho=>by
      by_cases h1:a ≤ o.a <;> simp [h1,inSt]) (by omega)
  simp only [ZbU]
  simp [ZcI h,hc])
theorem Zfz {w:Fl} {ns:List Int}:seqI (.n .lst w (ns.map D.int)) = some ns:=by
  have:∀ ns:List Int,intsD (ns.map D.int) = some ns:=fun ns=>by
    induction ns with
    | nil=>rfl
    | cons i ns ih=>simp [intsD,ih]
  simp [seqI,seqL,this]
theorem ZoA {w:Fl} {rs:List Row} {a b:Int} (h:StOk a b) (hl:rs.length ≤ 1000):callK Zc0 [Zj w rs,stD a b] s = .ok (.v (.int (((rs.filter (inSt a b)).map Row.k).sum))) s:=Zg rfl (by
  have e2:lend (Zj w rs) = Zj (lw w) rs:=ZbY
  have hc:=ZeD (keep:=true) (i:=2) (di:=diD (itA true) (dCall Zu (daLend (pVar 0) (daLend (pVar 1) daNil)))) (elt:=dP (pOp ixD (pVar 2) (pC (.int 4)))) (δ:=[some (Zj w rs),some (stD a b),none]) (δ1:=[some (Zj w rs),some (stD a b),none]) (enc:=rowD) (xs:=rs.filter (inSt a b)) (fun r=>D.int r.k)
    (by simp [diD,e2,Zc2 h hl,ZlM,-ZcB,-ZcC]) rfl (fun o ho=>by simp) (by have:=List.length_filter_le (inSt a b) rs; omega)
  have e3:sumD (.n .lst .own ((rs.filter (inSt a b)).map fun r=>D.int r.k)) = some (.v (.int (((rs.filter (inSt a b)).map Row.k).sum))):=by
    have:=Zfz (w:=.own) (ns:=(rs.filter (inSt a b)).map Row.k)
    rw [List.map_map] at this
    simp only [sumD]
    rw [show (fun r:Row=>D.int r.k) = D.int ∘ Row.k from rfl,this]
    rfl
  simp only [ZcS]
  generalize (rs.filter (inSt a b)).map (fun r=>D.int r.k) = G at hc e3
  simp [hc,e3])
end
end Lw
namespace Lw
open PySem PySem.Spec PyProof.Rows L2 Fs
section
variable {s:Sl}
def glI (ns:List Int):Int:=(maxI ns).getD 0
def ksum (rs:List Row) (a b:Int):Int:=((rs.filter (inSt a b)).map Row.k).sum
def lmax (rs:List Row) (a b:Int):Int:=glI ((rs.filter (inSt a b)).map Row.l)
theorem ZlQ {ρ:Type} {f:ρ → Int} {xs:List ρ} {w:Fl}:seqI (.n .lst w (xs.map fun r=>D.int (f r))) = some (xs.map f):=by
  have:=Zfz (w:=w) (ns:=xs.map f)
  rw [List.map_map] at this
  exact this
theorem Zkp {w:Fl} {rs:List Row} {a b:Int} (h:StOk a b) (hl:rs.length ≤ 1000):callK ZbD [Zj w rs,stD a b] s = .ok (.v (.int (lmax rs a b))) s:=Zg rfl (by
  have e2:lend (Zj w rs) = Zj (lw w) rs:=ZbY
  have hc:=ZeD (keep:=true) (i:=2) (di:=diD (itA true) (dCall Zu (daLend (pVar 0) (daLend (pVar 1) daNil)))) (elt:=dP (pOp ixD (pVar 2) (pC (.int 3)))) (δ:=[some (Zj w rs),some (stD a b),none]) (δ1:=[some (Zj w rs),some (stD a b),none]) (enc:=rowD) (xs:=rs.filter (inSt a b)) (fun r=>D.int r.l)
    (by simp [diD,e2,Zc2 h hl,ZlM,-ZcB,-ZcC]) rfl (fun o ho=>by simp) (by have:=List.length_filter_le (inSt a b) rs; omega)
  have e3:maxDfD (.n .lst .own ((rs.filter (inSt a b)).map fun r=>D.int r.l)) (.v (.int 0)) = some (.v (.int (lmax rs a b))):=by
    simp only [maxDfD,ZlQ,Option.bind_some,lmax,glI]
    cases maxI ((rs.filter (inSt a b)).map Row.l) <;> rfl
  simp only [ZbA]
  generalize (rs.filter (inSt a b)).map (fun r=>D.int r.l) = G at hc e3
  simp [hc,e3])
def needI (rs:List Row) (a b f:Int):Int:=ksum rs a b + f * lmax rs a b
theorem need_c {w:Fl} {rs:List Row} {a b f:Int} (h:StOk a b) (hl:rs.length ≤ 1000) (h0:0 ≤ f) (h1:f ≤ 300):callK Zcg [Zj w rs,stD a b,.v (.int f)] s = .ok (.v (.int (needI rs a b f))) s:=Zg rfl (by
  have e2:lend (Zj w rs) = Zj (lw w) rs:=ZbY
  have e3:∀ j,cMul f j = true:=fun j=>cMul_l (by omega)
  simp only [Zdi]
  simp [ZcI h,ZdA h0 h1,e2,ZoA h hl,Zkp h hl,e3,needI,ksum,-ZcB,-ZcC])
@[simp] theorem ZpQ {i j:Int}:callK Zg9 [.v (.int i),.v (.int j)] s = .ok (.v (.bl (decide (i = j)))) s:=Zg rfl (by simp [ZeB])
end
end Lw
namespace Lw
open PySem PySem.Spec PyProof.Rows L2 Fs
/-- a 9 stands at the end alone,behind a z -/
def nineB (cs:List Nat):Bool:=match cs.reverse with
  | 57 :: 122 :: r=>!(r.contains 57)
  | r=>!(r.contains 57)
theorem Zjh {cs:List Nat} (h:57 ∉ cs):nineB cs = true:=by
  have h2:57 ∉ cs.reverse:=by simpa using h
  unfold nineB
  split
  · rename_i r e; rw [e] at h2; simp at h2
  · simpa using h
theorem Zm9 {cs:List Nat} (h:57 ∉ cs):nineB (cs ++ [122,57]) = true:=by
  unfold nineB
  simp [h]
structure NamesG (P:List Nat → Bool) (zs:List Str) (n:Nat):Prop where
  len:zs.length = n
  nd:zs.Nodup
  ok:∀ z ∈ zs,nameB z.cps.toList = true
  nine:∀ z ∈ zs,P z.cps.toList = true
abbrev Zmi:=NamesG nineB
def nmC (cs:List Nat) (at_ f k:Nat):List Nat:=cs.take at_ ++ ((97 + (f + 7 * k) % 26) :: ((if k < 26 then [] else [48]) ++ (cs.drop at_ ++ [122,57].take (k % 3))))
theorem LT_eq:LT = (List.range 26).map (97 + ·):=by decide +kernel
theorem mem_LT {c:Nat}:c ∈ LT ↔ 97 ≤ c ∧ c < 123:=by
  rw [LT_eq]
  simp only [List.mem_map,List.mem_range]
  constructor
  · rintro ⟨i,hi,rfl⟩; omega
  · intro h; exact ⟨c - 97,by omega,by omega⟩
theorem LF_eq:LF = (List.range 26).map (97 + ·) ++ (List.range 10).map (48 + ·):=by decide +kernel
theorem mem_LF {c:Nat}:c ∈ LF ↔ (97 ≤ c ∧ c < 123) ∨ (48 ≤ c ∧ c < 58):=by
  rw [LF_eq]
  simp only [List.mem_append,List.mem_map,List.mem_range]
  constructor
  · rintro (⟨i,hi,rfl⟩ | ⟨i,hi,rfl⟩)
    · left; omega
    · right; omega
  · rintro (h | h)
    · exact .inl ⟨c - 97,by omega,by omega⟩
    · exact .inr ⟨c - 48,by omega,by omega⟩
theorem nmC_ok {cs:List Nat} {at_ f k:Nat} (hc:∀ c ∈ cs,c ∈ LT) (hl:cs.length ≤ 4):nameB (nmC cs at_ f k) = true:=by
  have hx:97 + (f + 7 * k) % 26 ∈ LT:=mem_LT.mpr (by omega)
  have hall:∀ c ∈ nmC cs at_ f k,c ∈ LF:=by
    intro c h
    simp only [nmC,List.mem_append,List.mem_cons] at h
    have hL:∀ c,c ∈ LT → c ∈ LF:=fun c h=>mem_LF.mpr (.inl (mem_LT.mp h))
    rcases h with h | h | h | h | h
    · exact hL c (hc c (List.mem_of_mem_take h))
    · rw [h]; exact hL _ hx
    · split at h
      · cases h
      · simp only [List.mem_singleton] at h; rw [h]; exact mem_LF.mpr (.inr (by omega))
    · exact hL c (hc c (List.mem_of_mem_drop h))
    · have:=List.mem_of_mem_take h
      simp only [List.mem_cons,List.not_mem_nil,or_false] at this
      rcases this with rfl | rfl
      · exact mem_LF.mpr (.inl (by omega))
      · exact mem_LF.mpr (.inr (by omega))
  have hlen:(nmC cs at_ f k).length ≤ 8:=by
    simp only [nmC,List.length_append,List.length_cons,List.length_take,List.length_drop]
    have:(if k < 26 then ([]:List Nat) else [48]).length ≤ 1:=by split <;> simp
    have h3:k % 3 < 3:=by omega
    simp only [List.length_nil]
    omega
  have hd:∃ c r,nmC cs at_ f k = c :: r ∧ c ∈ LT:=by
    unfold nmC
    cases e:cs.take at_ with
    | nil=>exact ⟨_,_,rfl,hx⟩
    | cons c r=>exact ⟨c,_,rfl,hc c (List.mem_of_mem_take (by rw [e]; exact List.mem_cons_self))⟩
  obtain ⟨c,r,e,h1⟩:=hd
  rw [e] at hlen hall ⊢
  simp only [nameB,Bool.and_eq_true,decide_eq_true_eq,List.all_eq_true]
  exact ⟨hlen,h1,hall⟩
theorem Zm8 {cs:List Nat} {at_ f k:Nat} (hc:∀ c ∈ cs,c ∈ LT):nineB (nmC cs at_ f k) = true:=by
  have hb:57 ∉ cs.take at_ ++ ((97 + (f + 7 * k) % 26) :: ((if k < 26 then [] else [48]) ++ cs.drop at_)):=by
    have h1:∀ c ∈ cs,c ≠ 57:=fun c h e=>by have:=mem_LT.mp (hc c h); omega
    simp only [List.mem_append,List.mem_cons]
    rintro (h | h | h | h)
    · exact h1 _ (List.mem_of_mem_take h) rfl
    · omega
    · split at h <;> simp at h
    · exact h1 _ (List.mem_of_mem_drop h) rfl
  have e:nmC cs at_ f k = (cs.take at_ ++ ((97 + (f + 7 * k) % 26) :: ((if k < 26 then [] else [48]) ++ cs.drop at_))) ++ [122,57].take (k % 3):=by simp [nmC]
  rw [e]
  have h3:k % 3 = 0 ∨ k % 3 = 1 ∨ k % 3 = 2:=by omega
  rcases h3 with h3 | h3 | h3 <;> rw [h3]
  · exact Zjh (by simpa using hb)
  · exact Zjh (by simpa using hb)
  · exact Zm9 hb
theorem nmC_ne {cs:List Nat} {at_ f j k:Nat} (hc:∀ c ∈ cs,c ∈ LT) (hjk:j < k) (hk:k < 52):nmC cs at_ f j ≠ nmC cs at_ f k:=by
  intro e
  have e1:=List.append_cancel_left e
  obtain ⟨e2,e3⟩:=List.cons.inj e1
  have h26:k = j + 26:=by omega
  rw [if_pos (by omega),if_neg (by omega),List.nil_append,List.cons_append,List.nil_append] at e3
  cases hd:cs.drop at_ with
  | nil =>
    rw [hd,List.nil_append,List.nil_append] at e3
    have h3:j % 3 = 0 ∨ j % 3 = 1 ∨ j % 3 = 2:=by omega
    rcases h3 with h3 | h3 | h3 <;> rw [h3] at e3 <;> simp at e3
  | cons c r =>
    rw [hd] at e3
    have:=(List.cons.inj e3).1
    have h4:=mem_LT.mp (hc c (List.mem_of_mem_drop (by rw [hd]; exact List.mem_cons_self)))
    omega
theorem Zm2 {P:Nat → Nat → Prop} {n:Nat} (h:∀ j k,j < k → k < n → P j k):(List.range n).Pairwise P:=by
  induction n with
  | zero=>simp
  | succ n ih =>
    rw [List.range_succ,List.pairwise_append]
    refine ⟨ih fun j k h1 h2=>h j k h1 (by omega),by simp,fun j hj k hk=>?_⟩
    simp only [List.mem_singleton] at hk
    subst hk
    exact h j k (List.mem_range.mp hj) (by omega)
def ofC (cs:List Nat):Str:=⟨cs.toArray⟩
theorem Zdz (cs:List Nat):(ofC cs).cps.toList = cs:=rfl
theorem names2 {cs:List Nat} {at_ f n:Nat} (hc:∀ c ∈ cs,c ∈ LT) (hl:cs.length ≤ 4) (hn:n ≤ 52):Zmi ((List.range n).map fun k=>ofC (nmC cs at_ f k)) n:=by
  refine ⟨by simp,?_,?_,?_⟩
  · refine List.pairwise_map.mpr (Zm2 fun j k h1 h2 e=>?_)
    have:=congrArg (fun z:Str=>z.cps.toList) e
    exact nmC_ne hc h1 (by omega) this
  · intro z hz
    obtain ⟨k,_,rfl⟩:=List.mem_map.mp hz
    exact nmC_ok hc hl
  · intro z hz
    obtain ⟨k,_,rfl⟩:=List.mem_map.mp hz
    exact Zm8 hc
def wds:List Str:=["a","ask","b","work","a1","rest","ab","failed","abc","done","ba","off","aa","left"]
def wd (i:Nat):Str:=wds.getD i ""
theorem names1:∀ at_ < 14,∀ n < 15,(decide (((List.range n).map fun k=>wd ((at_ + 3 * k) % 14)).Nodup) && ((List.range n).map fun k=>wd ((at_ + 3 * k) % 14)).all fun z=>nameB z.cps.toList && nineB z.cps.toList) = true:=by decide +kernel
theorem Zlt {at_ n:Nat} (h:at_ < 14) (hn:n < 15):Zmi ((List.range n).map fun k=>wd ((at_ + 3 * k) % 14)) n:=by
  have:=Bool.and_eq_true_iff.mp (names1 at_ h n hn)
  have h2:=List.all_eq_true.mp this.2
  exact ⟨by simp,of_decide_eq_true this.1,fun z hz=>(Bool.and_eq_true_iff.mp (h2 z hz)).1,fun z hz=>(Bool.and_eq_true_iff.mp (h2 z hz)).2⟩
end Lw
namespace Lw
open PySem PySem.Spec PyProof.Rows L2 Fs
section
variable {s:Sl} {α:Type}
@[simp] theorem ZqI {o:Out α} {Q:α → Sl → Prop}:sat (noX o) Q ↔ sat o Q:=by
  cases o <;> simp [noX]
theorem sat_comp {vs:List Nat} {tg:D → Sl → Option Sl} {tst:DT} {elt:DE} (I:List D → List D → Sl → Prop) (hs:∀ d r acc s,I (d :: r) acc s → ∃ s1,tg d s = some s1 ∧ sat (tst s1) fun b s2=>(b = true → sat (elt s2) fun y s3=>acc.length < 100000 ∧ I r (acc ++ [frz y]) (wipeD s3 vs)) ∧ (b = false → I r acc (wipeD s2 vs))) :
    ∀ {its acc:List D} {s:Sl},I its acc s → sat (comp vs tg tst elt its acc s) fun acc' s'=>I [] acc' s'
  | [],acc,s,h=>by unfold comp; exact sat_ok.mpr h
  | d :: r,acc,s,h=>by
    obtain ⟨s1,e1,b,s2,e2,h1,h2⟩:=hs d r acc s h
    unfold comp
    simp only [e1,e2,noX_ok,Zz]
    cases b with
    | true =>
      obtain ⟨y,s3,e3,h3,h4⟩:=h1 rfl
      simp only [e3,noX_ok,Zz,if_pos h3]
      exact sat_comp I hs h4
    | false=>exact sat_comp I hs (h2 rfl)
theorem sat_dComp {keep:Bool} {ns:List Nat} {di:DA} {tg:D → Sl → Option Sl} {tst:DT} {elt:DE} {Q:D → Sl → Prop}:sat (dComp keep ns di tg tst elt s) Q ↔ sat (di s) fun its s1=>sat (comp ns tg tst elt its [] (wipeD s1 ns)) fun acc s2=>Q (.n .lst .own acc) (if keep then s1 else s2):=by
  unfold dComp
  simp only [Zi6,sat_ok]
theorem Zlb {i:Nat} {a:DE} {xs:List D} {w:Fl} {Q:D → Sl → Prop} (h:(s[i]?).join = some (.n .lst w xs)) (h2:sat (a s) fun y s1=>∃ ys,(s1[i]?).join = some (.n .lst .own ys) ∧ ys.length < 100000 ∧ Q .non (s1.set i (some (.n .lst .own (ys ++ [frz y]))))):sat (dApp i a s) Q:=by
  obtain ⟨y,s1,e,ys,h3,h4,h5⟩:=h2
  unfold dApp
  simp only [h,e,Zz,h3,if_pos h4]
  exact sat_ok.mpr h5
theorem Zes {n:Nat} (h:n ≤ 100000):itR (.v (.int (n:Int))) = some ((List.range n).map fun (k:Nat)=>D.int (k:Int)):=by
  simp only [itR]
  rw [if_pos (by omega)]
  rfl
theorem ZoR (cs:List Nat):(Txt.join ("":Str) (cs.map fun c=>(⟨#[c]⟩:Str))).cps.toList = cs:=by
  have h0:(("":Str)).cps = #[]:=rfl
  have h:∀ (cs:List Nat) (a:Array Nat),((cs.map fun c=>(⟨#[c]⟩:Str)).foldl (fun acc p=>acc ++ ("":Str).cps ++ p.cps) a).toList = a.toList ++ cs:=by
    intro cs
    induction cs with
    | nil=>intro a; simp
    | cons c cs ih=>intro a; rw [List.map_cons,List.foldl_cons,ih]; simp [h0]
  unfold Txt.join Builtin.Str.glued
  cases cs with
  | nil=>rfl
  | cons c cs=>simp only [List.map_cons,List.drop_succ_cons,List.drop_zero,List.headD_cons]; rw [h]; simp
theorem ZkX:∀ cs:List Nat,txts (cs.map sg) = some (cs.map fun c=>(⟨#[c]⟩:Str))
  | []=>rfl
  | c :: cs=>by simp [txts,ZkX cs]
theorem Znt (cs:List Nat) (hl:cs.length ≤ 1000):joinD "" (.n .lst .own (cs.map sg)) = some (.v (.str (ofC cs))):=by
  have:Txt.join ("":Str) (cs.map fun c=>(⟨#[c]⟩:Str)) = ofC cs:=Str.ext' (ZoR cs)
  unfold joinD
  simp only [ZkX,Option.bind_some]
  rw [if_pos,this]
  have h1:∀ cs:List Nat,((cs.map fun c=>(⟨#[c]⟩:Str)).map (·.length)).sum = cs.length:=by
    intro cs
    induction cs with
    | nil=>rfl
    | cons c cs ih=>simp only [List.map_cons,List.sum_cons,ih,List.length_cons]; show 1 + cs.length = _; omega
  have h2:("":Str).length = 0:=rfl
  rw [h1,h2]
  omega
theorem Zgt {i:Nat} (h:i < 26):ixK (.v (.str "abcdefghijklmnopqrstuvwxyz")) (.v (.int (i:Int))) = some (sg (97 + i)):=by
  have e:("abcdefghijklmnopqrstuvwxyz":Str).cps.toList = LT:=rfl
  have hl:("abcdefghijklmnopqrstuvwxyz":Str).length ≤ 100000:=by decide +kernel
  simp only [ixK,ixD,hl,if_true,e,atI,ixN,LT_eq]
  have h3:(i:Int) < ((List.map (97 + ·) (List.range 26)).length:Int):=by simp; omega
  rw [if_pos (by omega),if_pos h3]
  simp [h,D.kept]
theorem Zjw {w:Fl} {xs:List D} {i:Nat} {x:D} (h:xs[i]? = some x) (hk:x.kept = true):ixK (.n .lst w xs) (.v (.int (i:Int))) = some x:=by
  have hi:=(List.getElem?_eq_some_iff.mp h).1
  simp only [ixK,ixD,atI,ixN]
  rw [if_pos (by omega),if_pos (by omega)]
  simp [h,hk]
theorem add_str {a b:List Nat} (h:a.length + b.length ≤ 1000):addA (.v (.str (ofC a))) (.v (.str (ofC b))) = some (.v (.str (ofC (a ++ b)))):=by
  have h1:(ofC a).length + (ofC b).length ≤ 100000:=by rw [Z4,Z4,Zdz,Zdz]; omega
  simp only [addA,if_pos h1]
  have:ofC a ++ ofC b = ofC (a ++ b):=Str.ext' (by show ((ofC a).cps ++ (ofC b).cps).toList = _; simp [ofC])
  rw [this]
theorem cut_hi {cs:List Nat} {i:Nat} (h:i ≤ cs.length) (hl:cs.length ≤ 1000):slD [.v (.str (ofC cs)),.v .non,.v (.int (i:Int))] = some (.v (.str (ofC (cs.take i)))):=by
  have h1:(ofC cs).length = cs.length:=by rw [Z4,Zdz]
  have e:cutS (ofC cs) none (some (i:Int)) = ofC (cs.take i):=Str.ext' (by
    show (((ofC cs).cps.toList.drop _).take _).toArray.toList = _
    simp only [HT.sIx,h1,Zdz]
    have:¬ ((i:Int) < 0):=by omega
    simp [this,Nat.min_eq_left h])
  simp only [slD,partD,Option.bind_some,h1,e]
  rw [if_pos (by omega)]
theorem cut_lo {cs:List Nat} {i:Nat} (h:i ≤ cs.length) (hl:cs.length ≤ 1000):slD [.v (.str (ofC cs)),.v (.int (i:Int)),.v .non] = some (.v (.str (ofC (cs.drop i)))):=by
  have h1:(ofC cs).length = cs.length:=by rw [Z4,Zdz]
  have e:cutS (ofC cs) (some (i:Int)) none = ofC (cs.drop i):=Str.ext' (by
    show (((ofC cs).cps.toList.drop _).take _).toArray.toList = _
    simp only [HT.sIx,h1,Zdz]
    have:¬ ((i:Int) < 0):=by omega
    simp only [if_neg this,Int.toNat_natCast,Nat.min_eq_left h]
    rw [List.take_of_length_le (by simp)])
  simp only [slD,partD,Option.bind_some,h1,e]
  rw [if_pos (by omega)]
end
end Lw
namespace Fs
open PySem PySem.Spec PyProof.Rows L2 Lw
section
variable {ρ τ:Type} {enc:ρ → D} {w w':Fl} {xs ys:List ρ} {s δ:Sl} {keep:Bool} {di:DA} {tst:DT} {elt:DE} {Q:D → Sl → Prop} {out:τ → D}
def enE (enc:ρ → D) (p:ρ × Nat):D:=.n .tup .shr [.v (.int (p.2:Int)),enc p.1]
instance:Ke (enE enc):=⟨fun _=>rfl⟩
theorem Zgq:∀ (xs:List ρ) (n:Nat),pairsE n (xs.map enc) = (xs.zipIdx n).map (enE enc)
  | [],n=>rfl
  | x :: xs,n=>by simp [pairsE,Zgq xs (n + 1),enE]
theorem it_En [Ke enc] {p:Bool} (h:p = true ∨ w ≠ .own):itEn p (Lst enc w xs) = some (xs.zipIdx.map (enE enc)):=by
  simp only [Lst,itEn]
  rw [if_pos ⟨Zbb xs,h⟩,Zgq]
theorem ZkS {pre post:List (ρ × Nat)} {x:ρ × Nat} (e:xs.zipIdx = pre ++ x :: post):xs = pre.map Prod.fst ++ x.1 :: post.map Prod.fst ∧ x.2 = pre.length ∧ pre = (pre.map Prod.fst).zipIdx:=by
  have h1:xs = pre.map Prod.fst ++ x.1 :: post.map Prod.fst:=by
    have:=congrArg (List.map Prod.fst) e
    simpa using this
  have h2:=congrArg (fun l:List (ρ × Nat)=>l[pre.length]?) e
  simp only [List.getElem?_append_right (Nat.le_refl _),Nat.sub_self,List.getElem?_cons_zero,List.getElem?_zipIdx] at h2
  have h3:x.2 = pre.length:=by
    cases h4:xs[pre.length]? with
    | none=>rw [h4] at h2; simp at h2
    | some y=>rw [h4] at h2; simp at h2; rw [← h2]
  refine ⟨h1,h3,?_⟩
  have h5:=congrArg (List.take pre.length) e
  rw [List.take_left] at h5
  rw [← h5,h1]
  generalize pre.map Prod.fst = a at *
  refine List.ext_getElem? fun i=>?_
  have hl:pre.length = (pre.map Prod.fst).length:=by simp
  by_cases hi:i < pre.length
  · simp [List.getElem?_take,hi,List.getElem?_zipIdx]
  · simp [List.getElem?_take,hi,List.getElem?_zipIdx]
/-- a comprehension that draws,each thing by the one that it is made of -/
theorem Zn3 {i:Nat} [Ke out] (enc:ρ → D) (xs:List ρ) (Rl:ρ → τ → Prop) (I:Sl → Prop) {s1:Sl} (hd:di s = .ok (xs.map enc) s1) (hl:xs.length ≤ 100000) (h0:I (s1.set i none)) (hs:∀ x s,x ∈ xs → I s → sat (elt (s.set i (some (enc x)))) fun y s2=>∃ z,y = out z ∧ Rl x z ∧ I (s2.set i none)) (k:∀ (zs:List (ρ × τ)) s,zs.map Prod.fst = xs → (∀ z ∈ zs,Rl z.1 z.2) → I s → Q (Lst out .own (zs.map Prod.snd)) s):sat (dComp false [i] di (tgN i) dtYes elt s) Q:=by
  refine Lw.sat_dComp.mpr ?_
  rw [hd]
  simp only [sat_ok,wipeD]
  refine Zf (Lw.sat_comp (I:=fun r acc s=>∃ (zs:List (ρ × τ)) (rest:List ρ),acc = (zs.map Prod.snd).map out ∧ r = rest.map enc ∧ zs.map Prod.fst ++ rest = xs ∧ (∀ z ∈ zs,Rl z.1 z.2) ∧ I s) ?_ ⟨[],xs,rfl,rfl,rfl,by simp,h0⟩) ?_
  · rintro d r acc s ⟨zs,rest,rfl,er,ex,hz,hi⟩
    cases rest with
    | nil=>simp at er
    | cons x rest =>
      rw [List.map_cons] at er
      obtain ⟨rfl,rfl⟩:=List.cons.inj er
      refine ⟨_,rfl,true,_,rfl,fun _=>?_,by simp⟩
      refine Zf (hs x s (by rw [← ex]; simp) hi) ?_
      rintro _ s2 ⟨z,rfl,hp,hi2⟩
      have hlen:zs.length + (rest.length + 1) = xs.length:=by rw [← ex]; simp
      refine ⟨by simp; omega,zs ++ [(x,z)],rest,by simp [Zbm (Ke.kept (enc:=out) z)],rfl,by simpa using ex,fun y hy=>?_,hi2⟩
      rcases List.mem_append.mp hy with q | q
      · exact hz y q
      · rw [List.mem_singleton.mp q]; exact hp
  · rintro acc s ⟨zs,rest,rfl,er,ex,hz,hi⟩
    cases rest with
    | cons x rest=>simp at er
    | nil =>
      rw [List.append_nil] at ex
      exact k zs s ex hz hi
def optE (enc:ρ → D):Option ρ → D | some x=>enc x | none=>.non
theorem ZdG {i:Nat} (h:i ≤ xs.length):cutD xs none (some (i:Int)) = xs.take i:=by
  unfold cutD
  simp only [HT.sIx]
  rw [if_neg (by omega)]
  simp [Nat.min_eq_left h]
theorem ZdF {i:Nat}:cutD xs (some (i:Int)) none = xs.drop i:=by
  unfold cutD
  simp only [HT.sIx]
  rw [if_neg (by omega)]
  rcases Nat.le_total i xs.length with h | h
  · simp [Nat.min_eq_left h]
    rw [List.take_of_length_le (by simp)]
  · simp [Nat.min_eq_right h,h]
theorem ioF_f:∀ (io:List Bool) (δ:Sl),io.all (!·) = true → ioF io δ = io.map fun _=>none
  | [],_,_=>rfl
  | b :: bs,[],h=>by
    simp only [List.all_cons,Bool.and_eq_true,Bool.not_eq_true'] at h
    simp [ioF,ioF_f bs [] h.2]
  | b :: bs,o :: δ,h=>by
    simp only [List.all_cons,Bool.and_eq_true,Bool.not_eq_true'] at h
    simp [ioF,h.1,ioF_f bs δ h.2]
/-- a def that changes nothing of its caller's,called among ones that do -/
theorem ZmT {N:Nat} {io:List Bool} {ds:DS} {args:List D} {d:D} (h:callK (runF N io ds) args [] = .ok d []) (hio:io.all (!·) = true:=by rfl):sat (runF N io ds args) fun y ios=>y = d ∧ ios = io.map fun _=>none:=by
  unfold callK at h
  cases e:runF N io ds args with
  | bad=>rw [e] at h; cases h
  | exc c xs s=>rw [e] at h; cases h
  | ok y s =>
    rw [e] at h
    cases h
    refine ⟨_,_,rfl,rfl,?_⟩
    unfold runF at e
    split at e
    · split at e <;> cases e <;> exact ioF_f _ _ hio
    · cases e
def kdE (x:{d:D // d.kept = true}):D:=x.1
instance:Ke kdE:=⟨fun x=>x.2⟩
theorem Zn9 {x:D} {d:PyData} (hx:pd x = some d) (h:(d.showable && (!d.hasDict && (decide (d.depth ≤ 60) && decide (d.shown.length ≤ 1000000)))) = true):reprD x = some (.v (.str d.shown)):=by
  simp only [Bool.and_eq_true,Bool.not_eq_true',decide_eq_true_eq] at h
  unfold reprD
  split
  · simp [pd] at hx
  · rw [hx,Option.bind_some,if_pos h]
def tryK (n:Nat → Bool) (hs:List Hn):Out Flow → Out Flow
  | .exc c xs δ1=>if n c = true ∧ xs.all D.kept = true then pick c xs hs δ1 else .bad
  | o=>o
@[simp] theorem Zrp {n:Nat → Bool} {b:DS} {hs:List Hn}:dsTry n b hs s = tryK n hs (b s):=by unfold dsTry tryK; cases b s <;> rfl
@[simp] theorem ZqD {n:Nat → Bool} {hs:List Hn} {f:Flow}:tryK n hs (.ok f s) = .ok f s:=rfl
theorem Zi1 {n:Nat → Bool} {hs:List Hn} {c:Nat} {xs:List D} (h:n c = true) (hk:xs.all D.kept = true):tryK n hs (.exc c xs s) = pick c xs hs s:=if_pos ⟨h,hk⟩
/-- a pure def that raises -/
theorem Zg4 {N:Nat} {io:List Bool} {ds:DS} {args:List D} {c:Nat} {xs:List D} {s':Sl} (hl:args.length = io.length) (h:ds (args.map some ++ List.replicate (N - args.length) none) = .exc c xs s'):callK (runF N io ds) args s = .exc c xs s:=by
  unfold callK
  rw [runF_c hl,h]
  rfl
theorem tgT_2 {i j:Nat} {a b:D} (ha:a.kept = true) (hb:b.kept = true):tgT [tgN i,tgN j] (.n .tup .shr [a,b]) s = some ((s.set i (some a)).set j (some b)):=by
  simp [tgT,ha,hb,tgs,tgN]
end
end Fs
namespace Fs
open PySem PySem.Spec PyProof.Rows L2
mutual
def rc:PyData → Nat
  | .none=>4
  | .bool _=>5
  | .int _=>42
  | .str x=>(reprText x).length
  | .list xs=>rcs xs + 2
  | .tuple xs=>rcs xs + 3
  | .dict _=>0
def rcs:List PyData → Nat
  | []=>0
  | x :: xs=>rc x + 2 + rcs xs
end
mutual
def sm:PyData → Bool
  | .int i=>decide (i.natAbs < 10 ^ 40)
  | .list xs=>sms xs
  | .tuple xs=>sms xs
  | .dict _=>false
  | _=>true
def sms:List PyData → Bool
  | []=>true
  | x :: xs=>sm x && sms xs
end
theorem Zlr {n:Nat} (h:n < 10 ^ 40):(Str.ofString (toString (Int.ofNat n))).length ≤ 40:=by
  rw [text_ofNat]
  show ((Nat.toDigits 10 n).map Char.toNat).toArray.size ≤ 40
  rw [List.size_toArray,List.length_map]
  exact (Nat.length_toDigits_le_iff (by decide) (by decide)).mpr h
theorem ZoV {i:Int} (h:i.natAbs < 10 ^ 40):(Str.ofString (toString i)).length ≤ 42:=by
  cases i with
  | ofNat n=>have:=Zlr (n:=n) h; omega
  | negSucc n =>
    have h2:=Zlr (n:=n + 1) h
    rw [len_text_neg (by omega),show (0:Int) - Int.negSucc n = Int.ofNat (n + 1) by rw [Int.negSucc_eq]; show _ = ((n + 1:Nat):Int); omega]
    omega
theorem Zly:∀ ts:List Str,(listText ts).length ≤ piled ts + 2
  | []=>by decide
  | t :: ts=>by
    have h:=textFrom_length_pos ts 1 (("[":Str) ++ (if 0 > 0 then ", " else "":String) ++ t) (by decide)
    have e:(listText (t :: ts)).length = (textFrom 1 (("[":Str) ++ (if 0 > 0 then ", " else "":String) ++ t) ts).length + 1:=by
      show (textFrom 0 "[" (t :: ts) ++ "]").length = _
      rw [strLen_append]; rfl
    rw [e,h,strLen_append,strLen_append,piled_cons]
    have e1:("[":Str).length = 1:=rfl
    have e2:(Str.ofString (if 0 > 0 then ", " else "":String)).length = 0:=rfl
    omega
theorem Zi0 (ts:List Str):(tupleText ts).length ≤ piled ts + 3:=by
  have e:(tupleText ts).length ≤ 1 + (Str.join ", " ts).length + 2:=by
    unfold tupleText
    rw [strLen_append,strLen_append]
    have e1:("(":Str).length = 1:=rfl
    have e2:(Str.ofString (if ts.length == 1 then ",)" else ")":String)).length ≤ 2:=by split <;> decide
    omega
  by_cases h:ts = []
  · subst h
    have e3:(Str.join ", " ([]:List Str)).length = 0:=rfl
    omega
  · have:=join_length_add ts h
    omega
mutual
theorem rc_ok:∀ d:PyData,sm d = true → d.shown.length ≤ rc d ∧ d.showable = true ∧ d.hasDict = false
  | .none,_=>⟨by decide,rfl,rfl⟩
  | .bool b,_=>⟨by cases b <;> decide,rfl,rfl⟩
  | .int i,h=>by
    have h1:i.natAbs < 10 ^ 40:=by simpa [sm] using h
    refine ⟨by simp only [PyData.shown,rc]; exact ZoV h1,?_,rfl⟩
    simp only [PyData.showable,decide_eq_true_eq]
    by_cases h0:i.natAbs = 0
    · rw [h0]; decide
    · exact (Nat.log2_lt h0).mpr (Nat.lt_trans h1 (by decide +kernel))
  | .str x,_=>⟨by simp only [PyData.shown,rc]; exact Nat.le_refl _,rfl,rfl⟩
  | .list xs,h=>by
    obtain ⟨h1,h2,h3⟩:=rcs_ok xs (by simpa [sm] using h)
    refine ⟨?_,by simpa [PyData.showable] using h2,by simpa [PyData.hasDict] using h3⟩
    simp only [PyData.shown,rc]
    have:=Zly (PyData.shownAll xs)
    omega
  | .tuple xs,h=>by
    obtain ⟨h1,h2,h3⟩:=rcs_ok xs (by simpa [sm] using h)
    refine ⟨?_,by simpa [PyData.showable] using h2,by simpa [PyData.hasDict] using h3⟩
    simp only [PyData.shown,rc]
    have:=Zi0 (PyData.shownAll xs)
    omega
  | .dict _,h=>by simp [sm] at h
theorem rcs_ok:∀ ds:List PyData,sms ds = true → piled (PyData.shownAll ds) ≤ rcs ds ∧ PyData.showableAll ds = true ∧ PyData.hasDictAll ds = false
  | [],_=>⟨by simp [PyData.shownAll,rcs,piled],rfl,rfl⟩
  | x :: xs,h=>by
    simp only [sms,Bool.and_eq_true] at h
    obtain ⟨a1,a2,a3⟩:=rc_ok x h.1
    obtain ⟨b1,b2,b3⟩:=rcs_ok xs h.2
    refine ⟨?_,by simp [PyData.showableAll,a2,b2],by simp [PyData.hasDictAll,a3,b3]⟩
    simp only [PyData.shownAll,piled_cons,rcs]
    omega
end
section
variable {ρ:Type} {enc:ρ → D} {xs ys:List ρ}
theorem sl_Tpl [Ke enc] {a b:D} {lo hi:Option Int} (ha:partD a = some lo) (hb:partD b = some hi):slD [Tpl enc xs,a,b] = some (Tpl enc (cutD xs lo hi)):=by
  simp only [Tpl,slD,ha,hb,Option.bind_some,Zbb,if_true,cutD,List.map_drop,List.map_take,List.length_map]
theorem Zg7 [Ke enc] (h:xs.length + ys.length ≤ 100000):addA (Tpl enc xs) (Tpl enc ys) = some (Tpl enc (xs ++ ys)):=by
  simp only [Tpl,addA]
  rw [if_pos ⟨by simpa using h,Zbb xs,Zbb ys⟩]
  simp
theorem ix_Tpl [Ke enc] {i:Nat} {x:ρ} (h:xs[i]? = some x):ixD (Tpl enc xs) (.v (.int (i:Int))) = some (enc x):=by
  have hl:i < xs.length:=(List.getElem?_eq_some_iff.mp h).1
  simp only [Tpl,ixD,atI,ixN]
  have h2:xs[i] = x:=by rw [List.getElem?_eq_getElem hl] at h; exact Option.some.inj h
  simp [hl,h2]
end
abbrev KD:={d:D // d.kept = true}
def kdI (i:Int):KD:=⟨.v (.int i),rfl⟩
theorem Zn8 {x:D} {d:PyData} (hx:pd x = some d) (hs:sm d = true) (hd:d.depth ≤ 60) (hc:rc d ≤ 1000000):reprD x = some (.v (.str d.shown)):=by
  obtain ⟨h1,h2,h3⟩:=rc_ok d hs
  refine Zn9 hx ?_
  simp only [h2,h3,Bool.not_false,Bool.true_and,Bool.and_eq_true,decide_eq_true_eq]
  exact ⟨hd,by omega⟩
end Fs
set_option maxHeartbeats 1000000
namespace Lw
open PySem PySem.Spec PyProof.Rows L2 Fs
theorem wdsD:mkLst [D.v (.str "a"),.v (.str "ask"),.v (.str "b"),.v (.str "work"),.v (.str "a1"),.v (.str "rest"),.v (.str "ab"),.v (.str "failed"),.v (.str "abc"),.v (.str "done"),.v (.str "ba"),.v (.str "off"),.v (.str "aa"),.v (.str "left")] = some (.n .lst .own (wds.map D.str)):=rfl
def ZjP (P:List Nat → Bool) (n:Nat) (y:D) (ios:Sl):Prop:=∃ zs d',y = .n .lst .own (zs.map D.str) ∧ NamesG P zs n ∧ ios = [some d',none] ∧ IsBox d'
abbrev ZiJ:=ZjP nineB
def FlowP (io:List Bool) (Q:D → Sl → Prop):Fs.Flow → Sl → Prop:=fun f s=>match f with | .nx=>Q .non (ioF io s) | .rt d=>Q d (ioF io s) | _=>False
@[simp] theorem ZqB {io:List Bool} {Q:D → Sl → Prop} {d:D} {s:Sl}:FlowP io Q (.rt d) s = Q d (ioF io s):=rfl
@[simp] theorem ZqC {io:List Bool} {Q:D → Sl → Prop} {s:Sl}:FlowP io Q .nx s = Q .non (ioF io s):=rfl
theorem sat_F' {N:Nat} {io:List Bool} {ds:DS} {args:List D} {Q:D → Sl → Prop} (hl:args.length = io.length) (h:sat (ds (args.map some ++ List.replicate (N - args.length) none)) (FlowP io Q)):sat (runF N io ds args) Q:=sat_F hl h
abbrev ltrs:D:=.v (.str "abcdefghijklmnopqrstuvwxyz")
def nmBody:DS:=(dsSeq (dsAsg (dN (f2 addA) [.v (dN (f2 ixK) [.k (pVar 2),.v (dN (f2 modD) [.v (dN (f2 addA) [.k (pVar 7),.v (dN (f2 mulA) [.k (pC (.int 7)),.k (pVar 5)])]),.k (pC (.int 26))])]),.v (dN (f2 ixK) [.v (dF mkLst (daCons (dP (pC (.str ""))) (daCons (dP (pC (.str "0"))) daNil))),.v (dN (f2 divD) [.k (pVar 5),.k (pC (.int 26))])])]) (tgN 9)) (dsDrop (dApp 8 (dN (f2 addA) [.v (dN (f2 addA) [.v (dN (f2 addA) [.v (dN slD [.k (pVar 6),.k (pC .non),.k (pUn intP (pVar 4))]),.k (pVar 9)]),.v (dN slD [.k (pVar 6),.k (pUn intP (pVar 4)),.k (pC .non)])]),.v (dN slD [.k (pC (.str "z9")),.k (pC .non),.v (d1 intP (dN (f2 modD) [.k (pVar 5),.k (pC (.int 3))]))])]))))
def nmRest (B:DS):DS:=(dsSeq (dsAsg (dNI (f1 (joinD "")) [.v (dComp false [5] (diD itR (Zd Za [.o 0,.v (dP (pC (.int 5)))])) (tgN 5) dtYes (dNI (f2 ixK) [.l 2,.v (Zd Za [.o 0,.v (dP (pC (.int 26)))])]))]) (tgN 6)) (dsSeq (dsAsg (Zd Za [.o 0,.v (dN (f2 addA) [.v (dN (f1 lenD) [.k (pVar 6)]),.k (pC (.int 1))])]) (tgN 4)) (dsSeq (dsAsg (Zd Za [.o 0,.v (dP (pC (.int 26)))]) (tgN 7)) (dsSeq (dsAsg (dF mkLst daNil) (tgN 8)) (dsSeq (dsFor (diD itR (dP (pVar 1))) (tgN 5) B) (dsRet (dMv 8)))))))
def BodySp (B:DS):Prop:=∀ {d0:Option D} {cs:List Nat} {n at_ f k:Nat} {acc:List D} {x3 x9:Option D} (ha:at_ ≤ cs.length) (hl:cs.length ≤ 4) (hk:k < 52) (hacc:acc.length < 100000),sat (B [d0,some (.int (n:Int)),some ltrs,x3,some (.int (at_:Int)),some (.int (k:Int)),some (.v (.str (ofC cs))),some (.int (f:Int)),some (.n .lst .own acc),x9]) fun fl s=>fl = .nx ∧ ∃ x9',s = [d0,some (.int (n:Int)),some ltrs,x3,some (.int (at_:Int)),some (.int (k:Int)),some (.v (.str (ofC cs))),some (.int (f:Int)),some (.n .lst .own (acc ++ [.v (.str (ofC (nmC cs at_ f k)))])),x9']
theorem Zpc {d0:Option D} {cs:List Nat} {n at_ f k:Nat} {acc:List D} {x3 x9:Option D} (ha:at_ ≤ cs.length) (hl:cs.length ≤ 4) (hk:k < 52) (hacc:acc.length < 100000) :
    sat (nmBody [d0,some (.int (n:Int)),some ltrs,x3,some (.int (at_:Int)),some (.int (k:Int)),some (.v (.str (ofC cs))),some (.int (f:Int)),some (.n .lst .own acc),x9]) fun fl s=>fl = .nx ∧ ∃ x9',s = [d0,some (.int (n:Int)),some ltrs,x3,some (.int (at_:Int)),some (.int (k:Int)),some (.v (.str (ofC cs))),some (.int (f:Int)),some (.n .lst .own (acc ++ [.v (.str (ofC (nmC cs at_ f k)))])),x9']:=by
  have e1:cMul 7 (k:Int) = true:=cMul_l (by decide)
  have e2:cMod ((f:Int) + 7 * (k:Int)) 26 = true:=cMod_p (by decide)
  have e3:((f:Int) + 7 * (k:Int)) % 26 = (((f + 7 * k) % 26:Nat):Int):=by omega
  have e4:=Zgt (i:=(f + 7 * k) % 26) (by omega)
  have e5:mkLst [D.v (.str ""),.v (.str "0")] = some (.n .lst .own [.v (.str ""),.v (.str "0")]):=rfl
  have e6:cDiv (k:Int) 26 = true:=cDiv_p (by decide) (by decide)
  have e7:ixK (.n .lst .own [.v (.str ""),.v (.str "0")]) (.v (.int ((k:Int) / 26))) = some (.v (.str (ofC (if k < 26 then [] else [48])))):=by
    by_cases h:k < 26
    · rw [show (k:Int) / 26 = ((0:Nat):Int) by omega,if_pos h]; rfl
    · rw [show (k:Int) / 26 = ((1:Nat):Int) by omega,if_neg h]; rfl
  have e8:cMod (k:Int) 3 = true:=cMod_p (by decide)
  have e9:((k:Int) % 3) = ((k % 3:Nat):Int):=by omega
  have e10:slD [.v (.str "z9"),.v .non,.v (.int ((k % 3:Nat):Int))] = some (.v (.str (ofC ([122,57].take (k % 3))))):=cut_hi (cs:=[122,57]) (by simp; omega) (by simp)
  have e11:addA (sg (97 + (f + 7 * k) % 26)) (.v (.str (ofC (if k < 26 then [] else [48])))) = some (.v (.str (ofC ([97 + (f + 7 * k) % 26] ++ (if k < 26 then [] else [48]))))):=add_str (a:=[97 + (f + 7 * k) % 26]) (by split <;> simp)
  generalize hS:[97 + (f + 7 * k) % 26] ++ (if k < 26 then [] else [48]) = sgn at e11
  have hsl:sgn.length ≤ 2:=by rw [← hS]; split <;> simp
  have e12:=cut_hi ha (by omega)
  have e13:=cut_lo ha (by omega)
  have e14:addA (.v (.str (ofC (cs.take at_)))) (.v (.str (ofC sgn))) = _:=add_str (by simp; omega)
  have e15:addA (.v (.str (ofC (cs.take at_ ++ sgn)))) (.v (.str (ofC (cs.drop at_)))) = _:=add_str (by simp; omega)
  have e16:addA (.v (.str (ofC ((cs.take at_ ++ sgn) ++ cs.drop at_)))) (.v (.str (ofC ([122,57].take (k % 3))))) = _:=add_str (by simp; omega)
  have e17:((cs.take at_ ++ sgn) ++ cs.drop at_) ++ [122,57].take (k % 3) = nmC cs at_ f k:=by
    unfold nmC
    rw [← hS]
    simp
  rw [e17] at e16
  generalize hM:(f + 7 * k) % 26 = m at e3 e4 e11 hS
  generalize hT3:k % 3 = t at e9 e10 e16
  generalize hT:ofC ([122,57].take t) = tl at e10 e16
  generalize hU:(ofC (if k < 26 then [] else [48])) = sfx at e7 e11
  simp only [nmBody]
  simp [e1,e2,e3,e4,e5,e6,e7,e11]
  refine Zlb (w:=.own) (xs:=acc) rfl ?_
  simp [e8,e9,e10,e12,e13,e14,e15,e16,hacc,-List.append_assoc]
theorem ZgH {B:DS} (hB:BodySp B) {d:D} {n:Nat} {x3 x4:Option D} (h:IsBox d) (hn:n ≤ 52):sat (nmRest B [some d,some (.int (n:Int)),some ltrs,x3,x4,none,none,none,none,none]) (FlowP [true,false] (ZiJ n)):=by
  have hf:=h.free
  simp only [nmRest]
  simp [sat_dComp,diD,hf]
  refine Zf (Zn h (by decide) (by decide)) ?_
  rintro _ _ ⟨r,d1,rfl,rfl,hr0,hr1,hb1⟩
  have hf1:=hb1.free
  obtain ⟨r',rfl⟩:∃ r':Nat,r = (r':Int):=⟨r.toNat,by omega⟩
  simp [hf1,Zes (n:=r') (by omega)]
  refine Zf (sat_comp (I:=fun its acc s=>∃ cs dd,acc = cs.map sg ∧ (∀ c ∈ cs,c ∈ LT) ∧ cs.length + its.length ≤ 4 ∧ IsBox dd ∧ s = [some dd,some (.int (n:Int)),some ltrs,x3,x4,none,none,none,none,none]) ?_ ⟨[],d1,rfl,by simp,by simp; omega,hb1,by simp [wipeD]⟩) ?_
  · rintro it r acc s ⟨cs,dd,rfl,hc,hl,hbd,rfl⟩
    have hfd:=hbd.free
    refine ⟨_,rfl,?_⟩
    simp [hfd,wipeD]
    refine Zf (Zn hbd (by decide) (by decide)) ?_
    rintro _ _ ⟨i,d2,rfl,rfl,hi0,hi1,hb2⟩
    obtain ⟨i',rfl⟩:∃ i':Nat,i = (i':Int):=⟨i.toNat,by omega⟩
    have e4:=Zgt (i:=i') (by omega)
    simp [hb2.free,e4]
    refine ⟨by simp at hl; omega,cs ++ [97 + i'],by simp,fun c hc2=>?_,by simp at hl ⊢; omega,hb2⟩
    rcases List.mem_append.mp hc2 with q | q
    · exact hc c q
    · rw [List.mem_singleton.mp q]; exact mem_LT.mpr (by omega)
  · rintro acc s ⟨cs,dd,rfl,hc,hl,hbd,rfl⟩
    have hfd:=hbd.free
    simp only [List.length_nil,Nat.add_zero] at hl
    have e1:=Znt cs (by omega)
    have e2:lenD (.v (.str (ofC cs))) = some (.v (.int (cs.length:Int))):=by rw [len_str (by rw [Z4,Zdz]; omega),Z4,Zdz]
    generalize cs.map sg = G at e1
    simp [e1,e2,hfd]
    refine Zf (Zn hbd (by omega) (by omega)) ?_
    rintro _ _ ⟨a,d2,rfl,rfl,ha0,ha1,hb2⟩
    obtain ⟨a',rfl⟩:∃ a':Nat,a = (a':Int):=⟨a.toNat,by omega⟩
    simp [hb2.free]
    refine Zf (Zn hb2 (by omega) (by omega)) ?_
    rintro _ _ ⟨f,d3,rfl,rfl,hf0,hf1',hb3⟩
    obtain ⟨f',rfl⟩:∃ f':Nat,f = (f':Int):=⟨f.toNat,by omega⟩
    have em:mkLst [] = some (.n .lst .own []):=rfl
    simp [hb3.free,em,diD,Zes (n:=n) (by omega)]
    refine Zf (Zfl (I:=fun its s=>∃ k x5 x9,k ≤ n ∧ its = (List.range' k (n - k)).map (fun (j:Nat)=>D.int (j:Int)) ∧ s = [some d3,some (.int (n:Int)),some ltrs,x3,some (.int (a':Int)),x5,some (.v (.str (ofC cs))),some (.int (f':Int)),some (.n .lst .own ((List.range k).map fun j=>D.v (.str (ofC (nmC cs a' f' j))))),x9]) ?_ ⟨0,none,none,by omega,by simp [List.range_eq_range'],rfl⟩) ?_
    · rintro it r s ⟨k,x5,x9,hk,ei,rfl⟩
      have hkn:k < n:=by
        rcases Nat.lt_or_ge k n with q | q
        · exact q
        · rw [show n - k = 0 by omega] at ei; simp at ei
      rw [show n - k = (n - k - 1) + 1 by omega,List.range'_succ,List.map_cons] at ei
      obtain ⟨rfl,rfl⟩:=List.cons.inj ei
      refine ⟨_,rfl,?_⟩
      refine Zf (hB (cs:=cs) (at_:=a') (f:=f') (k:=k) (n:=n) (by omega) hl (by omega) (by simp; omega)) ?_
      rintro fl s ⟨rfl,x9',rfl⟩
      refine ⟨.inl rfl,k + 1,some (.int (k:Int)),x9',by omega,by rw [show n - k - 1 = n - (k + 1) by omega],by simp [List.range_succ]⟩
    · rintro fl s ⟨rfl,k,x5,x9,hk,ei,rfl⟩
      have hkn:k = n:=by
        rcases Nat.lt_or_ge k n with q | q
        · rw [show n - k = (n - k - 1) + 1 by omega,List.range'_succ] at ei; simp at ei
        · omega
      subst hkn
      simp [dMv,D.free,ioF]
      exact ⟨(List.range k).map fun j=>ofC (nmC cs a' f' j),d3,by simp,names2 hc hl hn,rfl,hb3⟩
def nmComp:DE:=(dComp true [5] (diD itR (dP (pVar 1))) (tgN 5) dtYes (dN (f2 ixK) [.k (pVar 3),.v (dN (f2 modD) [.v (dN (f2 addA) [.k (pVar 4),.v (dN (f2 mulA) [.k (pC (.int 3)),.k (pVar 5)])]),.k (pC (.int 14))])]))
def Zjl (B:DS):DS:=(dsSeq (dsAsg (dP (pC (.str "abcdefghijklmnopqrstuvwxyz"))) (tgN 2)) (dsSeq (dsAsg (dF mkLst (daCons (dP (pC (.str "a"))) (daCons (dP (pC (.str "ask"))) (daCons (dP (pC (.str "b"))) (daCons (dP (pC (.str "work"))) (daCons (dP (pC (.str "a1"))) (daCons (dP (pC (.str "rest"))) (daCons (dP (pC (.str "ab"))) (daCons (dP (pC (.str "failed"))) (daCons (dP (pC (.str "abc"))) (daCons (dP (pC (.str "done"))) (daCons (dP (pC (.str "ba"))) (daCons (dP (pC (.str "off"))) (daCons (dP (pC (.str "aa"))) (daCons (dP (pC (.str "left"))) daNil))))))))))))))) (tgN 3)) (dsSeq (dsIf (dtAnd (dtV (dN (f2 ltD) [.k (pVar 1),.k (pC (.int 15))])) (dtV (dNI (f2 eqD) [.v (Zd Za [.o 0,.v (dP (pC (.int 4)))]),.v (dP (pC (.int 0)))]))) (dsSeq (dsAsg (Zd Za [.o 0,.v (dP (pC (.int 14)))]) (tgN 4)) (dsRet nmComp)) dsNext) (nmRest B))))
theorem ZnG {d:D} {n a:Nat} (hn:n < 15) (ha:a < 14):nmComp [some d,some (.int (n:Int)),some ltrs,some (.n .lst .own (wds.map D.str)),some (.int (a:Int)),none,none,none,none,none] = .ok (.n .lst .own ((List.range n).map fun k=>D.v (.str (wd ((a + 3 * k) % 14))))) [some d,some (.int (n:Int)),some ltrs,some (.n .lst .own (wds.map D.str)),some (.int (a:Int)),none,none,none,none,none]:=by
  unfold nmComp
  refine ZeD (enc:=fun (k:Nat)=>D.int (k:Int)) (xs:=List.range n) (fun k=>D.v (.str (wd ((a + 3 * k) % 14)))) (by simp [diD,Zes (n:=n) (by omega)]) rfl (fun k hk=>?_) (by simp; omega)
  have e1:cMul 3 (k:Int) = true:=cMul_l (by decide)
  have e2:cMod ((a:Int) + 3 * (k:Int)) 14 = true:=cMod_p (by decide)
  have e3:((a:Int) + 3 * (k:Int)) % 14 = (((a + 3 * k) % 14:Nat):Int):=by omega
  have hm:(a + 3 * k) % 14 < 14:=by omega
  generalize (a + 3 * k) % 14 = m at e3 hm ⊢
  have e4:ixK (.n .lst .own (wds.map D.str)) (.v (.int (m:Int))) = some (.v (.str (wd m))):=by
    have hm2:m < wds.length:=hm
    refine Zjw ?_ rfl
    rw [List.getElem?_map,List.getElem?_eq_getElem hm2]
    simp [wd,List.getD_eq_getElem?_getD,List.getElem?_eq_getElem hm2]
  constructor
  · generalize wds.map D.str = G at e4
    simp [e1,e2,e3,e4]
  · simp
theorem Zls {B:DS} (hB:BodySp B) {d:D} {n:Nat} (h:IsBox d) (hn:n ≤ 52):sat (runF 10 [true,false] (Zjl B) [d,.int (n:Int)]) (ZiJ n):=by
  refine sat_F' rfl ?_
  have hf:=h.free
  have hr:=fun {d:D} {x4:Option D} (h:IsBox d)=>ZgH hB (d:=d) (n:=n) (x3:=some (.n .lst .own (wds.map D.str))) (x4:=x4) h hn
  have hc:=fun {d:D} {a:Nat}=>ZnG (d:=d) (n:=n) (a:=a)
  have hw:=wdsD
  unfold Zjl
  generalize wds.map D.str = G at hr hc hw
  by_cases h15:(n:Int) < 15
  · simp [hw,h15,hf]
    refine Zf (Zn h (by decide) (by decide)) ?_
    rintro _ _ ⟨r,d1,rfl,rfl,hr0,hr1,hb1⟩
    by_cases h0:r = 0
    · simp [h0,hb1.free]
      refine Zf (Zn hb1 (by decide) (by decide)) ?_
      rintro _ _ ⟨a,d2,rfl,rfl,ha0,ha1,hb2⟩
      obtain ⟨a',rfl⟩:∃ a':Nat,a = (a':Int):=⟨a.toNat,by omega⟩
      simp [hb2.free,hc (d:=d2) (a:=a') (by omega) (by omega),ioF]
      exact ⟨(List.range n).map fun k=>wd ((a' + 3 * k) % 14),d2,by simp,Zlt (by omega) (by omega),rfl,hb2⟩
    · simp [h0,hb1.free]
      exact hr hb1
  · simp [hw,h15,hf]
    exact hr h
theorem Zjk {d:D} {n:Nat} (h:IsBox d) (hn:n ≤ 52):sat (ZZ [d,.int (n:Int)]) (ZiJ n):=Zls (B:=nmBody) Zpc h hn
end Lw
set_option maxHeartbeats 1000000
namespace Lw
open PySem PySem.Spec PyProof.Rows L2 Fs
theorem ZgW {P:Int → Prop} {xs:List Int} {w:Fl} {r:Int} (h:∀ i ∈ xs,P i) (h0:0 ≤ r) (h1:r < xs.length):∃ i,P i ∧ ixK (.n .lst w (xs.map D.int)) (.v (.int r)) = some (.v (.int i)):=by
  obtain ⟨r',rfl⟩:∃ r':Nat,r = (r':Int):=⟨r.toNat,by omega⟩
  have h2:r' < xs.length:=by omega
  refine ⟨xs[r'],h _ (List.getElem_mem h2),Zjw ?_ rfl⟩
  rw [List.getElem?_map,List.getElem?_eq_getElem h2]
  rfl
theorem mk3 {a b c:D}:mkLst [a,b,c] = some (.n .lst .own [frz a,frz b,frz c]):=rfl
theorem mk4 {a b c d:D}:mkLst [a,b,c,d] = some (.n .lst .own [frz a,frz b,frz c,frz d]):=rfl
theorem mkt2 {a b:D}:mkTup [a,b] = some (.n .tup .shr [frz a,frz b]):=rfl
theorem mkt5 {a b c d e:D}:mkTup [a,b,c,d,e] = some (.n .tup .shr [frz a,frz b,frz c,frz d,frz e]):=rfl
structure Row.num (r:Row):Prop where
  a0:0 ≤ r.a
  a1:r.a ≤ 200
  b0:0 ≤ r.b
  b1:r.a - 1 ≤ r.b
  b2:r.b ≤ 199
  l0:1 ≤ r.l
  l1:r.l ≤ 12
  k0:0 ≤ r.k
  k1:r.k ≤ r.l
def rwTail:DS:=(dsSeq (dsAsg (dNI (f2 addA) [.v (dP (pC (.int 1))),.v (Zd Za [.o 0,.l 3])]) (tgN 8)) (dsSeq (dsAsg (dNI (f2 ixK) [.v (dF mkLst (daCons (dP (pVar 8)) (daCons (dP (pVar 8)) (daCons (Zd Za [.o 0,.v (dN (f2 addA) [.k (pVar 8),.k (pC (.int 1))])]) (daCons (dP (pC (.int 0))) daNil))))),.v (Zd Za [.o 0,.v (dP (pC (.int 4)))])]) (tgN 9)) (dsDrop (dApp 4 (dF mkTup (daCons (dP (pVar 5)) (daCons (dP (pVar 6)) (daCons (dP (pVar 7)) (daCons (dP (pVar 8)) (daCons (dP (pVar 9)) daNil))))))))))
def rwBody:DS:=(dsSeq (dsAsg (Zd Za [.o 0,.l 2]) (tgN 6)) (dsSeq (dsAsg (dNI (f2 minD) [.v (dP (pC (.int 199))),.v (dNI (f2 addA) [.l 6,.v (dNI (f2 ixK) [.v (dF mkLst (daCons (Zd Za [.o 0,.v (dP (pC (.int 12)))]) (daCons (Zd Za [.o 0,.l 2]) (daCons (dP (pC (.int 199))) daNil)))),.v (Zd Za [.o 0,.v (dP (pC (.int 3)))])])])]) (tgN 7)) (dsSeq (dsIf (dtV (dNI (f2 eqD) [.v (Zd Za [.o 0,.v (dP (pC (.int 10)))]),.v (dP (pC (.int 0)))])) (dsAsg (dN (f2 addA) [.k (pVar 7),.k (pC (.int 1))]) (tgN 6)) dsNext) rwTail)))
def rwAll (F:List D → Out D):DS:=(dsSeq (dsAsg (dNI (f2 ixK) [.v (dF mkLst (daCons (dP (pC (.int 8))) (daCons (dP (pC (.int 20))) (daCons (dP (pC (.int 40))) (daCons (dP (pC (.int 200))) daNil))))),.v (Zd Za [.o 0,.v (dP (pC (.int 4)))])]) (tgN 2)) (dsSeq (dsAsg (dNI (f2 ixK) [.v (dF mkLst (daCons (dP (pC (.int 2))) (daCons (dP (pC (.int 4))) (daCons (dP (pC (.int 12))) daNil)))),.v (Zd Za [.o 0,.v (dP (pC (.int 3)))])]) (tgN 3)) (dsSeq (dsAsg (dF mkLst daNil) (tgN 4)) (dsSeq (dsFor (diD (itA true) (Zd F [.o 0,.v (dNI (f2 maxD) [.v (Zd Za [.o 0,.v (dN (f2 addA) [.k (pVar 1),.k (pC (.int 1))])]),.v (Zd Za [.o 0,.v (dN (f2 addA) [.k (pVar 1),.k (pC (.int 1))])])])])) (tgN 5) rwBody) (dsRet (dMv 4))))))
def RwPost (x1:Option D) (t lg:Int) (acc:List D) (z:Str) (fl:Fs.Flow) (s:Sl):Prop:=fl = .nx ∧ ∃ d' r y6 y7 y8 y9,IsBox d' ∧ r.num ∧ r.nm = z ∧ s = [some d',x1,some (.v (.int t)),some (.v (.int lg)),some (.n .lst .own (acc ++ [rowD r])),some (.v (.str z)),y6,y7,y8,y9]
theorem Zhq {d:D} {x1 x8 x9:Option D} {t lg a b:Int} {z:Str} {acc:List D} (h:IsBox d) (hg:0 < lg) (hg2:lg ≤ 12) (ha:acc.length < 100000) (a0:0 ≤ a) (a1:a ≤ 200) (b0:0 ≤ b) (hb1:a - 1 ≤ b) (b2:b ≤ 199) :
    sat (rwTail [some d,x1,some (.v (.int t)),some (.v (.int lg)),some (.n .lst .own acc),some (.v (.str z)),some (.v (.int a)),some (.v (.int b)),x8,x9]) (RwPost x1 t lg acc z):=by
  have hf:=h.free
  unfold rwTail
  simp [hf]
  refine Zf (Zn h hg (by omega)) ?_
  rintro _ _ ⟨l,d1,rfl,rfl,l0,l1,c1⟩
  simp [c1.free]
  refine Zf (Zn c1 (m:=1 + l + 1) (by omega) (by omega)) ?_
  rintro _ _ ⟨u,d2,rfl,rfl,u0,u1,c2⟩
  simp [c2.free,mk4]
  refine Zf (Zn c2 (by decide) (by decide)) ?_
  rintro _ _ ⟨w,d3,rfl,rfl,w0,w1,c3⟩
  obtain ⟨i,hi,ei⟩:=ZgW (P:=fun i=>0 ≤ i ∧ i ≤ 1 + l) (xs:=[1 + l,1 + l,u,0]) (w:=.own) (r:=w) (by simp; omega) w0 (by simpa using w1)
  simp only [List.map_cons,List.map_nil] at ei
  simp [c3.free,ei]
  refine Zlb (w:=.own) (xs:=acc) rfl ?_
  simp [mkt5,ha]
  exact ⟨rfl,d3,⟨z,a,b,1 + l,i⟩,_,_,_,_,c3,⟨a0,a1,b0,hb1,b2,by show 1 ≤ 1 + l; omega,by show 1 + l ≤ 12; omega,hi.1,hi.2⟩,rfl,rfl⟩
theorem Zlc {d:D} {x1 x6 x7 x8 x9:Option D} {t lg:Int} {z:Str} {acc:List D} (h:IsBox d) (ht:0 < t) (ht2:t ≤ 200) (hg:0 < lg) (hg2:lg ≤ 12) (ha:acc.length < 100000) :
    sat (rwBody [some d,x1,some (.v (.int t)),some (.v (.int lg)),some (.n .lst .own acc),some (.v (.str z)),x6,x7,x8,x9]) (RwPost x1 t lg acc z):=by
  have hf:=h.free
  unfold rwBody
  simp [hf]
  refine Zf (Zn h ht (by omega)) ?_
  rintro _ _ ⟨f,d1,rfl,rfl,f0,f1,b1⟩
  simp [b1.free]
  refine Zf (Zn b1 (by decide) (by decide)) ?_
  rintro _ _ ⟨u,d2,rfl,rfl,u0,u1,b2⟩
  simp [b2.free]
  refine Zf (Zn b2 ht (by omega)) ?_
  rintro _ _ ⟨v,d3,rfl,rfl,v0,v1,b3⟩
  simp [b3.free,mk3]
  refine Zf (Zn b3 (by decide) (by decide)) ?_
  rintro _ _ ⟨w,d4,rfl,rfl,w0,w1,b4⟩
  obtain ⟨i,hi,ei⟩:=ZgW (P:=fun i=>0 ≤ i ∧ i ≤ 199) (xs:=[u,v,199]) (w:=.own) (r:=w) (by simp; omega) w0 (by simpa using w1)
  simp only [List.map_cons,List.map_nil] at ei
  simp [b4.free,ei]
  refine Zf (Zn b4 (by decide) (by decide)) ?_
  rintro _ _ ⟨q,d5,rfl,rfl,q0,q1,b5⟩
  by_cases hq:q = 0
  · simp [b5.free,hq]
    exact Zhq b5 hg hg2 ha (by omega) (by omega) (by omega) (by omega) (by omega)
  · simp [b5.free,hq]
    exact Zhq b5 hg hg2 ha (by omega) (by omega) (by omega) (by omega) (by omega)
def RowsSp (m:Nat) (y:D) (ios:Sl):Prop:=∃ rs d',y = .n .lst .own (rowsD rs) ∧ RowsOk rs ∧ rs.length ≤ m ∧ ios = [some d',none] ∧ IsBox d'
def Zmh (P:List Nat → Bool) (m:Nat) (y:D) (ios:Sl):Prop:=∃ rs d',y = .n .lst .own (rowsD rs) ∧ RowsOk rs ∧ rs.length ≤ m ∧ ios = [some d',none] ∧ IsBox d' ∧ ∀ r ∈ rs,P r.nm.cps.toList = true
abbrev Zpf:=Zmh nineB
theorem Znw {zs:List Str} {w:Fl}:itA true (.n .lst w (zs.map D.str)) = some (zs.map D.str):=by
  have h0:(zs.map D.str).all D.kept = true ∧ (true = true ∨ w ≠ .own):=⟨by simp [D.kept],.inl rfl⟩
  show (if (zs.map D.str).all D.kept = true ∧ (true = true ∨ w ≠ .own) then some (zs.map D.str) else none) = _
  rw [if_pos h0]
theorem Znh {a b:Int} (ha:0 ≤ a) (hb:0 ≤ b):max a b = (((max a b).toNat:Nat):Int):=by omega
theorem ZmY {P:List Nat → Bool} {F:List D → Out D} (hF:∀ {d:D} {n:Nat},IsBox d → n ≤ 52 → sat (F [d,.int (n:Int)]) (ZjP P n)) {d:D} {m:Nat} (h:IsBox d) (hm:m ≤ 30):sat (runF 10 [true,false] (rwAll F) [d,.int (m:Int)]) (Zmh P m):=by
  refine sat_F' rfl ?_
  have hf:=h.free
  unfold rwAll
  simp [mk4,hf]
  refine Zf (Zn h (by decide) (by decide)) ?_
  rintro _ _ ⟨u,d1,rfl,rfl,u0,u1,b1⟩
  obtain ⟨t,ht,et⟩:=ZgW (P:=fun i=>0 < i ∧ i ≤ 200) (xs:=[8,20,40,200]) (w:=.own) (r:=u) (by simp) u0 (by simpa using u1)
  simp only [List.map_cons,List.map_nil] at et
  simp [b1.free,et,mk3]
  refine Zf (Zn b1 (by decide) (by decide)) ?_
  rintro _ _ ⟨v,d2,rfl,rfl,v0,v1,b2⟩
  obtain ⟨lg,hg,eg⟩:=ZgW (P:=fun i=>0 < i ∧ i ≤ 12) (xs:=[2,4,12]) (w:=.own) (r:=v) (by simp) v0 (by simpa using v1)
  simp only [List.map_cons,List.map_nil] at eg
  have em:mkLst [] = some (.n .lst .own []):=rfl
  simp [b2.free,eg,em,diD]
  refine Zf (Zn b2 (by omega) (by omega)) ?_
  rintro _ _ ⟨p,d3,rfl,rfl,p0,p1,b3⟩
  simp [b3.free]
  refine Zf (Zn b3 (by omega) (by omega)) ?_
  rintro _ _ ⟨q,d4,rfl,rfl,q0,q1,b4⟩
  have hmax:max p q = (((max p q).toNat:Nat):Int):=Znh p0 q0
  have hml:(max p q).toNat ≤ m:=by omega
  generalize (max p q).toNat = n at hmax hml
  simp [b4.free,hmax]
  refine Zf (hF b4 (n:=n) (by omega)) ?_
  rintro _ _ ⟨zs,d5,rfl,hz,rfl,b5⟩
  simp [b5.free,Znw]
  refine Zf (Zfl (I:=fun its s=>∃ rs zs' d' y5 y6 y7 y8 y9,zs = rs.map Row.nm ++ zs' ∧ its = zs'.map D.str ∧ (∀ r ∈ rs,r.num) ∧ IsBox d' ∧ s = [some d',some (.int (m:Int)),some (.v (.int t)),some (.v (.int lg)),some (.n .lst .own (rowsD rs)),y5,y6,y7,y8,y9]) ?_ ⟨[],zs,d5,_,_,_,_,_,rfl,rfl,by simp,b5,rfl⟩) ?_
  · rintro it r s ⟨rs,zs',d',y5,y6,y7,y8,y9,e,ei,hr,hb,rfl⟩
    cases zs' with
    | nil=>simp at ei
    | cons z zs' =>
      rw [List.map_cons] at ei
      obtain ⟨rfl,rfl⟩:=List.cons.inj ei
      have hl:rs.length < 100000:=by
        have:=hz.len
        rw [e] at this
        simp at this
        omega
      refine ⟨_,rfl,?_⟩
      refine Zf (Zlc hb ht.1 ht.2 hg.1 hg.2 (by simpa [rowsD] using hl)) ?_
      rintro fl s ⟨rfl,d'',r,z6,z7,z8,z9,hb2,hn,rfl,rfl⟩
      refine ⟨.inl rfl,rs ++ [r],zs',d'',some (.v (.str r.nm)),z6,z7,z8,z9,by simpa using e,rfl,fun x hx=>?_,hb2,by simp [rowsD]⟩
      rcases List.mem_append.mp hx with q | q
      · exact hr x q
      · rw [List.mem_singleton.mp q]; exact hn
  · rintro fl s ⟨rfl,rs,zs',d',y5,y6,y7,y8,y9,e,ei,hr,hb,rfl⟩
    cases zs' with
    | cons z zs'=>simp at ei
    | nil =>
      rw [List.append_nil] at e
      simp [dMv,D.free,ioF]
      have hl:rs.length = n:=by rw [← hz.len,e]; simp
      refine ⟨rs,d',rfl,⟨by omega,by rw [← e]; exact hz.nd,fun r hr2=>?_⟩,by omega,rfl,hb,fun r hr2=>hz.nine r.nm (by rw [e]; exact List.mem_map.mpr ⟨r,hr2,rfl⟩)⟩
      have h1:=hr r hr2
      exact ⟨hz.ok r.nm (by rw [e]; exact List.mem_map.mpr ⟨r,hr2,rfl⟩),h1.a0,h1.a1,h1.b0,h1.b1,h1.b2,h1.l0,h1.l1,h1.k0,h1.k1⟩
theorem ZmX {d:D} {m:Nat} (h:IsBox d) (hm:m ≤ 30):sat (Zbj [d,.int (m:Int)]) (Zpf m):=ZmY (F:=ZZ) Zjk h hm
theorem Zn7 {d:D} {m:Nat} (h:IsBox d) (hm:m ≤ 30):sat (Zbj [d,.int (m:Int)]) (RowsSp m) :=
  Zf (ZmX h hm) fun _ _ ⟨rs,d',h1,h2,h3,h4,h5,_⟩=>⟨rs,d',h1,h2,h3,h4,h5⟩
end Lw
set_option maxHeartbeats 1000000
namespace Lw
open PySem PySem.Spec PyProof.Rows L2 Fs
def rowP (r:Row):PyData:=.tuple [.str r.nm,.int r.a,.int r.b,.int r.l,.int r.k]
theorem Zjc:∀ rs:List Row,pds (rowsD rs) = some (rs.map rowP)
  | []=>rfl
  | r :: rs=>by
    have:=Zjc rs
    simp only [rowsD,List.map_cons] at this ⊢
    simp [pds,pd,this,rowP]
theorem Zju:∀ rs:List Row,(∀ r ∈ rs,r.ok) → PyData.canLayAll0 (rs.map rowP) = true ∧ PyData.depthAll (rs.map rowP) ≤ 1
  | [],_=>⟨rfl,by simp [PyData.depthAll]⟩
  | r :: rs,h=>by
    obtain ⟨h1,h2⟩:=Zju rs fun x hx=>h x (List.mem_cons_of_mem _ hx)
    have h3:=(Bool.and_eq_true_iff.mp (ZeY (ZfK (h r List.mem_cons_self).nm))).1
    have h4:PyData.strOk r.nm = true:=by simpa [PyData.canLay0] using h3
    constructor
    · simp [PyData.canLayAll0,PyData.canLay0,rowP,h1,h4]
    · simp only [List.map_cons,PyData.depthAll,rowP,PyData.depth]
      simp; omega
theorem Zie {rs:List Row} (h:∀ r ∈ rs,r.ok):SeqAt.shaped (.list (rs.map rowP)) = true:=by
  obtain ⟨h1,h2⟩:=Zju rs h
  simp [SeqAt.shaped,PyData.canLay0,PyData.depth,h1]
  omega
theorem ne_nil {rs:List Row} {w:Fl} (h:∀ r ∈ rs,r.ok):neD (.n .lst w (rowsD rs)) (.n .lst .own []) = some (.v (.bl (!rs.isEmpty))):=by
  have e1:pd (.n .lst w (rowsD rs)) = some (.list (rs.map rowP)):=by simp [pd,Zjc]
  have e2:pd (.n .lst .own []) = some (.list []):=by simp [pd,pds]
  unfold neD
  rw [e1,e2]
  simp only [Option.bind_some]
  rw [if_pos ⟨Zie h,by decide⟩]
  cases rs <;> simp [PyData.eqv,PyData.eqvAll]
end Lw
set_option maxHeartbeats 1000000
namespace Lw
open PySem PySem.Spec PyProof.Rows L2 Fs
section
variable {s:Sl} {τ:Type}
theorem ZjG {i:Nat} {d:D} {it:D → Option (List D)} {its:List D} {tg:D → Sl → Option Sl} {body:DS} {s':Sl} {f:Fs.Flow} (h1:(s[i]?).join = some d) (h2:d.free = true) (h3:it d = some its) (h4:loop tg body its (s.set i none) = .ok f s') (h5:s'[i]? = some none):dsForE i it tg body s = .ok f (s'.set i (some d)):=by
  unfold dsForE
  simp only [h1,h2,if_true,h3,h4,backE,gapE,h5]
theorem ZgQ {κ:Type} {enc:τ → D} {f:τ → List D} {S:List D → κ → Sl} {i:Nat} {body:DS}:∀ (xs:List τ) (acc:List D) (y:κ),(∀ x ∈ xs,∀ acc y,acc.length + (f x).length ≤ 100000 → ∃ s1 y',tgN i (enc x) (S acc y) = some s1 ∧ body s1 = .ok .nx (S (acc ++ f x) y')) → acc.length + (xs.flatMap f).length ≤ 100000 → ∃ y',loop (tgN i) body (xs.map enc) (S acc y) = .ok .nx (S (acc ++ xs.flatMap f) y')
  | [],acc,y,_,_=>⟨y,by simp [Zjp]⟩
  | x :: xs,acc,y,h,hl=>by
    simp only [List.flatMap_cons,List.length_append] at hl
    obtain ⟨s1,y1,e1,e2⟩:=h x List.mem_cons_self acc y (by omega)
    obtain ⟨y',e3⟩:=ZgQ xs (acc ++ f x) y1 (fun z hz=>h z (List.mem_cons_of_mem _ hz)) (by rw [List.length_append]; omega)
    refine ⟨y',?_⟩
    rw [List.map_cons,ZdD e1,e2,Zz,Zer,e3]
    simp
theorem Zjy (x:Int):∀ ys:List Int,(insU x ys).length ≤ ys.length + 1
  | []=>by simp [insU]
  | y :: ys=>by
    have:=Zjy x ys
    simp only [insU]
    split
    · simp
    · split
      · simp
      · simp; omega
theorem ZgC:∀ ns:List Int,(sset ns).length ≤ ns.length
  | []=>by simp [sset]
  | n :: ns=>by
    have h1:=ZgC ns
    have h2:=Zjy n (sset ns)
    simp only [sset,List.foldr_cons,List.length_cons] at h1 h2 ⊢
    omega
def starts (rs:List Row):List Int:=sset (rs.map Row.a)
def ends (rs:List Row):List Int:=sset (rs.map Row.b)
def okSt (rs:List Row) (a b:Int):Bool:=decide (a - 1 ≤ b) && !(rs.filter (inSt a b)).isEmpty
def found (rs:List Row):List (Int × Int):=(starts rs).flatMap fun a=>((ends rs).filter (okSt rs a)).map fun b=>(a,b)
abbrev stsD (ps:List (Int × Int)):List D:=ps.map fun p=>stD p.1 p.2
theorem Zhn {w:Fl} {ns:List Int} (h:ns.length < 64):Zb4 (.n .lst w (ns.map D.int)) = some (.n .lst .own ((sset ns).map D.int)):=by
  simp only [Zb4,Zfz,Option.bind_some,if_pos h]
theorem Zjx {w:Fl} {ns:List Int}:itA true (.n .lst w (ns.map D.int)) = some (ns.map D.int):=by
  have h0:(ns.map D.int).all D.kept = true ∧ (true = true ∨ w ≠ .own):=⟨by simp [D.kept],.inl rfl⟩
  show (if (ns.map D.int).all D.kept = true ∧ (true = true ∨ w ≠ .own) then some (ns.map D.int) else none) = _
  rw [if_pos h0]
theorem app_c {i:Nat} {a:DE} {xs:List D} {y:D} (h:(s[i]?).join = some (.n .lst .own xs)) (ha:a s = .ok y s) (hl:xs.length < 100000):dApp i a s = .ok .non (s.set i (some (.n .lst .own (xs ++ [frz y])))):=by
  unfold dApp
  simp only [h,ha,Zz,if_pos hl]
theorem mem_starts {rs:List Row} {a:Int}:a ∈ starts rs ↔ ∃ r ∈ rs,r.a = a:=by simp [starts,ZgO]
theorem mem_ends {rs:List Row} {b:Int}:b ∈ ends rs ↔ ∃ r ∈ rs,r.b = b:=by simp [ends,ZgO]
theorem Zf3 {rs:List Row} (h:rs.length ≤ 30):(found rs).length ≤ 900:=by
  have h1:(starts rs).length ≤ 30:=Nat.le_trans (ZgC _) (by simpa using h)
  have h2:(ends rs).length ≤ 30:=Nat.le_trans (ZgC _) (by simpa using h)
  have:∀ as:List Int,(as.flatMap fun a=>((ends rs).filter (okSt rs a)).map fun b=>(a,b)).length ≤ as.length * 30:=by
    intro as
    induction as with
    | nil=>simp
    | cons a as ih =>
      rw [List.flatMap_cons,List.length_append,List.length_map,List.length_cons]
      have:=List.length_filter_le (okSt rs a) (ends rs)
      omega
  have:=this (starts rs)
  unfold found
  omega
def strB:DS:=(dsIf (dtAnd (dtV (dN (f2 geD) [.k (pVar 6),.v (dN (f2 subD) [.k (pVar 5),.k (pC (.int 1))])])) (dtV (dN (f2 neD) [.v (dCall Zu (daLend (pVar 0) (daCons (dF mkTup (daCons (dP (pVar 5)) (daCons (dP (pVar 6)) daNil))) daNil))),.v (dF mkLst daNil)]))) (dsDrop (dApp 4 (dF mkTup (daCons (dP (pVar 5)) (daCons (dP (pVar 6)) daNil))))) dsNext)
def strO:DS:=(dsForE 3 (itA true) (tgN 6) strB)
theorem str_eq:Zb8 = (dsSeq (dsAsg (dN (f1 Zb4) [.v (dComp true [2] (diD (itA true) (dCall Zb (daLend (pRc 20 "told" (pVar 0)) daNil))) (tgN 2) dtYes (dP (pOp ixD (pVar 2) (pC (.int 1)))))]) (tgN 1)) (dsSeq (dsAsg (dN (f1 Zb4) [.v (dComp true [2] (diD (itA true) (dCall Zb (daLend (pRc 20 "told" (pVar 0)) daNil))) (tgN 2) dtYes (dP (pOp ixD (pVar 2) (pC (.int 2)))))]) (tgN 3)) (dsSeq (dsAsg (dF mkLst daNil) (tgN 4)) (dsSeq (dsForE 1 (itA true) (tgN 5) strO) (dsRet (dMv 4)))))):=rfl
def inF (rs:List Row) (a b:Int):List D:=if okSt rs a b then [stD a b] else []
theorem strB_c {rs:List Row} {w:Fl} {a b:Int} {acc:List D} (h:RowsOk rs) (ha:0 ≤ a) (ha1:a ≤ 200) (hb1:b ≤ 199) (hl:acc.length + (inF rs a b).length ≤ 100000) :
    strB [some (Zj w rs),none,none,none,some (.n .lst .own acc),some (.int a),some (.int b)] = .ok .nx [some (Zj w rs),none,none,none,some (.n .lst .own (acc ++ inF rs a b)),some (.int a),some (.int b)]:=by
  have e2:lend (Zj w rs) = Zj (lw w) rs:=ZbY
  have hl2:rs.length ≤ 1000:=by have:=h.len; omega
  unfold strB
  by_cases h1:a - 1 ≤ b
  · have st:StOk a b:=⟨ha,ha1,h1,hb1⟩
    have e3:=ne_nil (rs:=rs.filter (inSt a b)) (w:=.own) fun r hr=>h.ok r (List.mem_filter.mp hr).1
    have e4:=fun s=>Zc2 (s:=s) (w:=lw w) st hl2
    have em:mkLst [] = some (.n .lst .own []):=rfl
    cases hE:(rs.filter (inSt a b)).isEmpty with
    | true =>
      have hf:inF rs a b = []:=by simp [inF,okSt,hE]
      rw [hE] at e3
      generalize (.n .lst .own (rowsD (rs.filter (inSt a b))):D) = G at e3 e4
      generalize Zj (lw w) rs = P' at e2 e4
      generalize Zj w rs = P0 at e2
      rw [hf]
      simp [h1,mkt2,e2,e4,em,e3,-ZcB,-ZcC]
    | false =>
      have hf:inF rs a b = [stD a b]:=by simp [inF,okSt,hE,h1]
      rw [hE] at e3
      rw [hf] at hl ⊢
      generalize (.n .lst .own (rowsD (rs.filter (inSt a b))):D) = G at e3 e4
      generalize Zj (lw w) rs = P' at e2 e4
      generalize Zj w rs = P0 at e2
      have e5:=app_c (s:=[some P0,none,none,none,some (.n .lst .own acc),some (.int a),some (.int b)]) (i:=4) (a:=dF mkTup (daCons (dP (pVar 5)) (daCons (dP (pVar 6)) daNil))) (y:=stD a b) (xs:=acc) rfl (by simp [mkt2]) (by simp at hl; omega)
      simp [h1,mkt2,e2,e4,em,e3,e5,-ZcB,-ZcC]
  · have hf:inF rs a b = []:=by simp [inF,okSt,h1]
    rw [hf]
    generalize Zj w rs = P0
    simp [h1]
theorem ZlZ (rs:List Row):stsD (found rs) = (starts rs).flatMap fun a=>(ends rs).flatMap (inF rs a):=by
  unfold found stsD
  rw [List.map_flatMap]
  congr 1
  funext a
  induction ends rs with
  | nil=>rfl
  | cons b bs ih =>
    rw [List.flatMap_cons,← ih,List.filter_cons]
    unfold inF
    cases okSt rs a b <;> simp
theorem strO_c {rs:List Row} {w:Fl} {a:Int} {acc:List D} {y:Option D} (h:RowsOk rs) (ha:0 ≤ a) (ha1:a ≤ 200) (hl:acc.length + ((ends rs).flatMap (inF rs a)).length ≤ 100000) :
    ∃ y',strO [some (Zj w rs),none,none,some (.n .lst .own ((ends rs).map D.int)),some (.n .lst .own acc),some (.int a),y] = .ok .nx [some (Zj w rs),none,none,some (.n .lst .own ((ends rs).map D.int)),some (.n .lst .own (acc ++ (ends rs).flatMap (inF rs a))),some (.int a),y']:=by
  obtain ⟨y',e⟩:=ZgQ (enc:=D.int) (f:=inF rs a) (S:=fun acc y=>[some (Zj w rs),none,none,none,some (.n .lst .own acc),some (.int a),y]) (i:=6) (body:=strB) (ends rs) acc y (fun b hb acc y hl=>⟨_,some (.int b),rfl,by
    obtain ⟨r,hr,rfl⟩:=mem_ends.mp hb
    exact strB_c h ha ha1 (h.ok r hr).b2 hl⟩) hl
  exact ⟨y',ZjG (s:=[some (Zj w rs),none,none,some (.n .lst .own ((ends rs).map D.int)),some (.n .lst .own acc),some (.int a),y]) (i:=3) rfl rfl Zjx e rfl⟩
theorem Zib {rs:List Row} {w:Fl} (h:RowsOk rs):callK ZbC [Zj w rs] s = .ok (.n .lst .own (stsD (found rs))) s:=Zg rfl (by
  have e1:rcD 20 "told" (Zj w rs) = some (Zj w rs):=ZfC (by decide)
  have e2:lend (Zj w rs) = Zj (lw w) rs:=ZbY
  have hl:=h.len
  have hc1:=ZeD (keep:=true) (i:=2) (di:=diD (itA true) (dCall Zb (daLend (pRc 20 "told" (pVar 0)) daNil))) (elt:=dP (pOp ixD (pVar 2) (pC (.int 1)))) (δ:=[some (Zj w rs),none,none,none,none,none,none]) (δ1:=[some (Zj w rs),none,none,none,none,none,none]) (enc:=rowD) (xs:=rs) (fun r=>D.int r.a)
    (by simp [diD,e1,e2,ZiA,-ZcB,-ZcC]) rfl (fun o ho=>by simp) (by omega)
  have hc2:=fun x=>ZeD (keep:=true) (i:=2) (di:=diD (itA true) (dCall Zb (daLend (pRc 20 "told" (pVar 0)) daNil))) (elt:=dP (pOp ixD (pVar 2) (pC (.int 2)))) (δ:=[some (Zj w rs),some x,none,none,none,none,none]) (δ1:=[some (Zj w rs),some x,none,none,none,none,none]) (enc:=rowD) (xs:=rs) (fun r=>D.int r.b)
    (by simp [diD,e1,e2,ZiA,-ZcB,-ZcC]) rfl (fun o ho=>by simp) (by omega)
  have s1:Zb4 (.n .lst .own (rs.map fun r=>D.int r.a)) = some (.n .lst .own ((starts rs).map D.int)):=by
    have:=Zhn (w:=.own) (ns:=rs.map Row.a) (by simp; omega)
    rw [List.map_map] at this
    exact this
  have s2:Zb4 (.n .lst .own (rs.map fun r=>D.int r.b)) = some (.n .lst .own ((ends rs).map D.int)):=by
    have:=Zhn (w:=.own) (ns:=rs.map Row.b) (by simp; omega)
    rw [List.map_map] at this
    exact this
  have hlen:((starts rs).flatMap fun a=>(ends rs).flatMap (inF rs a)).length ≤ 900:=by rw [← ZlZ]; simpa using Zf3 h.len
  obtain ⟨y',e⟩:=ZgQ (κ:=Option D × Option D) (enc:=D.int) (f:=fun a=>(ends rs).flatMap (inF rs a)) (S:=fun acc y=>[some (Zj w rs),none,none,some (.n .lst .own ((ends rs).map D.int)),some (.n .lst .own acc),y.1,y.2]) (i:=5) (body:=strO) (starts rs) [] (none,none) (fun a ha acc y hl=>by
    obtain ⟨r,hr,rfl⟩:=mem_starts.mp ha
    obtain ⟨y',e⟩:=strO_c (y:=y.2) (w:=w) h (h.ok r hr).a0 (h.ok r hr).a1 hl
    exact ⟨_,(_,y'),rfl,e⟩) (by rw [List.length_nil]; omega)
  have e':=ZjG (s:=[some (Zj w rs),some (.n .lst .own ((starts rs).map D.int)),none,some (.n .lst .own ((ends rs).map D.int)),some (.n .lst .own []),none,none]) (i:=1) rfl rfl Zjx e rfl
  rw [List.nil_append,← ZlZ] at e'
  rw [str_eq]
  have em:mkLst [] = some (.n .lst .own []):=rfl
  generalize rs.map (fun r=>D.int r.a) = G1 at hc1 s1
  generalize rs.map (fun r=>D.int r.b) = G2 at hc2 s2
  generalize (.n .lst .own ((starts rs).map D.int):D) = S1 at s1 e'
  generalize (.n .lst .own ((ends rs).map D.int):D) = S2 at s2 e'
  generalize stsD (found rs) = G3 at e' ⊢
  generalize Zj w rs = P0 at hc1 hc2 e'
  simp [hc1,s1,hc2,s2,em]
  rw [e']
  simp [dMv,D.free])
end
end Lw
set_option maxHeartbeats 1000000
namespace Lw
open PySem PySem.Spec PyProof.Rows L2 Fs
end Lw
set_option maxHeartbeats 1000000
namespace Lw
open PySem PySem.Spec PyProof.Rows L2 Fs
section
variable {s:Sl}
def stP (p:Int × Int):PyData:=.tuple [.int p.1,.int p.2]
end
end Lw
set_option maxHeartbeats 1000000
namespace Lw
open PySem PySem.Spec PyProof.Rows L2 Fs
theorem mem_found {rs:List Row} {p:Int × Int}:p ∈ found rs ↔ p.1 ∈ starts rs ∧ p.2 ∈ ends rs ∧ okSt rs p.1 p.2 = true:=by
  unfold found
  simp only [List.mem_flatMap,List.mem_map,List.mem_filter]
  constructor
  · rintro ⟨a,ha,b,⟨hb,hk⟩,rfl⟩; exact ⟨ha,hb,hk⟩
  · rintro ⟨h1,h2,h3⟩; exact ⟨p.1,h1,p.2,⟨h2,h3⟩,rfl⟩
theorem Zny {rs:List Row} (h:RowsOk rs) {p:Int × Int} (hp:p ∈ found rs):StOk p.1 p.2 ∧ (rs.filter (inSt p.1 p.2)).isEmpty = false:=by
  obtain ⟨h1,h2,h3⟩:=mem_found.mp hp
  obtain ⟨r,hr,e1⟩:=mem_starts.mp h1
  obtain ⟨q,hq,e2⟩:=mem_ends.mp h2
  simp only [okSt,Bool.and_eq_true,decide_eq_true_eq,Bool.not_eq_true'] at h3
  exact ⟨⟨by rw [← e1]; exact (h.ok r hr).a0,by rw [← e1]; exact (h.ok r hr).a1,h3.1,by rw [← e2]; exact (h.ok q hq).b2⟩,h3.2⟩
end Lw
set_option maxHeartbeats 1000000
namespace Lw
open PySem PySem.Spec PyProof.Rows L2 Fs
instance:DecidableEq Row:=fun x y =>
  if h:x.nm = y.nm ∧ x.a = y.a ∧ x.b = y.b ∧ x.l = y.l ∧ x.k = y.k then isTrue (by
    obtain ⟨a,b,c,d,e⟩:=x
    obtain ⟨a',b',c',d',e'⟩:=y
    simp only at h
    obtain ⟨rfl,rfl,rfl,rfl,rfl⟩:=h
    rfl) else isFalse fun e=>h (by rw [e]; exact ⟨rfl,rfl,rfl,rfl,rfl⟩)
instance:Ke rowD:=⟨fun _=>rfl⟩
def Pcs (w:Fl) (rs:List Row):D:=Zj w rs
def stE (p:Int × Int):D:=stD p.1 p.2
instance:Ke stE:=⟨fun _=>rfl⟩
def tbE (p:Int × Int × Int × Int):D:=.n .tup .shr [.v (.int p.1),.v (.int p.2.1),.v (.int p.2.2.1),.v (.int p.2.2.2)]
instance:Ke tbE:=⟨fun _=>rfl⟩
@[simp] theorem Zqj {p:Int × Int}:Option.filter D.kept (some (stE p)) = some (stE p):=rfl
@[simp] theorem Zq8 {p:Int × Int}:frz (stE p) = stE p:=Zbm rfl
@[simp] theorem ZpV {p:Int × Int}:lend (stE p) = stE p:=Zbf rfl
@[simp] theorem Zp1 {p:Int × Int}:(stE p).kept = true:=rfl
@[simp] theorem Zqb {p:Int × Int}:(stE p).free = true:=rfl
@[simp] theorem Zqi {p:Int × Int × Int × Int}:Option.filter D.kept (some (tbE p)) = some (tbE p):=rfl
@[simp] theorem Zq7 {p:Int × Int × Int × Int}:frz (tbE p) = tbE p:=Zbm rfl
@[simp] theorem ZpU {p:Int × Int × Int × Int}:lend (tbE p) = tbE p:=Zbf rfl
@[simp] theorem Zp0 {p:Int × Int × Int × Int}:(tbE p).kept = true:=rfl
@[simp] theorem Zqa {p:Int × Int × Int × Int}:(tbE p).free = true:=rfl
@[simp] theorem ixE0 {p:Int × Int}:ixD (stE p) (.v (.int 0)) = some (.v (.int p.1)):=rfl
@[simp] theorem ixE1 {p:Int × Int}:ixD (stE p) (.v (.int 1)) = some (.v (.int p.2)):=rfl
theorem Zoo {r:Row} (h:r.ok):okS r.nm:=ZfK h.nm
instance:EqE rowD (fun r=>okS r.nm):=⟨rowP,fun r=>by simp [pd,pds,rowP],fun r h=>by simp [PyData.canLay0,PyData.canLayAll0,rowP,ZdR h],fun r=>by simp [rowP,PyData.depth,PyData.depthAll],fun r q=>by
  obtain ⟨a,b,c,d,e⟩:=r
  obtain ⟨a',b',c',d',e'⟩:=q
  simp [rowP,PyData.eqv,PyData.eqvAll]⟩
instance:EqE stE (fun _=>True):=⟨stP,fun r=>by simp [stE,pd,pds,stP],fun r h=>by simp [PyData.canLay0,PyData.canLayAll0,stP],fun r=>by simp [stP,PyData.depth,PyData.depthAll],fun r q=>by
  obtain ⟨a,b⟩:=r
  obtain ⟨a',b'⟩:=q
  simp [stP,PyData.eqv,PyData.eqvAll]⟩
def tbP (p:Int × Int × Int × Int):PyData:=.tuple [.int p.1,.int p.2.1,.int p.2.2.1,.int p.2.2.2]
instance:EqE tbE (fun _=>True):=⟨tbP,fun r=>by simp [tbE,pd,pds,tbP],fun r h=>by simp [PyData.canLay0,PyData.canLayAll0,tbP],fun r=>by simp [tbP,PyData.depth,PyData.depthAll],fun r q=>by
  obtain ⟨a,b,c,d⟩:=r
  obtain ⟨a',b',c',d'⟩:=q
  simp [tbP,PyData.eqv,PyData.eqvAll]⟩
section
variable {s:Sl} {w w':Fl} {rs:List Row} {a b f:Int}
theorem RowsOk.l3 (h:RowsOk rs):rs.length ≤ 1000:=by have:=h.len; omega
@[simp] theorem ZpX:lend (Pcs w rs) = Pcs (lnd w) rs:=by unfold Pcs; cases w <;> simp [ZcQ]
@[simp] theorem rc_Pcs {m:Str} (h:(m == ("fives":Str)) = false):rcD 20 m (Pcs w rs) = some (Pcs w rs):=ZfC h
@[simp] theorem ZqO:rcD 20 "told" (Pcs w rs) = some (Pcs w rs):=rc_Pcs (by decide)
@[simp] theorem ZpG:rcD 20 "names" (Pcs w rs) = some (Pcs w rs):=rc_Pcs (by decide)
@[simp] theorem rc_row:rcD 20 "row" (Pcs w rs) = some (Pcs w rs):=rc_Pcs (by decide)
@[simp] theorem rc_has:rcD 20 "has" (Pcs w rs) = some (Pcs w rs):=rc_Pcs (by decide)
@[simp] theorem rc_put:rcD 20 "put_at" (Pcs w rs) = some (Pcs w rs):=rc_Pcs (by decide)
@[simp] theorem ZpE:rcD 20 "with_last" (Pcs w rs) = some (Pcs w rs):=rc_Pcs (by decide)
@[simp] theorem ZpD:rcD 20 "with_left" (Pcs w rs) = some (Pcs w rs):=rc_Pcs (by decide)
@[simp] theorem ZqM:rcD 20 "with_row" (Pcs w rs) = some (Pcs w rs):=rc_Pcs (by decide)
@[simp] theorem ZqN:rcD 20 "without" (Pcs w rs) = some (Pcs w rs):=rc_Pcs (by decide)
@[simp] theorem ZpF:rcD 20 "since" (Pcs w rs) = some (Pcs w rs):=rc_Pcs (by decide)
@[simp] theorem Zqf:(Pcs .own rs).free = true:=rfl
@[simp] theorem told_P:callK Zb [Pcs w rs] s = .ok (Tpl rowD rs) s:=told_c
theorem need_P (h:StOk a b) (hr:RowsOk rs) (h0:0 ≤ f) (h1:f ≤ 300):callK Zcg [Pcs w rs,stD a b,.v (.int f)] s = .ok (.v (.int (needI rs a b f))) s:=need_c h hr.l3 h0 h1
theorem Zic (hr:RowsOk rs):callK ZbC [Pcs w rs] s = .ok (Lst stE .own (found rs)) s:=Zib hr
def tbl (rs:List Row) (f:Int):List (Int × Int × Int × Int):=(found rs).map fun p=>(p.1,p.2,needI rs p.1 p.2 f,p.2 - p.1 + 1)
def badP (q:Int × Int × Int × Int):Bool:=decide (q.2.2.2 < q.2.2.1)
def bad (rs:List Row) (f:Int):List (Int × Int):=((tbl rs f).filter badP).map fun q=>(q.1,q.2.1)
theorem ZnQ (hr:RowsOk rs):(tbl rs f).length ≤ 900:=by simpa [tbl] using Zf3 hr.len
theorem mkt4 {a b c d:D}:mkTup [a,b,c,d] = some (.n .tup .shr [frz a,frz b,frz c,frz d]):=rfl
theorem Zk2 (hr:RowsOk rs) (h0:0 ≤ f) (h1:f ≤ 300):callK Zdv [Pcs w rs,.v (.int f)] s = .ok (Lst tbE .own (tbl rs f)) s:=Zg rfl (by
  have hl:=Zf3 hr.len
  simp [Zdg,ZdA h0 h1,diD,Zic hr,show mkLst [] = some (Lst tbE .own []) from rfl]
  refine ZeZ (I:=fun pre s=>∃ y z,s = [some (Pcs w rs),some (.v (.int f)),some (Lst tbE .own (pre.map fun p=>(p.1,p.2,needI rs p.1 p.2 f,p.2 - p.1 + 1))),y,z]) (fun pre p post s e h=>?_) ⟨_,_,rfl⟩ (fun s h=>?_)
  · obtain ⟨y,z,rfl⟩:=h
    have hp:=(Zny hr (p:=p) (by rw [e]; simp)).1
    refine ⟨_,rfl,?_⟩
    simp
    refine ZgG (enc:=tbE) (p.1,p.2,needI rs p.1 p.2 f,p.2 - p.1 + 1) rfl ?_ (by rw [e] at hl; simp at hl ⊢; omega) ?_
    · simp [mkt2,need_P hp hr h0 h1,room_c hp,mkt4,tbE]
    · simp
  · obtain ⟨y,z,rfl⟩:=h
    simp [dMv,tbl])
end
end Lw
set_option maxHeartbeats 1000000
namespace Lw
open PySem PySem.Spec PyProof.Rows L2 Fs
section
variable {s:Sl} {w w':Fl} {rs:List Row} {a b f:Int}
theorem lpos {P:Row → Bool} (hr:RowsOk rs):∀ n ∈ (rs.filter P).map Row.l,0 ≤ n:=fun n hn=>by
  obtain ⟨r,hr',rfl⟩:=List.mem_map.mp hn
  have:=(hr.ok r (List.mem_filter.mp hr').1).l0
  omega
end
end Lw
set_option maxHeartbeats 1000000
namespace Lw
open PySem PySem.Spec PyProof.Rows L2 Fs
section
variable {s:Sl} {w w':Fl} {rs:List Row} {a b f g:Int}
@[simp] theorem ixT2 {q:Int × Int × Int × Int}:ixD (tbE q) (.v (.int 2)) = some (.v (.int q.2.2.1)):=rfl
@[simp] theorem ixT3 {q:Int × Int × Int × Int}:ixD (tbE q) (.v (.int 3)) = some (.v (.int q.2.2.2)):=rfl
theorem Zok {i j:Int}:gtD (.v (.int i)) (.v (.int j)) = some (.v (.bl (decide (j < i)))):=rfl
@[simp] theorem Zq5 {c:Bool}:intD (.v (.bl c)) = some (.v (.int (if c then 1 else 0))):=by cases c <;> rfl
@[simp] theorem pick2 {x y:Int} {c:Bool}:ixK (Lst D.int w [x,y]) (.v (.int (if c then 1 else 0))) = some (.v (.int (if c then y else x))):=by cases c <;> rfl
@[simp] theorem pick2' {x y:Int} {c:Prop} [Decidable c]:ixK (Lst D.int w [x,y]) (.v (.int (if c then 1 else 0))) = some (.v (.int (if c then y else x))):=by split <;> rfl
theorem ZmW {d:D} {m:Int} (h:IsBox d) (m0:0 ≤ m) (hm:m ≤ 30):sat (Zbj [d,.v (.int m)]) fun y ios=>∃ rs d',y = Lst rowD .own rs ∧ RowsOk rs ∧ (rs.length:Int) ≤ m ∧ ios = [some d',none] ∧ IsBox d':=by
  obtain ⟨n,rfl⟩:∃ n:Nat,m = (n:Int):=⟨m.toNat,by omega⟩
  refine Zf (Zn7 (m:=n) h (by omega)) ?_
  rintro _ _ ⟨rs,d',rfl,hr,hl,rfl,hb⟩
  exact ⟨rs,d',rfl,hr,by omega,rfl,hb⟩
end
end Lw
set_option maxHeartbeats 1000000
namespace Lw
open PySem PySem.Spec PyProof.Rows L2 Fs
section
variable {s:Sl} {w w':Fl} {rs:List Row} {a b f g:Int}
theorem ZlE (rs:List Row):(keysR rs).map keyDv = (rs.map Row.nm).map D.str:=by simp [keysR,keyR,keyDv]
@[simp] theorem ZqU:callK ZdQ [Pcs w rs] s = .ok (Lst D.str .own (rs.map Row.nm)) s:=Zg rfl (by
  have e:fldD 20 "fives" (Pcs w rs) = some (fivesD w rs):=rfl
  have e2:listD (fivesD w rs) = some (Lst D.str .own (rs.map Row.nm)):=by simp only [listD,ZlE,Lst]
  simp [Zb9,e,e2])
@[simp] theorem negD_i {i:Int}:negD (.v (.int i)) = some (.v (.int (-i))):=rfl
end
end Lw
set_option maxHeartbeats 1000000
namespace Lw
open PySem PySem.Spec PyProof.Rows L2 Fs
section
variable {s:Sl} {w w':Fl} {rs:List Row} {a b f g:Int}
@[simp] theorem ZpR {i:Int}:callK Zq [.v (.int i)] s = .ok (.v (.bl true)) s:=Zg rfl (by simp [Z5])
end
end Lw
set_option maxHeartbeats 1000000
namespace Lw
open PySem PySem.Spec PyProof.Rows L2 Fs
end Lw
set_option maxHeartbeats 1000000
namespace Lw
open PySem PySem.Spec PyProof.Rows L2 Fs
/-- a thing within a row -/
inductive At | i (n:Int) | b (c:Bool) | s (z:Str) | o (d:KD)
def atE:At → D | .i n=>.v (.int n) | .b c=>.v (.bl c) | .s z=>.v (.str z) | .o d=>d.1
instance:Ke atE:=⟨fun a=>by cases a with | i n=>rfl | b c=>rfl | s z=>rfl | o d=>exact d.2⟩
structure AtK (a:At):Prop where
  s:∀ z,a = .s z → z.length ≤ 100
  sc:∀ z,a = .s z → ∀ c ∈ z.cps.toList,c < 128
  oi:∀ d,a = .o d → isiD "int" d.1 = some (.v (.bl false))
  os:∀ d,a = .o d → isiD "str" d.1 = some (.v (.bl false))
def inI (a:At) (lo hi:Int):Bool:=match a with | .i n=>decide (lo ≤ n) && decide (n ≤ hi) | _=>false
def whA (a:At):Bool:=match a with | .i _=>true | _=>false
def numA (a:At):Int:=match a with | .i n=>n | _=>0
section
variable {s:Sl} {w w':Fl} {a a0 a1 a2 a3 a4:At}
theorem ZbL:lend (atE a) = atE a:=Zbf (Ke.kept a)
theorem ZgA (h:AtK a):callK ZJ [atE a] s = .ok (.v (.bl (whA a))) s:=Zg rfl (by
  cases a with
  | i n=>simp [ZU,atE,whA]
  | b c=>simp [ZU,atE,whA,show isiD "int" (.v (.bl c)) = some (.v (.bl true)) from rfl,show isiD "bool" (.v (.bl c)) = some (.v (.bl true)) from rfl]
  | s z=>simp [ZU,atE,whA,show isiD "int" (.v (.str z)) = some (.v (.bl false)) from rfl]
  | o d=>simp [ZU,atE,whA,h.oi d rfl])
theorem ZdC (h:AtK a):callK Zq [atE a] s = .ok (.v (.bl (whA a))) s:=Zg rfl (by
  cases a with
  | i n=>simp [Z5,atE,whA]
  | b c=>simp [Z5,atE,whA,show isiD "int" (.v (.bl c)) = some (.v (.bl true)) from rfl,show isiD "bool" (.v (.bl c)) = some (.v (.bl true)) from rfl]
  | s z=>simp [Z5,atE,whA,show isiD "int" (.v (.str z)) = some (.v (.bl false)) from rfl]
  | o d=>simp [Z5,atE,whA,h.oi d rfl])
theorem Zbe {lo hi:Int} (h:AtK a):callK Zl [atE a,.v (.int lo),.v (.int hi)] s = .ok (.v (.bl (inI a lo hi))) s:=by
  cases ha:a with
  | i n=>simp [atE,inI]
  | b c=>exact Zg rfl (by simp [Z2,ZbL,ZgA (ha ▸ h),whA,inI])
  | s z=>exact Zg rfl (by simp [Z2,ZbL,ZgA (ha ▸ h),whA,inI])
  | o d=>exact Zg rfl (by simp [Z2,ZbL,ZgA (ha ▸ h),whA,inI])
def nmA (a:At):Bool:=match a with | .s z=>nameB z.cps.toList | _=>false
theorem Zis (h:AtK a):callK Zx [atE a] s = .ok (.v (.bl (nmA a))) s:=by
  cases ha:a with
  | s z=>exact ZdE (h.s z ha)
  | i n=>exact Zg rfl (by simp [ZB,atE,nmA,show isiD "str" (.v (.int n)) = some (.v (.bl false)) from rfl])
  | b c=>exact Zg rfl (by simp [ZB,atE,nmA,show isiD "str" (.v (.bl c)) = some (.v (.bl false)) from rfl])
  | o d=>exact Zg rfl (by simp [ZB,atE,nmA,h.os d ha])
/-- what is wrong with the numbers of a row -/
def wfl (a1 a2 a3:At) (r:List At):Option String :=
  if inI a1 0 200 = false then some "first" else if inI a2 (max 0 (numA a1 - 1)) 199 = false then some "last" else if inI a3 1 12 = false then some "length"
  else match r with | [a4]=>if inI a4 0 (numA a3) = false then some "left" else none | _=>none
def whyD:Option String → D | none=>.v .non | some x=>.v (.str (Str.ofString x))
theorem int_of {lo hi:Int} (h:inI a lo hi = true):a = .i (numA a):=by cases a <;> simp_all [inI,numA]
theorem ZkU {r:List At} (h1:AtK a1) (h2:AtK a2) (h3:AtK a3) (hr:r = [] ∨ ∃ a4,r = [a4] ∧ AtK a4):callK Zt [Tpl atE (a0 :: a1 :: a2 :: a3 :: r)] s = .ok (whyD (wfl a1 a2 a3 r)) s:=Zg rfl (by
  have i1:ixD (Tpl atE (a0 :: a1 :: a2 :: a3 :: r)) (.v (.int 1)) = some (atE a1):=ix_Tpl (i:=1) rfl
  have i2:ixD (Tpl atE (a0 :: a1 :: a2 :: a3 :: r)) (.v (.int 2)) = some (atE a2):=ix_Tpl (i:=2) rfl
  have i3:ixD (Tpl atE (a0 :: a1 :: a2 :: a3 :: r)) (.v (.int 3)) = some (atE a3):=ix_Tpl (i:=3) rfl
  have hf:∀ a,Option.filter D.kept (some (atE a)) = some (atE a):=fun a=>by simp [Option.filter,Ke.kept]
  cases c1:inI a1 0 200 with
  | false=>simp [Zo,i1,ZbL,Zbe h1,c1,wfl,whyD]
  | true =>
    have e1:=int_of c1
    have s1:subD (atE a1) (.v (.int 1)) = some (.v (.int (numA a1 - 1))):=by rw [e1]; rfl
    cases c2:inI a2 (max 0 (numA a1 - 1)) 199 with
    | false=>simp [Zo,i1,i2,s1,ZbL,Zbe h1,Zbe h2,c1,c2,wfl,whyD]
    | true =>
      cases c3:inI a3 1 12 with
      | false=>simp [Zo,i1,i2,i3,s1,ZbL,Zbe h1,Zbe h2,Zbe h3,c1,c2,c3,wfl,whyD]
      | true =>
        have e3:=int_of c3
        rcases hr with rfl | ⟨a4,rfl,h4⟩
        · simp [Zo,i1,i2,i3,s1,ZbL,Zbe h1,Zbe h2,Zbe h3,c1,c2,c3,wfl,whyD]
        · have i4:ixD (Tpl atE (a0 :: a1 :: a2 :: a3 :: [a4])) (.v (.int 4)) = some (atE a4):=ix_Tpl (i:=4) rfl
          have w4:∀ s,callK Zl [atE a4,.v (.int 0),atE a3] s = .ok (.v (.bl (inI a4 0 (numA a3)))) s:=fun s=>by rw [show atE a3 = .v (.int (numA a3)) by rw [e3]; rfl]; exact Zbe h4
          cases c4:inI a4 0 (numA a3) <;> simp [Zo,i1,i2,i3,i4,s1,ZbL,Zbe h1,Zbe h2,Zbe h3,w4,c1,c2,c3,c4,wfl,whyD])
/-- a thing handed in as a row -/
inductive Rw | t (ks:List At) | n (d:KD)
def rwE:Rw → D | .t ks=>Tpl atE ks | .n d=>d.1
instance:Ke rwE:=⟨fun e=>by cases e with | t ks=>rfl | n d=>exact d.2⟩
structure RwK (e:Rw):Prop where
  at_:∀ ks,e = .t ks → (∀ a ∈ ks,AtK a) ∧ ks.length ≤ 50
  no:∀ d,e = .n d → isiD "tuple" d.1 = some (.v (.bl false))
def strA (a:At):Str:=match a with | .s z=>z | _=>""
def rfl5 (kn:List Str) (a0 a1 a2 a3:At) (r:List At):Option String:=if nmA a0 = false then some "name" else if strA a0 ∈ kn then some "double" else wfl a1 a2 a3 r
/-- what is wrong with a row behind the names kn -/
def flt (kn:List Str):Rw → Option String
  | .t [a0,a1,a2,a3]=>rfl5 kn a0 a1 a2 a3 []
  | .t [a0,a1,a2,a3,a4]=>rfl5 kn a0 a1 a2 a3 [a4]
  | _=>some "form"
theorem Zoz {α:Type} {kn:List Str} {z:Str}:∀ {xs:List α},xs.length = kn.length → (lkD (kn.map Sum.inr) xs (.inr z:Key)).isSome = decide (z ∈ kn):=by
  induction kn with
  | nil=>intro xs _; cases xs <;> simp [lkD]
  | cons k kn ih =>
    intro xs h
    cases xs with
    | nil=>simp at h
    | cons x xs =>
      simp only [List.map_cons,lkD]
      by_cases q:k = z
      · simp [q]
      · have q':¬ z = k:=fun r=>q r.symm
        have:¬ ((Sum.inr k:Key) = Sum.inr z):=fun r=>q (Sum.inr.inj r)
        rw [if_neg this,ih (by simpa using h)]
        simp [q']
theorem str_of (h:nmA a = true):a = .s (strA a):=by cases a <;> simp_all [nmA,strA]
theorem Zle {kn:List Str} {xs:List D} {r:List At} (hx:xs.length = kn.length) (h0:AtK a0) (h1:AtK a1) (h2:AtK a2) (h3:AtK a3) (hr:r = [] ∨ ∃ a4,r = [a4] ∧ AtK a4):callK Zs [.n (.dct (kn.map Sum.inr)) .bor xs,Tpl atE (a0 :: a1 :: a2 :: a3 :: r)] s = .ok (whyD (rfl5 kn a0 a1 a2 a3 r)) s:=Zg rfl (by
  have i0:ixD (Tpl atE (a0 :: a1 :: a2 :: a3 :: r)) (.v (.int 0)) = some (atE a0):=ix_Tpl (i:=0) rfl
  have hl:∃ n:Int,lenD (Tpl atE (a0 :: a1 :: a2 :: a3 :: r)) = some (.v (.int n)) ∧ 4 ≤ n ∧ n ≤ 5:=by
    rcases hr with rfl | ⟨a4,rfl,_⟩
    · exact ⟨4,rfl,by decide,by decide⟩
    · exact ⟨5,rfl,by decide,by decide⟩
  obtain ⟨n,l1,l2,l3⟩:=hl
  have hw:∀ s,callK Zt [Tpl atE (a0 :: a1 :: a2 :: a3 :: r)] s = .ok (whyD (wfl a1 a2 a3 r)) s:=fun s=>ZkU h1 h2 h3 hr
  have ht:isiD "tuple" (Tpl atE (a0 :: a1 :: a2 :: a3 :: r)) = some (.v (.bl true)):=rfl
  have hd:lend (Tpl atE (a0 :: a1 :: a2 :: a3 :: r)) = Tpl atE (a0 :: a1 :: a2 :: a3 :: r):=Zbf rfl
  generalize Tpl atE (a0 :: a1 :: a2 :: a3 :: r) = R at i0 l1 hw ht hd ⊢
  cases c0:nmA a0 with
  | false=>simp [Zk,ht,l1,l2,l3,i0,ZbL,Zis h0,c0,rfl5,whyD]
  | true =>
    have e0:=str_of c0
    have hin:inD (atE a0) (.n (.dct (kn.map Sum.inr)) .bor xs) = some (.v (.bl (decide (strA a0 ∈ kn)))):=by
      rw [show atE a0 = .v (.str (strA a0)) by rw [e0]; rfl,in_dct,Zoz hx]
    by_cases c1:strA a0 ∈ kn
    · simp [Zk,ht,l1,l2,l3,i0,ZbL,Zis h0,c0,hin,c1,rfl5,whyD]
    · simp [Zk,ht,l1,l2,l3,i0,ZbL,Zis h0,c0,hin,c1,rfl5,hd,hw])
theorem row_at {kn:List Str} {xs:List D} {e:Rw} (hx:xs.length = kn.length) (h:RwK e):callK Zs [.n (.dct (kn.map Sum.inr)) .bor xs,rwE e] s = .ok (whyD (flt kn e)) s:=by
  cases e with
  | n d=>exact Zg rfl (by simp [Zk,rwE,h.no d rfl,flt,whyD])
  | t ks =>
    obtain ⟨hk,hl⟩:=h.at_ ks rfl
    match ks,hk,hl with
    | [a0,a1,a2,a3],hk,_=>exact Zle hx (hk a0 (by simp)) (hk a1 (by simp)) (hk a2 (by simp)) (hk a3 (by simp)) (.inl rfl)
    | [a0,a1,a2,a3,a4],hk,_=>exact Zle hx (hk a0 (by simp)) (hk a1 (by simp)) (hk a2 (by simp)) (hk a3 (by simp)) (.inr ⟨a4,rfl,hk a4 (by simp)⟩)
    | [],_,_=>exact Zg rfl (by simp [Zk,rwE,flt,whyD])
    | [_],_,_=>exact Zg rfl (by simp [Zk,rwE,flt,whyD])
    | [_,_],_,_=>exact Zg rfl (by simp [Zk,rwE,flt,whyD])
    | [_,_,_],_,_=>exact Zg rfl (by simp [Zk,rwE,flt,whyD])
    | a0 :: a1 :: a2 :: a3 :: a4 :: a5 :: r,_,hl =>
      have l1:lenD (Tpl atE (a0 :: a1 :: a2 :: a3 :: a4 :: a5 :: r)) = some (.v (.int ((r.length + 6:Nat):Int))):=by simp [lenD,Tpl]; omega
      have l2:¬ (((r.length + 6:Nat):Int) ≤ 5):=by omega
      have l3:(4:Int) ≤ ((r.length + 6:Nat):Int):=by omega
      exact Zg rfl (by
        generalize ((r.length + 6:Nat):Int) = n at l1 l2 l3
        simp [Zk,rwE,flt,whyD,l1,l2,l3])
end
end Lw
set_option maxHeartbeats 1000000
namespace Lw
open PySem PySem.Spec PyProof.Rows L2 Fs
section
variable {s:Sl} {w w':Fl} {a a0 a1 a2 a3 a4:At} {kn:List Str} {z:Str}
theorem vals_strs:∀ kn:List Str,valsD (kn.map D.str) = some (kn.map V.str)
  | []=>rfl
  | k :: kn=>by simp [valsD,vals_strs kn]
theorem Zjz:∀ kn:List Str,inV (.str z) (kn.map V.str) = decide (z ∈ kn)
  | []=>rfl
  | k :: kn=>by
    have ih:=Zjz kn
    unfold inV at ih ⊢
    have e:eqV (V.str k) (.str z) = decide (k = z):=by
      show (k == z) = _
      by_cases q:k = z
      · subst q; simp
      · have:(k == z) = false:=beq_eq_false_iff_ne.mpr q
        simp [this,q]
    simp only [List.map_cons,List.any_cons,ih,e,List.mem_cons,Bool.decide_or]
    congr 1
    simp [eq_comm]
theorem in_kn:inD (.v (.str z)) (Lst D.str w kn) = some (.v (.bl (decide (z ∈ kn)))):=by
  have e:inB (.v (.str z)) (Lst D.str w kn) = some (decide (z ∈ kn)):=by
    simp only [inB,Lst,seqA,Option.bind_some,vals_strs,Zjz]
  simp only [inD,e]
  rfl
/-- the signs that no name has -/
def odd (z:Str):List Nat:=z.cps.toList.filter fun c=>!decide (c ∈ LF)
def sgS (c:Nat):Str:=⟨#[c]⟩
theorem sg_S {c:Nat}:sg c = D.str (sgS c):=rfl
/-- the law's own look at the signs of a name -/
theorem odd_c {R:D} {x0:Option D} {P:D → Sl → Prop} (i0:ixD R (.v (.int 0)) = some (.v (.str z))) (hz:z.length ≤ 100) (k:P (Lst D.str .own ((odd z).map sgS)) [x0,some R,some ltrs,none]):sat (dComp true [3] (diP (itA true) (pOp ixD (pVar 1) (pC (.int 0)))) (tgN 3) (dtV (dN (f2 notinD) [.k (pVar 3),.v (dN (f2 addA) [.k (pVar 2),.k (pC (.str "0123456789"))])])) (dP (pVar 3)) [x0,some R,some ltrs,none]) P:=by
  refine Zig (out:=D.str) (fun c=>D.str (sgS c)) z.cps.toList (fun c=>!decide (c ∈ LF)) sgS (by simp [diP,i0,it_str,sg_S]) rfl (fun c _=>?_) (by have:=Z4 z; omega) ?_
  · have e2:notinD (D.str (sgS c)) (.v (.str (("abcdefghijklmnopqrstuvwxyz":Str) ++ ("0123456789":Str)))) = some (.v (.bl (!decide (c ∈ LF)))):=rfl
    by_cases hc:c ∈ LF <;> simp [add_lf,e2,hc]
  · exact k
theorem Zjf {c:Nat} {cs:List Nat} (hc:z.cps.toList = c :: cs) (h8:z.length ≤ 8) (hL:c ∈ LT):(odd z).isEmpty = nameB z.cps.toList:=by
  have hl:=Z4 z
  rw [hc] at hl
  simp only [List.length_cons] at hl
  have h9:cs.length + 1 ≤ 8:=by omega
  unfold odd
  rw [hc]
  simp only [nameB,List.length_cons,h9,hL,decide_true,Bool.true_and]
  rw [Bool.eq_iff_iff]
  simp [List.filter_eq_nil_iff]
theorem ltr_in {c:Nat}:notinD (sg c) ltrs = some (.v (.bl (!decide (c ∈ LT)))):=rfl
def lwhy (o:Option String):D:=.v (.str (Str.ofString (o.getD "")))
theorem Zjo {r:List At} (h0:AtK a0) (h1:AtK a1) (h2:AtK a2) (h3:AtK a3) (hr:r = [] ∨ ∃ a4,r = [a4] ∧ AtK a4):callK Zr [Lst D.str .bor kn,Tpl atE (a0 :: a1 :: a2 :: a3 :: r)] s = .ok (lwhy (rfl5 kn a0 a1 a2 a3 r)) s:=Zg rfl (by
  have i0:ixD (Tpl atE (a0 :: a1 :: a2 :: a3 :: r)) (.v (.int 0)) = some (atE a0):=ix_Tpl (i:=0) rfl
  have i1:ixD (Tpl atE (a0 :: a1 :: a2 :: a3 :: r)) (.v (.int 1)) = some (atE a1):=ix_Tpl (i:=1) rfl
  have i2:ixD (Tpl atE (a0 :: a1 :: a2 :: a3 :: r)) (.v (.int 2)) = some (atE a2):=ix_Tpl (i:=2) rfl
  have i3:ixD (Tpl atE (a0 :: a1 :: a2 :: a3 :: r)) (.v (.int 3)) = some (atE a3):=ix_Tpl (i:=3) rfl
  have ht:isiD "tuple" (Tpl atE (a0 :: a1 :: a2 :: a3 :: r)) = some (.v (.bl true)):=rfl
  have m45:mkTup [D.v (.int 4),.v (.int 5)] = some (Tpl D.int [4,5]):=rfl
  have hl:∃ n:Int,lenD (Tpl atE (a0 :: a1 :: a2 :: a3 :: r)) = some (.v (.int n)) ∧ notinD (.v (.int n)) (Tpl D.int [4,5]) = some (.v (.bl false)) ∧ (r = [] ∧ n = 4 ∨ ∃ a4,r = [a4] ∧ AtK a4 ∧ n = 5 ∧ ixD (Tpl atE (a0 :: a1 :: a2 :: a3 :: r)) (.v (.int 4)) = some (atE a4)):=by
    rcases hr with rfl | ⟨a4,rfl,h4⟩
    · exact ⟨4,rfl,rfl,.inl ⟨rfl,rfl⟩⟩
    · exact ⟨5,rfl,rfl,.inr ⟨a4,rfl,h4,rfl,ix_Tpl (i:=4) rfl⟩⟩
  obtain ⟨n,l1,l2,hr⟩:=hl
  generalize hR:Tpl atE (a0 :: a1 :: a2 :: a3 :: r) = R at i0 i1 i2 i3 l1 ht hr
  by_cases hs:∃ z,a0 = .s z
  · obtain ⟨z,rfl⟩:=hs
    have hz:=h0.s z rfl
    have hl2:z.length ≤ 100000:=by omega
    have i0':ixD R (.v (.int 0)) = some (.v (.str z)):=i0
    have hlen:=Z4 z
    cases hc:z.cps.toList with
    | nil =>
      rw [hc] at hlen
      simp [Zi,ht,l1,m45,l2,i0',len_str hl2,hlen,rfl5,nmA,hc,nameB,lwhy]
    | cons c cs =>
      rw [hc] at hlen
      simp only [List.length_cons] at hlen
      have g1:(1:Int) ≤ z.length:=by omega
      by_cases h8:z.length ≤ 8
      · have g2:(z.length:Int) ≤ 8:=by omega
        by_cases hL:c ∈ LT
        · have hn:notinD (sg c) ltrs = some (.v (.bl false)):=by rw [ltr_in]; simp [hL]
          simp [Zi,ht,l1,m45,l2,i0',len_str hl2,g1,g2,Zcc hc hl2,hn]
          refine odd_c i0' hz ?_
          have hE:=Zjf hc h8 hL
          have hN:=Zir (enc:=D.str) (ok:=okS) (w:=.own) (w':=.own) (xs:=(odd z).map sgS) (fun x hx=>by
            obtain ⟨k,hk,rfl⟩:=List.mem_map.mp hx
            intro y hy
            have:y = k:=by simpa [sgS] using hy
            have:=h0.sc z rfl k (List.mem_filter.mp hk).1
            omega)
          rw [show ((odd z).map sgS).isEmpty = (odd z).isEmpty by simp,hE] at hN
          have hm:mkLst [] = some (.n .lst .own []):=rfl
          generalize Lst D.str .own ((odd z).map sgS) = G at hN
          cases hnm:nameB z.cps.toList with
          | false=>simp [hm,hN,hnm,rfl5,nmA,lwhy]
          | true =>
            have ea:nmA (.s z) = true:=hnm
            by_cases hk:z ∈ kn
            · simp [hm,hN,hnm,i0',in_kn,hk,rfl5,ea,strA,lwhy]
            · simp [hm,hN,hnm,i0',in_kn,hk,i1,ZbL,ZdC h1]
              have hin:strA (.s z) ∉ kn:=hk
              cases a1 with
              | b c=>simp [whA,rfl5,ea,hin,wfl,inI,lwhy]
              | s c=>simp [whA,rfl5,ea,hin,wfl,inI,lwhy]
              | o c=>simp [whA,rfl5,ea,hin,wfl,inI,lwhy]
              | i n1 =>
                have j1:ixD R (.v (.int 1)) = some (.v (.int n1)):=i1
                by_cases p1:0 ≤ n1
                · by_cases p2:n1 ≤ 200
                  · simp [whA,j1,p1,p2,i2,ZbL,ZdC h2]
                    cases a2 with
                    | b c=>simp [whA,p1,p2,rfl5,ea,hin,wfl,inI,numA,lwhy]
                    | s c=>simp [whA,p1,p2,rfl5,ea,hin,wfl,inI,numA,lwhy]
                    | o c=>simp [whA,p1,p2,rfl5,ea,hin,wfl,inI,numA,lwhy]
                    | i n2 =>
                      have j2:ixD R (.v (.int 2)) = some (.v (.int n2)):=i2
                      by_cases p3:max 0 (n1 - 1) ≤ n2
                      · by_cases p4:n2 ≤ 199
                        · simp [whA,j1,j2,p3,p4,i3,ZbL,ZdC h3]
                          cases a3 with
                          | b c=>simp [whA,p1,p2,p3,p4,rfl5,ea,hin,wfl,inI,numA,lwhy]
                          | s c=>simp [whA,p1,p2,p3,p4,rfl5,ea,hin,wfl,inI,numA,lwhy]
                          | o c=>simp [whA,p1,p2,p3,p4,rfl5,ea,hin,wfl,inI,numA,lwhy]
                          | i n3 =>
                            have j3:ixD R (.v (.int 3)) = some (.v (.int n3)):=i3
                            by_cases p5:1 ≤ n3
                            · by_cases p6:n3 ≤ 12
                              · rcases hr with ⟨rfl,rfl⟩ | ⟨a4,rfl,h4,rfl,i4⟩
                                · simp [whA,j3,p1,p2,p3,p4,p5,p6,l1,rfl5,ea,hin,wfl,inI,numA,lwhy]
                                · simp [whA,j3,p5,p6,l1,i4,ZbL,ZdC h4]
                                  cases a4 with
                                  | b c=>simp [whA,p1,p2,p3,p4,p5,p6,rfl5,ea,hin,wfl,inI,numA,lwhy]
                                  | s c=>simp [whA,p1,p2,p3,p4,p5,p6,rfl5,ea,hin,wfl,inI,numA,lwhy]
                                  | o c=>simp [whA,p1,p2,p3,p4,p5,p6,rfl5,ea,hin,wfl,inI,numA,lwhy]
                                  | i n4 =>
                                    have j4:ixD R (.v (.int 4)) = some (.v (.int n4)):=i4
                                    by_cases p7:0 ≤ n4 <;> by_cases p8:n4 ≤ n3 <;> simp [whA,j3,j4,p1,p2,p3,p4,p5,p6,p7,p8,rfl5,ea,hin,wfl,inI,numA,lwhy]
                              · simp [whA,j3,p1,p2,p3,p4,p5,p6,rfl5,ea,hin,wfl,inI,numA,lwhy]
                            · simp [whA,j3,p1,p2,p3,p4,p5,rfl5,ea,hin,wfl,inI,numA,lwhy]
                        · simp [whA,j1,j2,p1,p2,p3,p4,rfl5,ea,hin,wfl,inI,numA,lwhy]
                      · simp [whA,j1,j2,p1,p2,p3,rfl5,ea,hin,wfl,inI,numA,lwhy]
                  · simp [whA,j1,p1,p2,rfl5,ea,hin,wfl,inI,lwhy]
                · simp [whA,j1,p1,rfl5,ea,hin,wfl,inI,lwhy]
        · have hn:notinD (sg c) ltrs = some (.v (.bl true)):=by rw [ltr_in]; simp [hL]
          simp [Zi,ht,l1,m45,l2,i0',len_str hl2,g1,g2,Zcc hc hl2,hn,rfl5,nmA,hc,nameB,hL,lwhy]
      · have g2:¬ (z.length:Int) ≤ 8:=by omega
        have g3:¬ cs.length + 1 ≤ 8:=by omega
        simp [Zi,ht,l1,m45,l2,i0',len_str hl2,g1,g2,rfl5,nmA,hc,nameB,g3,lwhy]
  · have e0:isiD "str" (atE a0) = some (.v (.bl false)):=by
      cases a0 with
      | s z=>exact absurd ⟨z,rfl⟩ hs
      | i n=>rfl
      | b c=>rfl
      | o d=>exact h0.os d rfl
    have e1:nmA a0 = false:=by cases a0 <;> first | rfl | exact absurd ⟨_,rfl⟩ hs
    simp [Zi,ht,l1,m45,l2,i0,e0,rfl5,e1,lwhy])
theorem Zox {e:Rw} (h:RwK e):callK Zr [Lst D.str .bor kn,rwE e] s = .ok (lwhy (flt kn e)) s:=by
  have m45:mkTup [D.v (.int 4),.v (.int 5)] = some (Tpl D.int [4,5]):=rfl
  cases e with
  | n d=>exact Zg rfl (by simp [Zi,rwE,h.no d rfl,flt,lwhy])
  | t ks =>
    obtain ⟨hk,hl⟩:=h.at_ ks rfl
    match ks,hk,hl with
    | [a0,a1,a2,a3],hk,_=>exact Zjo (hk a0 (by simp)) (hk a1 (by simp)) (hk a2 (by simp)) (hk a3 (by simp)) (.inl rfl)
    | [a0,a1,a2,a3,a4],hk,_=>exact Zjo (hk a0 (by simp)) (hk a1 (by simp)) (hk a2 (by simp)) (hk a3 (by simp)) (.inr ⟨a4,rfl,hk a4 (by simp)⟩)
    | [],_,_=>exact Zg rfl (by simp [Zi,rwE,flt,lwhy,m45,show notinD (.v (.int 0)) (Tpl D.int [4,5]) = some (.v (.bl true)) from rfl])
    | [_],_,_=>exact Zg rfl (by simp [Zi,rwE,flt,lwhy,m45,show notinD (.v (.int 1)) (Tpl D.int [4,5]) = some (.v (.bl true)) from rfl])
    | [_,_],_,_=>exact Zg rfl (by simp [Zi,rwE,flt,lwhy,m45,show notinD (.v (.int 2)) (Tpl D.int [4,5]) = some (.v (.bl true)) from rfl])
    | [_,_,_],_,_=>exact Zg rfl (by simp [Zi,rwE,flt,lwhy,m45,show notinD (.v (.int 3)) (Tpl D.int [4,5]) = some (.v (.bl true)) from rfl])
    | a0 :: a1 :: a2 :: a3 :: a4 :: a5 :: r,_,hl =>
      have l1:lenD (Tpl atE (a0 :: a1 :: a2 :: a3 :: a4 :: a5 :: r)) = some (.v (.int ((r.length + 6:Nat):Int))):=by simp [lenD,Tpl]; omega
      have l2:notinD (.v (.int ((r.length + 6:Nat):Int))) (Tpl D.int [4,5]) = some (.v (.bl true)):=by
        have q1:¬ (4:Int) = ((r.length + 6:Nat):Int):=by omega
        have q2:¬ (5:Int) = ((r.length + 6:Nat):Int):=by omega
        generalize ((r.length + 6:Nat):Int) = n at q1 q2
        simp [notinD,inB,Tpl,seqA,valsD,inV,eqV,q1,q2]
      exact Zg rfl (by
        generalize ((r.length + 6:Nat):Int) = n at l1 l2
        simp [Zi,rwE,flt,lwhy,l1,m45,l2])
end
end Lw
set_option maxHeartbeats 1000000
namespace Lw
open PySem PySem.Spec PyProof.Rows L2 Fs
section
variable {s:Sl} {w w':Fl} {a a0 a1 a2 a3 a4:At} {kn:List Str} {z:Str}
def rowOf:Rw → Row
  | .t [.s z,.i a,.i b,.i l]=>⟨z,a,b,l,l⟩
  | .t [.s z,.i a,.i b,.i l,.i k]=>⟨z,a,b,l,k⟩
  | _=>⟨"",0,0,0,0⟩
abbrev row4D (r:Row):D:=.n .tup .shr [.v (.str r.nm),.v (.int r.a),.v (.int r.b),.v (.int r.l)]
structure Good (kn:List Str) (e:Rw):Prop where
  ok:(rowOf e).ok
  nw:(rowOf e).nm ∉ kn
  is:rwE e = rowD (rowOf e) ∨ rwE e = row4D (rowOf e) ∧ (rowOf e).k = (rowOf e).l
theorem inI_i {lo hi n:Int}:inI (.i n) lo hi = true ↔ lo ≤ n ∧ n ≤ hi:=by simp [inI]
theorem Zhs {r:List At} (h:rfl5 kn a0 a1 a2 a3 r = none):∃ z n1 n2 n3,a0 = .s z ∧ a1 = .i n1 ∧ a2 = .i n2 ∧ a3 = .i n3 ∧ nameB z.cps.toList = true ∧ z ∉ kn ∧ 0 ≤ n1 ∧ n1 ≤ 200 ∧ 0 ≤ n2 ∧ n1 - 1 ≤ n2 ∧ n2 ≤ 199 ∧ 1 ≤ n3 ∧ n3 ≤ 12 ∧ ∀ a4,r = [a4] → ∃ n4,a4 = .i n4 ∧ 0 ≤ n4 ∧ n4 ≤ n3:=by
  unfold rfl5 at h
  split at h
  · cases h
  · rename_i c0
    simp only [Bool.not_eq_false] at c0
    split at h
    · cases h
    · rename_i c00
      unfold wfl at h
      split at h
      · cases h
      · rename_i c1
        simp only [Bool.not_eq_false] at c1
        split at h
        · cases h
        · rename_i c2
          simp only [Bool.not_eq_false] at c2
          split at h
          · cases h
          · rename_i c3
            simp only [Bool.not_eq_false] at c3
            have e0:=str_of c0
            have e1:=int_of c1
            have e2:=int_of c2
            have e3:=int_of c3
            have d1:=inI_i.mp (by rw [← e1]; exact c1)
            have d2:=inI_i.mp (by rw [← e2]; exact c2)
            have d3:=inI_i.mp (by rw [← e3]; exact c3)
            refine ⟨_,_,_,_,e0,e1,e2,e3,by rw [e0] at c0; exact c0,c00,d1.1,d1.2,by omega,by omega,d2.2,d3.1,d3.2,?_⟩
            rintro a4 rfl
            simp only at h
            split at h
            · cases h
            · rename_i c4
              simp only [Bool.not_eq_false] at c4
              have e4:=int_of c4
              have d4:=inI_i.mp (by rw [← e4]; exact c4)
              exact ⟨_,e4,d4.1,d4.2⟩
theorem Zfr {e:Rw} (h:flt kn e = none):Good kn e:=by
  unfold flt at h
  split at h
  · obtain ⟨z,n1,n2,n3,rfl,rfl,rfl,rfl,q⟩:=Zhs h
    exact ⟨⟨q.1,q.2.2.1,q.2.2.2.1,q.2.2.2.2.1,q.2.2.2.2.2.1,q.2.2.2.2.2.2.1,q.2.2.2.2.2.2.2.1,q.2.2.2.2.2.2.2.2.1,by have:=q.2.2.2.2.2.2.2.1; show 0 ≤ n3; omega,Int.le_refl _⟩,q.2.1,.inr ⟨rfl,rfl⟩⟩
  · obtain ⟨z,n1,n2,n3,rfl,rfl,rfl,rfl,q⟩:=Zhs h
    obtain ⟨n4,rfl,h1,h2⟩:=q.2.2.2.2.2.2.2.2.2 _ rfl
    exact ⟨⟨q.1,q.2.2.1,q.2.2.2.1,q.2.2.2.2.1,q.2.2.2.2.2.1,q.2.2.2.2.2.2.1,q.2.2.2.2.2.2.2.1,q.2.2.2.2.2.2.2.2.1,h1,h2⟩,q.2.1,.inl rfl⟩
  · cases h
theorem Zo1 {e:Rw} (h:Good kn e):callK ZD [rwE e] s = .ok (rowD (rowOf e)) s:=by
  rcases h.is with q | ⟨q,e4⟩
  · rw [q]; exact ZhZ
  · rw [q]
    refine Zg rfl ?_
    have i3:ixD (row4D (rowOf e)) (.v (.int 3)) = some (.v (.int (rowOf e).l)):=rfl
    have l4:lenD (row4D (rowOf e)) = some (.v (.int 4)):=rfl
    have ad:addA (row4D (rowOf e)) (.n .tup .shr [.v (.int (rowOf e).l)]) = some (rowD (rowOf e)):=by
      have:rowD (rowOf e) = .n .tup .shr [.v (.str (rowOf e).nm),.v (.int (rowOf e).a),.v (.int (rowOf e).b),.v (.int (rowOf e).l),.v (.int (rowOf e).l)]:=by simp [rowD,e4]
      rw [this]; rfl
    have mk:mkTup [D.v (.int (rowOf e).l)] = some (.n .tup .shr [.v (.int (rowOf e).l)]):=rfl
    generalize row4D (rowOf e) = R at i3 l4 ad
    simp [Zbq,l4,i3,mk,ad]
/-- the first row with something wrong,and what -/
def gof (kn:List Str) (n:Nat):List Rw → Option (Nat × String)
  | []=>none
  | e :: es=>match flt kn e with
    | some y=>some (n,y)
    | none=>gof (kn ++ [(rowOf e).nm]) (n + 1) es
def fvB:DS:=(dsSeq (dsAsg (dCall Zs (daLend (pVar 1) (daLend (pVar 3) daNil))) (tgN 4)) (dsSeq (dsIf (dtV (dN (f1 notND) [.k (pVar 4)])) (Zbz 1 2 (daCons (dP (pVar 2)) (daCons (dP (pVar 4)) daNil))) dsNext) (Zby (plV 1) (dP (pOp ixD (pVar 3) (pC (.int 0)))) true (dCall ZD (daLend (pVar 3) daNil)))))
theorem ZoQ (rs:List Row):(rs.map Row.nm).map Sum.inr = keysR rs:=by simp [keysR,keyR]
theorem ZlW {e:Rw} (h:Good kn e):ixD (rwE e) (.v (.int 0)) = some (.v (.str (rowOf e).nm)):=by
  rcases h.is with q | ⟨q,_⟩ <;> rw [q] <;> rfl
theorem ZgR {e:Rw}:lend (rwE e) = rwE e:=Zbf (Ke.kept e)
def wordD (x:String):D:=.v (.str (Str.ofString x))
theorem Zh0 {R:D}:∀ (es:List Rw) (rs:List Row) (n:Nat) (y2 y3 y4:Option D),RowsOk rs → (∀ e ∈ es,RwK e) → rs.length + es.length ≤ 30 →
    (∀ i y,gof (rs.map Row.nm) n es = some (i,y) → ∃ s',loop (tgT [tgN 2,tgN 3]) fvB (pairsE n (es.map rwE)) [some R,some (fivesD .own rs),y2,y3,y4] = .exc 1 [.v (.int (i:Int)),wordD y] s') ∧
    (gof (rs.map Row.nm) n es = none → RowsOk (rs ++ es.map rowOf) ∧ ∃ z2 z3 z4,loop (tgT [tgN 2,tgN 3]) fvB (pairsE n (es.map rwE)) [some R,some (fivesD .own rs),y2,y3,y4] = .ok .nx [some R,some (fivesD .own (rs ++ es.map rowOf)),z2,z3,z4])
  | [],rs,n,y2,y3,y4,hr,_,_=>⟨fun i y h=>by simp [gof] at h,fun _=>⟨by simpa using hr,y2,y3,y4,by simp [pairsE,loop]⟩⟩
  | e :: es,rs,n,y2,y3,y4,hr,he,hl=>by
    have hx:=he e List.mem_cons_self
    have hk:(e.casesOn (fun _=>True) (fun _=>True):Prop):=by cases e <;> trivial
    have ht:=tgT_2 (s:=[some R,some (fivesD .own rs),y2,y3,y4]) (i:=2) (j:=3) (a:=.v (.int (n:Int))) (b:=rwE e) rfl (Ke.kept e)
    have e5:=row_at (s:=[some R,some (fivesD .own rs),some (.v (.int (n:Int))),some (rwE e),y4]) (kn:=rs.map Row.nm) (xs:=rowsD rs) (by simp [rowsD]) hx
    rw [ZoQ] at e5
    have e6:=ZcQ rs
    have hstep:fvB [some R,some (fivesD .own rs),some (.v (.int (n:Int))),some (rwE e),y4] = match flt (rs.map Row.nm) e with
        | some y=>.exc 1 [.v (.int (n:Int)),wordD y] [some R,some (fivesD .own rs),some (.v (.int (n:Int))),some (rwE e),some (wordD y)]
        | none=>.ok .nx [some R,some (fivesD .own (rs ++ [rowOf e])),some (.v (.int (n:Int))),some (rwE e),some .non]:=by
      cases hf:flt (rs.map Row.nm) e with
      | some y =>
        rw [hf] at e5
        simp [fvB,e6,ZgR,e5,whyD,wordD]
      | none =>
        rw [hf] at e5
        have hg:=Zfr hf
        have hkn:keyR (rowOf e) ∉ keysR rs:=fun q=>by
          obtain ⟨r,hr,er⟩:=List.mem_map.mp q
          exact hg.nw (List.mem_map.mpr ⟨r,hr,Sum.inr.inj er⟩)
        have ef:Option.filter D.kept (some (rwE e)) = some (rwE e):=by simp [Option.filter,Ke.kept]
        have e7:=Zgo (s:=[some R,some (fivesD .own rs),some (.v (.int (n:Int))),some (rwE e),some .non]) (i:=1) (kd:=dP (pOp ixD (pVar 3) (pC (.int 0)))) (fz:=true) (y:=rowD (rowOf e)) rfl (kk:=.v (.str (rowOf e).nm)) (by simp [ZlW hg]) rfl (ZlF hr.nd) (by have:=hr.len; simp [rowsD]; omega)
        rw [ZfE hkn,ZfD hkn (by simp [keysR,rowsD])] at e7
        simp only [ZiD,if_true] at e7
        simp [fvB,e6,ZgR,e5,whyD,Zo1 hg,e7]
    rw [List.map_cons,ZfG,ZdD ht]
    simp only [List.set_cons_succ,List.set_cons_zero]
    rw [hstep]
    simp only [gof]
    cases hf:flt (rs.map Row.nm) e with
    | some y =>
      refine ⟨fun i y' h=>?_,fun h=>by simp at h⟩
      simp only [Option.some.injEq,Prod.mk.injEq] at h
      obtain ⟨rfl,rfl⟩:=h
      exact ⟨_,rfl⟩
    | none =>
      have hg:=Zfr hf
      simp only [Zz,Zer]
      have hr2:RowsOk (rs ++ [rowOf e]):=by
        refine ⟨by simp at hl ⊢; omega,?_,fun r hr'=>?_⟩
        · rw [List.map_append,List.nodup_append]
          exact ⟨hr.nd,by simp,fun a ha b hb q=>by
            simp only [List.map_cons,List.map_nil,List.mem_singleton] at hb
            rw [q,hb] at ha
            exact hg.nw ha⟩
        · rcases List.mem_append.mp hr' with q | q
          · exact hr.ok r q
          · rw [List.mem_singleton.mp q]; exact hg.ok
      have ih:=Zh0 (R:=R) es (rs ++ [rowOf e]) (n + 1) (some (.v (.int (n:Int)))) (some (rwE e)) (some .non) hr2 (fun e' he'=>he e' (List.mem_cons_of_mem _ he')) (by simp at hl ⊢; omega)
      simp only [List.map_append,List.map_cons,List.map_nil,List.append_assoc,List.singleton_append] at ih ⊢
      simpa using ih
/-- a thing handed in: a list or a tuple of things,or another thing -/
inductive Th | l (es:List Rw) | t (es:List Rw) | n (d:KD)
structure ThK (t:Th):Prop where
  hl:∀ es,t = .l es → ∀ e ∈ es,RwK e
  ht:∀ es,t = .t es → ∀ e ∈ es,RwK e
  hn:∀ d:KD,t = .n d → isiTD ["list","tuple"] d.1 = some (.v (.bl false))
def thE (w:Fl):Th → D | .l es=>Lst rwE w es | .t es=>Tpl rwE es | .n d=>d.1
def rowsF (es:List Rw):Option (D × String):=if 30 < es.length then some (.v (.int 30),"many") else (gof [] 0 es).map fun p=>(.v (.int (p.1:Int)),p.2)
/-- what is wrong with a thing -/
def thF:Th → Option (D × String)
  | .l es=>rowsF es
  | .t es=>rowsF es
  | .n _=>some (.v .non,"form")
theorem Znz {R:D} {es:List Rw} (e1:isiTD ["list","tuple"] R = some (.v (.bl true))) (e2:lenD R = some (.v (.int (es.length:Int)))) (e4:itEn false R = some (pairsE 0 (es.map rwE))) (h:∀ e ∈ es,RwK e) :
    (∀ d y,rowsF es = some (d,y) → ∀ s,callK ZA [R] s = .exc 1 [d,wordD y] s) ∧ (rowsF es = none → RowsOk (es.map rowOf) ∧ ∀ s,callK ZA [R] s = .ok (fivesD .own (es.map rowOf)) s):=by
  unfold rowsF
  by_cases hl:30 < es.length
  · have hl':(30:Int) < es.length:=by omega
    rw [if_pos hl]
    refine ⟨fun d y q s=>?_,fun q=>by cases q⟩
    cases q
    exact Zg4 rfl (s':=_) (by simp [Zy,e1,e2,hl',wordD]; rfl)
  · have hl':¬ (30:Int) < es.length:=by omega
    rw [if_neg hl]
    have ih:=Zh0 (R:=R) es [] 0 none none none ⟨by simp,by simp,by simp⟩ h (by simp; omega)
    simp only [List.map_nil,List.nil_append] at ih
    have hd:Zy [some R,none,none,none,none] = (loop (tgT [tgN 2,tgN 3]) fvB (pairsE 0 (es.map rwE)) [some R,some (fivesD .own []),none,none,none]).bind (seqK (dsRet (dMv 1))):=by
      simp [Zy,e1,e2,hl',e4,dDict0,diP]
      rfl
    constructor
    · intro d y q s
      obtain ⟨⟨i,y'⟩,q1,q2⟩:=Option.map_eq_some_iff.mp q
      cases q2
      obtain ⟨s',e⟩:=ih.1 i y' q1
      exact Zg4 rfl (s':=s') (by
        show Zy [some R,none,none,none,none] = _
        rw [hd,e]; rfl)
    · intro q
      obtain ⟨hr,z2,z3,z4,e⟩:=ih.2 (by simpa using q)
      refine ⟨hr,fun s=>Zg rfl ?_⟩
      show sat (Zy [some R,none,none,none,none]) _
      rw [hd,e]
      simp [dMv,D.free]
theorem itEn_T {es:List Rw} {p:Bool}:itEn p (Tpl rwE es) = some (pairsE 0 (es.map rwE)):=by
  simp only [Tpl,itEn]
  first | rw [if_pos (Zbb es)] | rw [if_pos ⟨Zbb es,.inr (by decide)⟩]
end
end Lw
set_option maxHeartbeats 1000000
namespace Lw
open PySem PySem.Spec PyProof.Rows L2 Fs
section
variable {s:Sl} {w w':Fl} {kn:List Str} {z:Str}
def lfB:DS:=(dsSeq (dsAsg (dCall Zr (daLend (pVar 1) (daLend (pVar 3) daNil))) (tgN 4)) (dsSeq (dsIf (dtV (dN (f2 neD) [.k (pVar 4),.k (pC (.str ""))])) (dsRet (dF mkTup (daCons (dP (pVar 2)) (daCons (dP (pVar 4)) daNil)))) dsNext) (dsDrop (dApp 1 (dP (pOp ixD (pVar 3) (pC (.int 0))))))))
def tellD (d:D) (y:String):D:=.n .tup .shr [d,wordD y]
theorem flt_ne {e:Rw} {y:String} (h:flt kn e = some y):y ∈ ["form","name","double","first","last","length","left"]:=by
  have hr:∀ {a0 a1 a2 a3:At} {r:List At} {y:String},rfl5 kn a0 a1 a2 a3 r = some y → y ∈ ["form","name","double","first","last","length","left"]:=by
    intro a0 a1 a2 a3 r y h
    unfold rfl5 wfl at h
    repeat' split at h
    all_goals first | (cases h; decide) | cases h
  unfold flt at h
  split at h
  · exact hr h
  · exact hr h
  · cases h; decide
theorem Zc4 {x y:Str} (hx:okS x) (hy:okS y):neD (.v (.str x)) (.v (.str y)) = some (.v (.bl (!decide (x = y)))):=by
  rw [neD_of (a:=.str x) (b:=.str y) rfl rfl (by simp [SeqAt.shaped,PyData.canLay0,PyData.depth,ZdR hx]) (by simp [SeqAt.shaped,PyData.canLay0,PyData.depth,ZdR hy])]
  congr 4
theorem okS_of {y:String}:okS (Str.ofString y):=fun c hc=>by
  rw [Str.ofString_eq_toList] at hc
  simp at hc
  obtain ⟨ch,_,rfl⟩:=hc
  have:=ch.valid
  rcases this with q | q
  · have:ch.toNat < 55296:=q; omega
  · exact q.2
theorem Zji {y:String} (h:y ∈ ["form","name","double","first","last","length","left"]):neD (.v (.str (Str.ofString y))) (.v (.str (Str.ofString ""))) = some (.v (.bl true)):=by
  rw [Zc4 okS_of okS_of]
  simp only [List.mem_cons,List.not_mem_nil,or_false] at h
  rcases h with rfl | rfl | rfl | rfl | rfl | rfl | rfl <;> exact congrArg (fun b=>some (D.v (V.bl b))) (by decide +kernel)
theorem ZhF:neD (.v (.str (Str.ofString ""))) (.v (.str (Str.ofString ""))) = some (.v (.bl false)):=by
  rw [Zc4 okS_of okS_of]
  simp
theorem Zgy {R:D}:∀ (es:List Rw) (kn:List Str) (n:Nat) (y2 y3 y4:Option D),(∀ e ∈ es,RwK e) → kn.length + es.length ≤ 30 →
    (∀ i y,gof kn n es = some (i,y) → ∃ s',loop (tgT [tgN 2,tgN 3]) lfB (pairsE n (es.map rwE)) [some R,some (Lst D.str .own kn),y2,y3,y4] = .ok (.rt (tellD (.v (.int (i:Int))) y)) s') ∧
    (gof kn n es = none → ∃ z1 z2 z3 z4,loop (tgT [tgN 2,tgN 3]) lfB (pairsE n (es.map rwE)) [some R,some (Lst D.str .own kn),y2,y3,y4] = .ok .nx [some R,z1,z2,z3,z4])
  | [],kn,n,y2,y3,y4,_,_=>⟨fun i y h=>by simp [gof] at h,fun _=>⟨some (Lst D.str .own kn),y2,y3,y4,by simp [pairsE,loop]⟩⟩
  | e :: es,kn,n,y2,y3,y4,he,hl=>by
    have hx:=he e List.mem_cons_self
    have ht:=tgT_2 (s:=[some R,some (Lst D.str .own kn),y2,y3,y4]) (i:=2) (j:=3) (a:=.v (.int (n:Int))) (b:=rwE e) rfl (Ke.kept e)
    have e5:=Zox (s:=[some R,some (Lst D.str .own kn),some (.v (.int (n:Int))),some (rwE e),y4]) (kn:=kn) hx
    have hstep:sat (lfB [some R,some (Lst D.str .own kn),some (.v (.int (n:Int))),some (rwE e),y4]) fun f s'=>match flt kn e with
        | some y=>f = .rt (tellD (.v (.int (n:Int))) y)
        | none=>f = .nx ∧ ∃ z4,s' = [some R,some (Lst D.str .own (kn ++ [(rowOf e).nm])),some (.v (.int (n:Int))),some (rwE e),z4]:=by
      cases hf:flt kn e with
      | some y =>
        rw [hf] at e5
        have hne:=Zji (flt_ne hf)
        have hm:mkTup [.v (.int (n:Int)),.v (.str (Str.ofString y))] = some (tellD (.v (.int (n:Int))) y):=rfl
        simp [lfB,ZgR,e5,lwhy,hne,hm]
      | none =>
        rw [hf] at e5
        have hg:=Zfr hf
        simp [lfB,ZgR,e5,lwhy,ZhF]
        refine ZgG (enc:=D.str) (rowOf e).nm rfl (by simp [ZlW hg]) (by simp at hl; omega) ?_
        simp
    rw [List.map_cons,ZfG,ZdD ht]
    simp only [List.set_cons_succ,List.set_cons_zero]
    obtain ⟨f,s1,e1,h1⟩:=hstep
    rw [e1]
    simp only [gof]
    cases hf:flt kn e with
    | some y =>
      rw [hf] at h1
      simp only at h1
      subst h1
      refine ⟨fun i y' h=>?_,fun h=>by simp at h⟩
      simp only [Option.some.injEq,Prod.mk.injEq] at h
      obtain ⟨rfl,rfl⟩:=h
      exact ⟨_,rfl⟩
    | none =>
      rw [hf] at h1
      obtain ⟨rfl,z4,rfl⟩:=h1
      simp only [Zz,Zer]
      exact Zgy (R:=R) es (kn ++ [(rowOf e).nm]) (n + 1) _ _ _ (fun e' he'=>he e' (List.mem_cons_of_mem _ he')) (by simp at hl ⊢; omega)
def faultE:Option (D × String) → D | some (d,y)=>tellD d y | none=>.non
theorem Zh1 {R:D} {es:List Rw} (e1:isiTD ["list","tuple"] R = some (.v (.bl true))) (e2:lenD R = some (.v (.int (es.length:Int)))) (e4:itEn false R = some (pairsE 0 (es.map rwE))) (h:∀ e ∈ es,RwK e):callK ZN [R] s = .ok (faultE (rowsF es)) s:=Zg rfl (by
  unfold rowsF
  by_cases hl:30 < es.length
  · have hl':(30:Int) < es.length:=by omega
    rw [if_pos hl]
    have hm:mkTup [.v (.int 30),.v (.str "many")] = some (tellD (.v (.int 30)) "many"):=rfl
    simp [Zbn,e1,e2,hl',hm,faultE]
  · have hl':¬ (30:Int) < es.length:=by omega
    rw [if_neg hl]
    have ih:=Zgy (R:=R) es [] 0 none none none h (by simp; omega)
    have hd:Zbn [some R,none,none,none,none] = (loop (tgT [tgN 2,tgN 3]) lfB (pairsE 0 (es.map rwE)) [some R,some (Lst D.str .own []),none,none,none]).bind (seqK (dsRet (dP (pC .non)))):=by
      have hm:mkLst [] = some (Lst D.str .own []):=rfl
      simp [Zbn,e1,e2,hl',e4,hm,diP]
      rfl
    show sat (Zbn [some R,none,none,none,none]) _
    rw [hd]
    cases hg:gof [] 0 es with
    | none =>
      obtain ⟨z1,z2,z3,z4,e⟩:=ih.2 hg
      rw [e]
      simp [faultE]
    | some p =>
      obtain ⟨i,y⟩:=p
      obtain ⟨s',e⟩:=ih.1 i y hg
      rw [e]
      simp [faultE])
theorem ZnB {t:Th} (h:ThK t) (hw:w ≠ .own):callK ZN [thE w t] s = .ok (faultE (thF t)) s:=by
  cases t with
  | l es=>exact Zh1 (R:=Lst rwE w es) (es:=es) rfl (by simp) (by simp only [Lst,itEn]; rw [if_pos ⟨Zbb es,.inr hw⟩]) (h.hl es rfl)
  | t es=>exact Zh1 (R:=Tpl rwE es) (es:=es) rfl (by simp) itEn_T (h.ht es rfl)
  | n d =>
    have hm:mkTup [.v .non,.v (.str "form")] = some (tellD (.v .non) "form"):=rfl
    exact Zg rfl (by simp [Zbn,thE,h.hn d rfl,hm,faultE,thF])
end
end Lw
set_option maxHeartbeats 1000000
namespace Lw
open PySem PySem.Spec PyProof.Rows L2 Fs
def Rep (b dep:Nat) (d:D):Prop:=∃ p,pdx d = some p ∧ p.showable = true ∧ p.depth ≤ dep ∧ p.shown.length ≤ b
section
variable {ρ:Type} {enc:ρ → D} {w:Fl} {xs:List ρ} {b dep:Nat}
theorem Rep.mono {d:D} {b' dep':Nat} (h:Rep b dep d) (h1:b ≤ b') (h2:dep ≤ dep'):Rep b' dep' d:=by
  obtain ⟨p,e1,e2,e3,e4⟩:=h
  exact ⟨p,e1,e2,by omega,by omega⟩
theorem reps (xs:List ρ) (h:∀ x ∈ xs,Rep b dep (enc x)):∃ ps,pdxs (xs.map enc) = some ps ∧ PyData.showableAll ps = true ∧ PyData.depthAll ps ≤ dep ∧ piled (PyData.shownAll ps) ≤ (b + 2) * xs.length:=by
  induction xs with
  | nil=>exact ⟨[],rfl,rfl,by simp [PyData.depthAll],by simp [PyData.shownAll,piled]⟩
  | cons x xs ih =>
    obtain ⟨p,e1,e2,e3,e4⟩:=h x List.mem_cons_self
    obtain ⟨ps,f1,f2,f3,f4⟩:=ih fun y hy=>h y (List.mem_cons_of_mem _ hy)
    refine ⟨p :: ps,by simp [pdxs,e1,f1],by simp [PyData.showableAll,e2,f2],by simp only [PyData.depthAll]; omega,?_⟩
    simp only [PyData.shownAll,piled_cons,List.length_cons]
    rw [Nat.mul_add]
    omega
theorem rep_L (h:∀ x ∈ xs,Rep b dep (enc x)):Rep ((b + 2) * xs.length + 2) (dep + 1) (Lst enc w xs):=by
  obtain ⟨ps,f1,f2,f3,f4⟩:=reps xs h
  refine ⟨.list ps,by simp [Lst,pdx,f1],by simpa [PyData.showable] using f2,by simp only [PyData.depth]; omega,?_⟩
  simp only [PyData.shown]
  have:=Zly (PyData.shownAll ps)
  omega
theorem rep_T (h:∀ x ∈ xs,Rep b dep (enc x)):Rep ((b + 2) * xs.length + 3) (dep + 1) (Tpl enc xs):=by
  obtain ⟨ps,f1,f2,f3,f4⟩:=reps xs h
  refine ⟨.tuple ps,by simp [Tpl,pdx,f1],by simpa [PyData.showable] using f2,by simp only [PyData.depth]; omega,?_⟩
  simp only [PyData.shown]
  have:=Zi0 (PyData.shownAll ps)
  omega
theorem rep_of {d:D} (h:Rep b dep d) (hb:b ≤ 1000000) (hd:dep ≤ 60):∃ x,reprX d = some (.v (.str x)):=by
  obtain ⟨p,e1,e2,e3,e4⟩:=h
  refine ⟨p.shown,?_⟩
  unfold reprX
  rw [e1,Option.bind_some,if_pos ⟨e2,by omega,by omega⟩]
theorem Zob {i:Int} (h:i.natAbs < 10 ^ 40):Rep 42 1 (.v (.int i)):=by
  obtain ⟨h1,h2,_⟩:=rc_ok (.int i) (by simpa [sm] using h)
  exact ⟨.int i,rfl,h2,by simp [PyData.depth],by simpa [rc] using h1⟩
theorem Zoa {z:Str} (h:z.length ≤ 100) (hc:∀ c ∈ z.cps.toList,c < 128):Rep 1100 1 (.v (.str z)):=by
  refine ⟨.str z,rfl,rfl,by simp [PyData.depth],?_⟩
  simp only [PyData.shown]
  have h2:=PySem.StrLaws.reprText_len z (fun c hc'=>by
    have:=hc c (by simpa using hc')
    omega)
  omega
theorem rep_bl {c:Bool}:Rep 42 1 (.v (.bl c)):=⟨.bool c,rfl,rfl,by simp [PyData.depth],by cases c <;> decide⟩
end
structure GA (a:At):Prop where
  k:AtK a
  r:Rep 1100 3 (atE a)
theorem ga_i {i:Int} (h:i.natAbs < 10 ^ 40):GA (.i i):=⟨⟨fun _ e=>(by cases e),fun _ e=>(by cases e),fun _ e=>(by cases e),fun _ e=>(by cases e)⟩,(Zob h).mono (by decide) (by decide)⟩
theorem ga_b {c:Bool}:GA (.b c):=⟨⟨fun _ e=>(by cases e),fun _ e=>(by cases e),fun _ e=>(by cases e),fun _ e=>(by cases e)⟩,rep_bl.mono (by decide) (by decide)⟩
theorem ga_s {z:Str} (h:z.length ≤ 100) (hc:∀ c ∈ z.cps.toList,c < 128):GA (.s z):=⟨⟨fun _ e=>(by cases e; exact h),fun _ e=>(by cases e; exact hc),fun _ e=>(by cases e),fun _ e=>(by cases e)⟩,(Zoa h hc).mono (by decide) (by decide)⟩
theorem ga_o {d:KD} (h1:isiD "int" d.1 = some (.v (.bl false))) (h2:isiD "str" d.1 = some (.v (.bl false))) (h3:Rep 1100 3 d.1):GA (.o d):=⟨⟨fun _ e=>(by cases e),fun _ e=>(by cases e),fun _ e=>(by cases e; exact h1),fun _ e=>(by cases e; exact h2)⟩,h3⟩
structure GR (n:Nat) (e:Rw):Prop where
  t:∀ ks,e = .t ks → (∀ a ∈ ks,GA a) ∧ ks.length ≤ n
  n:∀ d,e = .n d → isiD "tuple" d.1 = some (.v (.bl false)) ∧ Rep 12000 5 d.1
theorem GR.k {n:Nat} {e:Rw} (h:GR n e) (hn:n ≤ 10):RwK e:=⟨fun ks q=>⟨fun a ha=>((h.t ks q).1 a ha).k,by have:=(h.t ks q).2; omega⟩,fun d q=>(h.n d q).1⟩
theorem GR.r {n:Nat} {e:Rw} (h:GR n e) (hn:n ≤ 10):Rep 12000 5 (rwE e):=by
  cases e with
  | n d=>exact (h.n d rfl).2
  | t ks =>
    obtain ⟨h1,h2⟩:=h.t ks rfl
    refine (rep_T (enc:=atE) (b:=1100) (dep:=3) fun a ha=>(h1 a ha).r).mono ?_ (by decide)
    have:ks.length ≤ 10:=by omega
    omega
theorem GR.mono {n m:Nat} {e:Rw} (h:GR n e) (hn:n ≤ m):GR m e:=⟨fun ks q=>⟨(h.t ks q).1,by have:=(h.t ks q).2; omega⟩,h.n⟩
structure GT (n L:Nat) (t:Th):Prop where
  hl:∀ es,t = .l es → (∀ e ∈ es,GR n e) ∧ es.length ≤ L
  ht:∀ es,t = .t es → (∀ e ∈ es,GR n e) ∧ es.length ≤ L
  hn:∀ d:KD,t = .n d → isiTD ["list","tuple"] d.1 = some (.v (.bl false)) ∧ isiD "list" d.1 = some (.v (.bl false)) ∧ Rep 12000 5 d.1
theorem GT.k {n L:Nat} {t:Th} (h:GT n L t) (hn:n ≤ 10):ThK t:=⟨fun es q e he=>((h.hl es q).1 e he).k hn,fun es q e he=>((h.ht es q).1 e he).k hn,fun d q=>(h.hn d q).1⟩
theorem GT.r {n L:Nat} {t:Th} {w:Fl} (h:GT n L t) (hn:n ≤ 10) (hL:L ≤ 80):∃ x,reprX (thE w t) = some (.v (.str x)):=by
  cases t with
  | n d=>exact rep_of (h.hn d rfl).2.2 (by decide) (by decide)
  | l es =>
    obtain ⟨h1,h2⟩:=h.hl es rfl
    exact rep_of (rep_L (enc:=rwE) (b:=12000) (dep:=5) fun a ha=>(h1 a ha).r hn) (by omega) (by decide)
  | t es =>
    obtain ⟨h1,h2⟩:=h.ht es rfl
    exact rep_of (rep_T (enc:=rwE) (b:=12000) (dep:=5) fun a ha=>(h1 a ha).r hn) (by omega) (by decide)
def tA:D:=.n .tup .shr [.v (.str "a"),.v (.int 0),.v (.int 5),.v (.int 2)]
def dA:D:=.n (.dct [.inr "a"]) .shr [.v (.int 1)]
def thA:List At:=[.o ⟨.v .non,rfl⟩,.b true,.b false,.i 0,.i 1,.i (-1),.i 200,.i 201,.i (10 ^ 29),.i (-(10 ^ 29)),.s "",.s "a",.s "0",.s "7",.s "07",.s "9999",.s "10000",.s "a1",.s "1a",.s "A",.s "abcdefgh",.s "abcdefghi",.s "a ",.s " 1",.s "+1",.s "-1",.s "a-b",.s "1.5",.s "a\n",.s "z9z9z9z9",
  .o ⟨.n .lst .shr [],rfl⟩,.o ⟨.n .tup .shr [],rfl⟩,.o ⟨.n (.dct []) .shr [],rfl⟩,.o ⟨.n .lst .shr [.v (.int 1)],rfl⟩,.o ⟨.n .tup .shr [.v (.int 1)],rfl⟩,.o ⟨tA,rfl⟩,.o ⟨dA,rfl⟩,.o ⟨.n .lst .shr [.n .lst .shr [.v (.str "a"),.v (.int 0),.v (.int 5),.v (.int 2)]],rfl⟩,.s "\n",.s "mow 3 40 5"]
structure Thing (d:D):Prop where
  a:∃ a,d = atE a ∧ GA a
  r:∃ e,d = rwE e ∧ GR 4 e
  t:∃ t,d = thE .shr t ∧ GT 4 4 t
theorem ga_o' {d:KD} (h1:isiD "int" d.1 = some (.v (.bl false))) (h2:isiD "str" d.1 = some (.v (.bl false))) (p:PyData) (h3:pdx d.1 = some p) (h4:(p.showable && (decide (p.depth ≤ 3) && decide (p.shown.length ≤ 1100))) = true):GA (.o d):=ga_o h1 h2 (by
  simp only [Bool.and_eq_true,decide_eq_true_eq] at h4
  exact ⟨p,h3,h4.1,h4.2.1,h4.2.2⟩)
theorem ZeX {a:At} (h:GA a) (e1:isiD "tuple" (atE a) = some (.v (.bl false))) (e2:isiTD ["list","tuple"] (atE a) = some (.v (.bl false))) (e3:isiD "list" (atE a) = some (.v (.bl false))):Thing (atE a) :=
  ⟨⟨a,rfl,h⟩,⟨.n ⟨atE a,Ke.kept a⟩,rfl,⟨fun _ e=>(by cases e),fun d e=>(by cases e; exact ⟨e1,h.r.mono (by decide) (by decide)⟩)⟩⟩,⟨.n ⟨atE a,Ke.kept a⟩,rfl,⟨fun _ e=>(by cases e),fun _ e=>(by cases e),fun d e=>(by cases e; exact ⟨e2,e3,h.r.mono (by decide) (by decide)⟩)⟩⟩⟩
theorem ZnN {z:String} (h:((Str.ofString z).length ≤ 100 ∧ ∀ c ∈ (Str.ofString z).cps.toList,c < 128)):Thing (atE (.s z)):=ZeX (ga_s h.1 h.2) rfl rfl rfl
theorem ZnO {i:Int} (h:i.natAbs < 10 ^ 40):Thing (atE (.i i)):=ZeX (ga_i h) rfl rfl rfl
theorem Zk1 {c:Bool}:Thing (atE (.b c)):=ZeX ga_b rfl rfl rfl
theorem gr_a {a:At} (h:GA a) (e1:isiD "tuple" (atE a) = some (.v (.bl false))) {n:Nat}:GR n (.n ⟨atE a,Ke.kept a⟩):=⟨fun _ e=>(by cases e),fun d e=>(by cases e; exact ⟨e1,h.r.mono (by decide) (by decide)⟩)⟩
theorem Zia {d:KD} (h:GA (.o d)) (e1:isiD "tuple" d.1 = some (.v (.bl false))) (es:List Rw) (e2:d.1 = Lst rwE .shr es) (h1:∀ e ∈ es,GR 4 e) (h2:es.length ≤ 4):Thing (atE (.o d)) :=
  ⟨⟨_,rfl,h⟩,⟨.n d,rfl,⟨fun _ e=>(by cases e),fun d e=>(by cases e; exact ⟨e1,h.r.mono (by decide) (by decide)⟩)⟩⟩,⟨.l es,e2,⟨fun _ e=>(by cases e; exact ⟨h1,h2⟩),fun _ e=>(by cases e),fun d e=>(by cases e)⟩⟩⟩
theorem Zh9 {d:KD} (h:GA (.o d)) (ks:List At) (e1:d.1 = Tpl atE ks) (h0:∀ a ∈ ks,GA a) (hk:ks.length ≤ 4) (es:List Rw) (e2:d.1 = Tpl rwE es) (h1:∀ e ∈ es,GR 4 e):Thing (atE (.o d)) :=
  ⟨⟨_,rfl,h⟩,⟨.t ks,e1,⟨fun _ e=>(by cases e; exact ⟨h0,hk⟩),fun d e=>(by cases e)⟩⟩,⟨.t es,e2,⟨fun _ e=>(by cases e),fun _ e=>(by cases e; exact ⟨h1,by
    have:=congrArg (fun d=>match d with | D.n _ _ xs=>xs.length | _=>0) (e1.symm.trans e2)
    simp [Tpl] at this; omega⟩),fun d e=>(by cases e)⟩⟩⟩
theorem Zj7:∀ a ∈ thA,Thing (atE a):=by
  have g1:GA (.i 1):=ga_i (by decide)
  have g2:GA (.s "a"):=ga_s (by decide +kernel) (by decide +kernel)
  intro a ha
  simp only [thA,List.mem_cons,List.not_mem_nil,or_false] at ha
  rcases ha with rfl | rfl | rfl | rfl | rfl | rfl | rfl | rfl | rfl | rfl | rfl | rfl | rfl | rfl | rfl | rfl | rfl | rfl | rfl | rfl | rfl | rfl | rfl | rfl | rfl | rfl | rfl | rfl | rfl | rfl | rfl | rfl | rfl | rfl | rfl | rfl | rfl | rfl | rfl | rfl
  · exact ZeX (ga_o' rfl rfl .none rfl (by decide +kernel)) rfl rfl rfl
  · exact Zk1
  · exact Zk1
  all_goals try exact ZnO (by decide +kernel)
  all_goals try exact ZnN (by decide +kernel)
  · exact Zia (ga_o' rfl rfl (.list []) rfl (by decide +kernel)) rfl [] rfl (by simp) (by simp)
  · exact Zh9 (ga_o' rfl rfl (.tuple []) rfl (by decide +kernel)) [] rfl (by simp) (by simp) [] rfl (by simp)
  · exact ZeX (ga_o' rfl rfl (.dict []) rfl (by decide +kernel)) rfl rfl rfl
  · exact Zia (ga_o' rfl rfl (.list [.int 1]) rfl (by decide +kernel)) rfl [.n ⟨atE (.i 1),rfl⟩] rfl (by simp; exact gr_a g1 rfl) (by simp)
  · exact Zh9 (ga_o' rfl rfl (.tuple [.int 1]) rfl (by decide +kernel)) [.i 1] rfl (by simp; exact g1) (by simp) [.n ⟨atE (.i 1),rfl⟩] rfl (by simp; exact gr_a g1 rfl)
  · exact Zh9 (ga_o' rfl rfl (.tuple [.str "a",.int 0,.int 5,.int 2]) rfl (by decide +kernel)) [.s "a",.i 0,.i 5,.i 2] rfl (by simp; exact ⟨g2,ga_i (by decide),ga_i (by decide),ga_i (by decide)⟩) (by simp) [.n ⟨atE (.s "a"),rfl⟩,.n ⟨atE (.i 0),rfl⟩,.n ⟨atE (.i 5),rfl⟩,.n ⟨atE (.i 2),rfl⟩] rfl (by simp; exact ⟨gr_a g2 rfl,gr_a (ga_i (by decide)) rfl,gr_a (ga_i (by decide)) rfl,gr_a (ga_i (by decide)) rfl⟩)
  · exact ZeX (ga_o' rfl rfl (.dict [(.str "a",.int 1)]) rfl (by decide +kernel)) rfl rfl rfl
  · exact Zia (ga_o' rfl rfl (.list [.list [.str "a",.int 0,.int 5,.int 2]]) rfl (by decide +kernel)) rfl [.n ⟨.n .lst .shr [.v (.str "a"),.v (.int 0),.v (.int 5),.v (.int 2)],rfl⟩] rfl (by simp; exact gr_a (a:=.o ⟨.n .lst .shr [.v (.str "a"),.v (.int 0),.v (.int 5),.v (.int 2)],rfl⟩) (ga_o' rfl rfl (.list [.str "a",.int 0,.int 5,.int 2]) rfl (by decide +kernel)) rfl) (by simp)
def ThingP (y:D) (ios:Sl):Prop:=∃ d',Thing y ∧ y.kept = true ∧ IsBox d' ∧ ios = [some d']
theorem ZmL {d:D} (hd:IsBox d):sat (Zba [d]) ThingP:=by
  refine sat_F' rfl ?_
  have h1:ZbG [some d,none] = (dsRet (dNI (f2 ixK) [.l 1,.v (Zd Za [.o 0,.v (dP (pC (.int 40)))])])) [some d,some (Lst atE .own thA)]:=rfl
  show sat (ZbG [some d,none]) _
  rw [h1]
  simp [hd.free]
  refine Zf (Zn hd (by decide) (by decide)) ?_
  rintro _ _ ⟨u,d1,rfl,rfl,u0,u1,b1⟩
  obtain ⟨y,hy,_,e1,_⟩:=Zcx (enc:=atE) (w:=.own) (xs:=thA) (i:=u) u0 (by simpa [thA] using u1)
  simp [b1.free,e1,FlowP,ThingP,ioF]
  exact ⟨Zj7 y hy,Ke.kept y,b1⟩
end Lw
set_option maxHeartbeats 1000000
namespace Lw
open PySem PySem.Spec PyProof.Rows L2 Fs
end Lw
namespace Fs
open PySem PySem.Spec PyProof.Rows L2
section
variable {s:Sl}
def frK:D → Sl → Out D:=fun x δ1=>.ok (frz x) δ1
@[simp] theorem dFr_c {a:DE}:dFr a s = (a s).bind frK:=of_eq_true (eq_self _)
@[simp] theorem frK_c {d:D}:frK d s = .ok (frz d) s:=of_eq_true (eq_self _)
theorem of_sat {α:Type} {o:Out α} {x:α} {t:Sl} (h:sat o fun a s'=>a = x ∧ s' = t):o = .ok x t:=by
  obtain ⟨_,_,e,rfl,rfl⟩:=h
  exact e
end
end Fs
namespace Lw
open PySem PySem.Spec PyProof.Rows L2 Fs
def words_number_of_2:DS:=(dsRet (dN (f1 intD) [.k (pVar 0)]))
@[simp] theorem Zh3 {s:Sl}:type_of% (congrFun words_number_of_2.eq_1 s):=congrFun words_number_of_2.eq_1 s
def ZcM:DS:=(dsSeq (dsIf (dtOr (dtNot (dtV (dN (f1 allD) [.v (dComp true [1] (diP (itA true) (pVar 0)) (tgN 1) dtYes (dN (f2 inD) [.k (pVar 1),.k (pC (.str "0123456789"))]))]))) (dtAnd (dtV (dN (f2 eqD) [.k (pOp ixD (pVar 0) (pC (.int 0))),.k (pC (.str "0"))])) (dtV (dN (f2 neD) [.k (pVar 0),.k (pC (.str "0"))])))) (dsRet (dP (pC .non))) dsNext) words_number_of_2)
@[simp] theorem Zh4 {s:Sl}:type_of% (show ZcM s = _ from Fs.sq_c):=Fs.sq_c
def ZcN:DS:=(dsSeq (dsIf (dtOr (dtNot (dtV (dN (f1 (isiD "str")) [.k (pVar 0)]))) (dtNot (dtV (dCh leD leD (dP (pC (.int 1))) (dN (f1 lenD) [.k (pVar 0)]) (dP (pC (.int 4))))))) (dsRet (dP (pC .non))) dsNext) ZcM)
@[simp] theorem Zh5 {s:Sl}:type_of% (show ZcN s = _ from Fs.sq_c):=Fs.sq_c
theorem ZE:Zb0 = ZcN:=of_eq_true (eq_self _)
def texts_row_of_4:DS:=(dsRet (dN (f1 tupD) [.v (dN (f2 addA) [.v (dN slD [.k (pVar 1),.k (pC .non),.k (pUn intP (pC (.int 1)))]),.k (pVar 2)])]))
@[simp] theorem ZkA {s:Sl}:type_of% (congrFun texts_row_of_4.eq_1 s):=congrFun texts_row_of_4.eq_1 s
def ZdW:DS:=(dsSeq (dsIf (dtV (dN (f2 inD) [.k (pC .non),.k (pVar 2)])) (dsRet (dP (pC .non))) dsNext) texts_row_of_4)
@[simp] theorem ZkB {s:Sl}:type_of% (show ZdW s = _ from Fs.sq_c):=Fs.sq_c
def ZdX:DS:=(dsSeq (dsAsg (dComp true [3] (diD (itA true) (dN slD [.k (pVar 1),.k (pUn intP (pC (.int 1))),.k (pC .non)])) (tgN 3) dtYes (dCall Zv (daLend (pVar 3) daNil))) (tgN 2)) ZdW)
@[simp] theorem ZkC {s:Sl}:type_of% (show ZdX s = _ from Fs.sq_c):=Fs.sq_c
def ZdY:DS:=(dsSeq (dsIf (dtOr (dtNot (dtV (dCh leD leD (dP (pC (.int 4))) (dN (f1 lenD) [.k (pVar 1)]) (dP (pC (.int 5)))))) (dtNot (dtV (dCall Zx (daLend (pOp ixD (pVar 1) (pC (.int 0))) daNil))))) (dsRet (dP (pC .non))) dsNext) ZdX)
@[simp] theorem ZkD {s:Sl}:type_of% (show ZdY s = _ from Fs.sq_c):=Fs.sq_c
def ZdZ:DS:=(dsSeq (dsAsg (dN splitD [.k (pUn (tyF "str") (pVar 0)),.k (pC (.str " "))]) (tgN 1)) ZdY)
@[simp] theorem ZkE {s:Sl}:type_of% (show ZdZ s = _ from Fs.sq_c):=Fs.sq_c
theorem ZP:ZcJ = ZdZ:=of_eq_true (eq_self _)
def texts_read_pieces_3:DS:=(dsAsg (dComp true [2] (diD (itA true) (dN splitD [.k (pUn (tyF "str") (pVar 0)),.k (pC (.str "\n"))])) (tgN 2) dtYes (dCall ZM (daLend (pVar 2) daNil))) (tgN 1))
@[simp] theorem Zhh {s:Sl}:type_of% (congrFun texts_read_pieces_3.eq_1 s):=congrFun texts_read_pieces_3.eq_1 s
def texts_read_pieces_10:DS:=(dsRet (dMv 3))
@[simp] theorem Zha {s:Sl}:type_of% (congrFun texts_read_pieces_10.eq_1 s):=congrFun texts_read_pieces_10.eq_1 s
def Zcn:DS:=(dsSeq (dsIf (dtV (dN (f1 isND) [.k (pVar 3)])) (Zbz 2 2 (daCons (dP (pVar 4)) (daCons (dP (pVar 5)) daNil))) dsNext) texts_read_pieces_10)
@[simp] theorem Zhc {s:Sl}:type_of% (show Zcn s = _ from Fs.sq_c):=Fs.sq_c
def Zco:DS:=(dsSeq (dsTry (fun c=>[1].contains c) (dsAsg (dCall (mkF 20 Ze) (daLend (pVar 1) daNil)) (tgN 3)) [⟨(fun c=>[1].contains c),some 6,fun xs=>(dsSeq (dsAsg (dP (fun _=>xs[0]?)) (tgN 4)) (dsAsg (dP (fun _=>xs[1]?)) (tgN 5)))⟩]) Zcn)
@[simp] theorem Zhd {s:Sl}:type_of% (show Zco s = _ from Fs.sq_c):=Fs.sq_c
def Zcp:DS:=(dsSeq (dsAsg (dP (pC (.str ""))) (tgN 5)) Zco)
@[simp] theorem Zhe {s:Sl}:type_of% (show Zcp s = _ from Fs.sq_c):=Fs.sq_c
def Zcq:DS:=(dsSeq (dsAsg (dP (pC (.int 0))) (tgN 4)) Zcp)
@[simp] theorem Zhf {s:Sl}:type_of% (show Zcq s = _ from Fs.sq_c):=Fs.sq_c
def Zcr:DS:=(dsSeq (dsAsg (dP (pC .non)) (tgN 3)) Zcq)
@[simp] theorem Zhg {s:Sl}:type_of% (show Zcr s = _ from Fs.sq_c):=Fs.sq_c
def Z3:DS:=(dsSeq (dsIf (dtV (dN (f2 inD) [.k (pC .non),.k (pVar 1)])) (Zbz 2 2 (daCons (dN indexX [.k (pUn (tyF "list") (pVar 1)),.k (pC .non)]) (daCons (dP (pC (.str "form"))) daNil))) dsNext) Zcr)
@[simp] theorem Zb5 {s:Sl}:type_of% (show Z3 s = _ from Fs.sq_c):=Fs.sq_c
def Zcs:DS:=(dsSeq (dsIf (dtV (dN (f2 neD) [.k (pVar 0),.k (pC (.str ""))])) texts_read_pieces_3 dsNext) Z3)
@[simp] theorem Zhi {s:Sl}:type_of% (show Zcs s = _ from Fs.sq_c):=Fs.sq_c
def Zct:DS:=(dsSeq (dsAsg (dF mkLst daNil) (tgN 1)) Zcs)
@[simp] theorem Zhj {s:Sl}:type_of% (show Zct s = _ from Fs.sq_c):=Fs.sq_c
def Zcu:DS:=(dsSeq (dsIf (dtNot (dtV (dN (f1 (isiD "str")) [.k (pVar 0)]))) (Zbz 2 2 (daCons (dP (pC (.int 0))) (daCons (dP (pC (.str "form"))) daNil))) dsNext) Zct)
@[simp] theorem Zhk {s:Sl}:type_of% (show Zcu s = _ from Fs.sq_c):=Fs.sq_c
theorem ZH:ZL = Zcu:=of_eq_true (eq_self _)
def L_law_line_2:DS:=(dsRet (dN (f1 (joinD " ")) [.v (dComp true [3] (diP (itA true) (pVar 2)) (tgN 3) dtYes (dN (f1 strD) [.k (pVar 3)]))]))
@[simp] theorem ZmF {s:Sl}:type_of% (congrFun L_law_line_2.eq_1 s):=congrFun L_law_line_2.eq_1 s
def Zfj:DS:=(dsSeq (dsIf (dtAnd (dtV (dP (pVar 1))) (dtV (dN (f2 eqD) [.k (pOp ixD (pVar 0) (pC (.int 3))),.k (pOp ixD (pVar 0) (pC (.int 4)))]))) (dsAsg (dN slD [.k (pVar 0),.k (pC .non),.k (pUn intP (pC (.int 4)))]) (tgN 2)) dsNext) L_law_line_2)
@[simp] theorem ZmG {s:Sl}:type_of% (show Zfj s = _ from Fs.sq_c):=Fs.sq_c
def Zfk:DS:=(dsSeq (dsAsg (dP (pVar 0)) (tgN 2)) Zfj)
@[simp] theorem ZmH {s:Sl}:type_of% (show Zfk s = _ from Fs.sq_c):=Fs.sq_c
theorem Zcf:ZcH = Zfk:=of_eq_true (eq_self _)
def texts_line_of_2:DS:=(dsRet (dN (f1 (joinD " ")) [.v (dComp true [2] (diP (itA true) (pVar 1)) (tgN 2) dtYes (dN (f1 strD) [.k (pVar 2)]))]))
@[simp] theorem Zj8 {s:Sl}:type_of% (congrFun texts_line_of_2.eq_1 s):=congrFun texts_line_of_2.eq_1 s
def Zdx:DS:=(dsSeq (dsIf (dtV (dN (f2 eqD) [.k (pOp ixD (pVar 0) (pC (.int 4))),.k (pOp ixD (pVar 0) (pC (.int 3)))])) (dsAsg (dN slD [.k (pVar 0),.k (pC .non),.k (pUn intP (pC (.int 4)))]) (tgN 1)) dsNext) texts_line_of_2)
@[simp] theorem Zj9 {s:Sl}:type_of% (show Zdx s = _ from Fs.sq_c):=Fs.sq_c
def Zdy:DS:=(dsSeq (dsAsg (dP (pVar 0)) (tgN 1)) Zdx)
@[simp] theorem Zka {s:Sl}:type_of% (show Zdy s = _ from Fs.sq_c):=Fs.sq_c
theorem Zcv:Zcy = Zdy:=of_eq_true (eq_self _)
def L_law_right_6_6:DS:=(dsIf (dtOr (dtNot (dtV (dN (f1 (isiD "tuple")) [.k (pVar 3)]))) (dtNot (dtV (dN (f1 (isiD "str")) [.k (pOp ixD (pVar 3) (pC (.int 0)))])))) (dsRet (dP (pC (.bl false)))) dsNext)
@[simp] theorem Zkt {s:Sl}:type_of% (congrFun L_law_right_6_6.eq_1 s):=congrFun L_law_right_6_6.eq_1 s
def L_law_right_6_7:DS:=(dsRet (dN (f2 eqD) [.v (dCall Zb (daCons (dRc 20 "told" (dCall Zh (daLend (pVar 5) daNil))) daNil)),.v (dN (f1 tupD) [.k (pVar 1)])]))
@[simp] theorem Zks {s:Sl}:type_of% (congrFun L_law_right_6_7.eq_1 s):=congrFun L_law_right_6_7.eq_1 s
def ZdK:DS:=(dsSeq (dsFor (diD (itA true) (dCall Zb (daLend (pRc 20 "told" (pVar 4)) daNil))) (tgN 3) L_law_right_6_6) L_law_right_6_7)
@[simp] theorem Zku {s:Sl}:type_of% (show ZdK s = _ from Fs.sq_c):=Fs.sq_c
def ZdL:DS:=(dsSeq (dsIf (dtOr (dtV (dN (f2 neD) [.v (dCall Zm (daLend (pVar 4) daNil)),.k (pVar 5)])) (dtV (dN (f2 neD) [.v (dCall Zm (daCons (dCall (mkF 20 Ze) (daLend (pVar 1) daNil)) daNil)),.k (pVar 5)]))) (dsRet (dP (pC (.bl false)))) dsNext) ZdK)
@[simp] theorem Zkv {s:Sl}:type_of% (show ZdL s = _ from Fs.sq_c):=Fs.sq_c
def ZdM:DS:=(dsSeq (dsIf (dtOr (dtNot (dtV (dN (f1 (isoD [(20,true)])) [.k (pVar 4)]))) (dtV (dN (f2 neD) [.v (dCall Zb (daLend (pRc 20 "told" (pVar 4)) daNil)),.v (dN (f1 tupD) [.k (pVar 1)])]))) (dsRet (dP (pC (.bl false)))) dsNext) ZdL)
@[simp] theorem Zkw {s:Sl}:type_of% (show ZdM s = _ from Fs.sq_c):=Fs.sq_c
def ZdN:DS:=(dsSeq (dsAsg (dN (f1 (joinD "\n")) [.v (dComp true [3] (diP (itA true) (pVar 1)) (tgN 3) dtYes (dCall ZO (daLend (pVar 3) (daLend (pC (.bl true)) daNil))))]) (tgN 5)) ZdM)
@[simp] theorem Zkx {s:Sl}:type_of% (show ZdN s = _ from Fs.sq_c):=Fs.sq_c
def ZdO:DS:=(dsSeq (dsAsg (dCall Zh (daCons (dN (f1 (joinD "\n")) [.k (pVar 2)]) daNil)) (tgN 4)) ZdN)
@[simp] theorem Zky {s:Sl}:type_of% (show ZdO s = _ from Fs.sq_c):=Fs.sq_c
def Zf9:DS:=(dsSeq (dsAsg (dComp false [3] (diP (itA false) (pVar 1)) (tgN 3) dtYes (Zd ZO [.l 3,.v (dNI (f2 eqD) [.v (Zd Za [.o 0,.v (dP (pC (.int 2)))]),.v (dP (pC (.int 0)))])])) (tgN 2)) ZdO)
@[simp] theorem Zkz {s:Sl}:type_of% (show Zf9 s = _ from Fs.sq_c):=Fs.sq_c
def law_k07_7:DS:=(dsIf (dtV (dN (f2 neD) [.v (dCall Zm (daLend (pVar 5) daNil)),.v (dN (f1 (joinD "\n")) [.v (dComp true [6] (diD (itA true) (dN (f2 addA) [.v (dN slD [.k (pVar 3),.k (pC .non),.k (pUn intP (pVar 4))]),.v (dN slD [.k (pVar 3),.v (d1 intP (dN (f2 addA) [.k (pVar 4),.k (pC (.int 1))])),.k (pC .non)])])) (tgN 6) dtYes (dCall ZO (daLend (pVar 6) (daLend (pC (.bl true)) daNil))))])])) (dsRet (dP (pC (.bl false)))) dsNext)
@[simp] theorem ZoH {s:Sl}:type_of% (congrFun law_k07_7.eq_1 s):=congrFun law_k07_7.eq_1 s
def ZhN:DS:=(dsSeq (dsAsg (dCall Zde (daCons (dRc 20 "without" (dCall (mkF 20 Ze) (daLend (pVar 3) daNil))) (daLend (pOp ixD (pOp ixD (pVar 3) (pVar 4)) (pC (.int 0))) daNil))) (tgN 5)) law_k07_7)
@[simp] theorem ZoI {s:Sl}:type_of% (show ZhN s = _ from Fs.sq_c):=Fs.sq_c
def ZhO:DS:=(dsSeq (dsAsg (Zd Za [.o 2,.v (dN (f1 lenD) [.k (pVar 3)])]) (tgN 4)) ZhN)
@[simp] theorem ZoJ {s:Sl}:type_of% (show ZhO s = _ from Fs.sq_c):=Fs.sq_c
def law_k07_4:DS:=(dsIf (dtV (dN (f2 neD) [.k (pVar 3),.v (dF mkLst daNil)])) ZhO dsNext)
@[simp] theorem ZoK {s:Sl}:type_of% (congrFun law_k07_4.eq_1 s):=congrFun law_k07_4.eq_1 s
def ZhP:DS:=(dsSeq (dsIf (dtNot (dtV (Zd Zga [.o 2,.l 3]))) (dsRet (dP (pC (.bl false)))) dsNext) law_k07_4)
@[simp] theorem ZoL {s:Sl}:type_of% (show ZhP s = _ from Fs.sq_c):=Fs.sq_c
def ZhQ:DS:=(dsSeq (dsAsg (Zd Zgm [.o 2,.v (dNI (f2 ixK) [.v (dF mkLst (daCons (dP (pC (.int 8))) (daCons (dP (pC (.int 30))) daNil))),.v (dNI (f1 intD) [.v (dNI (f2 eqD) [.v (Zd Za [.o 2,.v (dP (pC (.int 8)))]),.v (dP (pC (.int 0)))])])])]) (tgN 3)) ZhP)
@[simp] theorem ZoM {s:Sl}:type_of% (show ZhQ s = _ from Fs.sq_c):=Fs.sq_c
def ZhR:DS:=(dsSeq (dsAsg (dCall ZbO (daCons (dCall ZbE (daLend (pVar 0) (daLend (pVar 1) daNil))) daNil)) (tgN 2)) ZhQ)
@[simp] theorem ZoN {s:Sl}:type_of% (show ZhR s = _ from Fs.sq_c):=Fs.sq_c
def law_k07_8:DS:=(dsRet (dP (pC (.bl true))))
@[simp] theorem ZoG {s:Sl}:type_of% (congrFun law_k07_8.eq_1 s):=congrFun law_k07_8.eq_1 s
def ZlC:DS:=(dsSeq (dsFor (diD itR (dN (f2 maxD) [.k (pC (.int 4)),.v (dN (f2 minD) [.v (dN (f1 lenD) [.k (pVar 0)]),.k (pC (.int 16))])])) (tgN 1) ZhR) law_k07_8)
@[simp] theorem ZoO {s:Sl}:type_of% (show ZlC s = _ from Fs.sq_c):=Fs.sq_c
end Lw
set_option maxHeartbeats 1000000
namespace Lw
open PySem PySem.Spec PyProof.Rows L2 Fs
section
variable {s:Sl} {w w':Fl} {z:Str}
def FGs:List Nat:=("0123456789":Str).cps.toList
def digB (cs:List Nat):Bool:=cs.all fun c=>decide (c ∈ FGs)
/-- whether signs are figures -/
def numB (cs:List Nat):Bool:=match cs with
  | []=>false
  | c :: r=>decide (cs.length ≤ 4) && (digB cs && !(decide (c = 48) && !r.isEmpty))
def numV (cs:List Nat):Option Nat:=if numB cs then some (NumText.digitsVal cs) else none
def numE:Option Nat → D | some n=>.v (.int (n:Int)) | none=>.v .non
instance:Ke numE:=⟨fun o=>by cases o <;> rfl⟩
theorem fg_mem {c:Nat}:c ∈ FGs ↔ 48 ≤ c ∧ c ≤ 57:=by
  have:FGs = [48,49,50,51,52,53,54,55,56,57]:=by decide +kernel
  rw [this]
  simp
  omega
theorem Zcz:("0":Str) = ⟨#[48]⟩:=by decide +kernel
theorem ZjH {cs:List Nat} (h:digB cs = true):NumText.AllDigits cs:=fun c hc=>fg_mem.mp (by simpa using List.all_eq_true.mp h c hc)
theorem ZfI (hl:z.length ≤ 50000) (hx:okS z):callK Zv [.v (.str z)] s = .ok (numE (numV z.cps.toList)) s:=Zg rfl (by
  have hl2:z.length ≤ 100000:=by omega
  have hlen:=Z4 z
  have hi:=ZlN (z:=z)
  have hne:neD (.v (.str z)) (.v (.str "0")) = some (.v (.bl (!decide (z.cps.toList = [48])))):=by
    rw [Zc4 hx (by intro c hc; rw [Zcz] at hc; simp at hc; omega)]
    congr 3
    rw [Bool.eq_iff_iff,Zcz]
    simp only [Bool.not_eq_true',decide_eq_false_iff_not]
    constructor
    · intro h q; exact h (Str.ext' (by rw [q]))
    · intro h q; exact h (by rw [q])
  cases hc:z.cps.toList with
  | nil =>
    rw [hc] at hlen
    simp [ZE,len_str hl2,hlen,numV,numB,numE]
  | cons c cs =>
    rw [hc] at hlen hne
    have hcc:c < 1114112:=hx c (by rw [hc]; simp)
    simp only [List.length_cons] at hlen
    have e1:(1:Int) ≤ (z.length:Int):=by omega
    by_cases h8:z.length ≤ 4
    · have e2:(z.length:Int) ≤ 4:=by omega
      have hcomp:dComp true [1] (diP (itA true) (pVar 0)) (tgN 1) dtYes (dN (f2 inD) [.k (pVar 1),.k (pC (.str "0123456789"))]) [some (D.v (.str z)),none] = .ok (Lst D.bl .own ((c :: cs).map fun c=>decide (c ∈ FGs))) [some (D.v (.str z)),none]:=by
        refine of_sat (sat_cm (out:=D.bl) (Q:=fun a s'=>a = _ ∧ s' = _) sg (c :: cs) (fun c=>decide (c ∈ FGs)) (by simp [diP,it_str,hc]) rfl (fun c' _=>?_) (by simp; omega) ⟨rfl,rfl⟩)
        have:inD (sg c') (.v (.str "0123456789")) = some (.v (.bl (decide (c' ∈ FGs)))):=rfl
        simp [this]
      have hall:allD (Lst D.bl .own ((c :: cs).map fun c=>decide (c ∈ FGs))) = some (.v (.bl (digB (c :: cs)))):=by
        simp only [Lst,allD,List.map_map]
        have:=Zg6 (fun c=>decide (c ∈ FGs)) (c :: cs)
        simp only [Function.comp_def]
        rw [this]
        rfl
      generalize Lst D.bl .own ((c :: cs).map fun c=>decide (c ∈ FGs)) = X at hcomp hall
      have e0:eqD (sg c) (.v (.str "0")) = some (.v (.bl (decide (c = 48)))):=by
        show eqD (.v (.str (sgS c))) _ = _
        rw [Zl3 (by intro y hy; simp [sgS] at hy; omega) (by intro y hy; rw [Zcz] at hy; simp at hy; omega),Zcz]
        congr 3
        simp [sgS]
      have hn:numE (numV (c :: cs)) = if digB (c :: cs) then (if c = 48 ∧ cs ≠ [] then .v .non else .v (.int ((NumText.digitsVal (c :: cs):Nat):Int))) else .v .non:=by
        unfold numV numB
        have:(c :: cs).length ≤ 4:=by simp; omega
        simp only [this,decide_true,Bool.true_and]
        cases digB (c :: cs)
        · rfl
        · simp only [Bool.true_and]
          by_cases h4:c = 48 <;> cases cs <;> simp [h4,numE]
      rw [hn]
      cases hd:digB (c :: cs) with
      | false =>
        rw [hd] at hall
        simp [ZE,len_str hl2,e1,e2,hcomp,hall]
      | true =>
        rw [hd] at hall
        have hi:Fs.intD (.v (.str z)) = some (.v (.int ((NumText.digitsVal (c :: cs):Nat):Int))):=by
          simp only [Fs.intD]
          rw [if_pos (by omega),intText_digits (by rw [hc]; exact ZjH hd) (by rw [hc]; simp) (by omega),hc]
          rfl
        by_cases h4:c = 48
        · subst h4
          cases cs with
          | nil=>simp [ZE,len_str hl2,e1,e2,hcomp,hall,Zcc hc hl2,e0,hne,hi]
          | cons d ds=>simp [ZE,len_str hl2,e1,e2,hcomp,hall,Zcc hc hl2,e0,hne,hi]
        · simp [ZE,len_str hl2,e1,e2,hcomp,hall,Zcc hc hl2,e0,h4,hne,hi]
    · have e2:¬ (z.length:Int) ≤ 4:=by omega
      have e8:¬ cs.length + 1 ≤ 4:=by omega
      simp [ZE,len_str hl2,e1,e2,numV,numB,e8,numE])
end
end Lw
set_option maxHeartbeats 1000000
namespace Lw
open PySem PySem.Spec PyProof.Rows L2 Fs
/-- a row with five things,or with four -/
def rowG (p:Row × Bool):D:=if p.2 then rowD p.1 else .n .tup .shr [.v (.str p.1.nm),.v (.int p.1.a),.v (.int p.1.b),.v (.int p.1.l)]
instance:Ke rowG:=⟨fun ⟨r,b⟩=>by cases b <;> rfl⟩
structure HandOk (hs:List (Row × Bool)):Prop where
  rows:RowsOk (hs.map Prod.fst)
  four:∀ p ∈ hs,p.2 = false → p.1.k = p.1.l
section
variable {s:Sl} {w w':Fl} {rs:List Row} {hs:List (Row × Bool)} {a b f g:Int}
@[simp] theorem Zq9:frz (Pcs .own rs) = Pcs .shr rs:=by simp [Pcs,Zj,frz,ZhY]
@[simp] theorem Zp9:frz (Pcs .shr rs) = Pcs .shr rs:=by simp [Pcs]
@[simp] theorem Zql:Option.filter D.kept (some (Pcs .shr rs)) = some (Pcs .shr rs):=rfl
abbrev row4 (r:Row):D:=.n .tup .shr [.v (.str r.nm),.v (.int r.a),.v (.int r.b),.v (.int r.l)]
theorem ZkV {r:Row} (h:r.ok):callK Zt [row4 r] s = .ok .non s:=Zg rfl (by
  have h1:max 0 (r.a - 1) ≤ r.b:=by have:=h.b0; have:=h.b1; omega
  have h2:=h.b0; have h3:r.a ≤ r.b + 1:=by have:=h.b1; omega
  have e1:ixD (row4 r) (.v (.int 1)) = some (.v (.int r.a)):=rfl
  have e2:ixD (row4 r) (.v (.int 2)) = some (.v (.int r.b)):=rfl
  have e3:ixD (row4 r) (.v (.int 3)) = some (.v (.int r.l)):=rfl
  have e5:lenD (row4 r) = some (.v (.int 4)):=rfl
  generalize row4 r = R at e1 e2 e3 e5
  simp [Zo,e1,e2,e3,e5,h.a0,h.a1,h1,h2,h3,h.b2,h.l0,h.l1])
theorem Zhr {r:Row} {ks:List Key} {w:Fl} {xs:List D} (h:r.ok) (hn:lkD ks xs (.inr r.nm) = none):callK Zs [.n (.dct ks) w xs,row4 r] s = .ok .non s:=Zg rfl (by
  have hl:=ZdB h.nm
  have hl2:r.nm.length ≤ 100:=by rw [Z4]; omega
  have e0:ixD (row4 r) (.v (.int 0)) = some (.v (.str r.nm)):=rfl
  have e5:lenD (row4 r) = some (.v (.int 4)):=rfl
  have e6:isiD "tuple" (row4 r) = some (.v (.bl true)):=rfl
  have e7:lend (row4 r) = row4 r:=by simp
  have e8:=fun s=>ZkV (s:=s) h
  generalize row4 r = R at e0 e5 e6 e7 e8
  simp [Zk,e0,e5,e6,e7,ZdE hl2,h.nm,in_dct,hn,e8])
theorem Zkq {r:Row} (h:r.k = r.l):callK ZD [row4 r] s = .ok (rowD r) s:=Zg rfl (by
  have e3:ixD (row4 r) (.v (.int 3)) = some (.v (.int r.l)):=rfl
  have e5:lenD (row4 r) = some (.v (.int 4)):=rfl
  have e6:mkTup [D.v (.int r.l)] = some (.n .tup .shr [.v (.int r.l)]):=rfl
  have e7:addA (row4 r) (.n .tup .shr [.v (.int r.l)]) = some (rowD r):=by rw [← h]; rfl
  generalize row4 r = R at e3 e5 e7
  simp [Zbq,e3,e5,e6,e7])
theorem Zke {p:Row × Bool} {ks:List Key} {w:Fl} {xs:List D} (h:p.1.ok) (hn:lkD ks xs (.inr p.1.nm) = none):callK Zs [.n (.dct ks) w xs,rowG p] s = .ok .non s:=by
  obtain ⟨r,b⟩:=p
  cases b
  · exact Zhr h hn
  · exact Zih h hn
theorem ZnA {p:Row × Bool} (h:p.2 = false → p.1.k = p.1.l):callK ZD [rowG p] s = .ok (rowD p.1) s:=by
  obtain ⟨r,b⟩:=p
  cases b
  · exact Zkq (h rfl)
  · exact ZhZ
@[simp] theorem lend_G {p:Row × Bool}:lend (rowG p) = rowG p:=Zbf (Ke.kept p)
@[simp] theorem frz_G {p:Row × Bool}:frz (rowG p) = rowG p:=Zbm (Ke.kept p)
theorem ix0_G {p:Row × Bool}:ixD (rowG p) (.v (.int 0)) = some (.v (.str p.1.nm)):=by obtain ⟨r,b⟩:=p; cases b <;> rfl
theorem ZgZ {R:D} (h:HandOk hs) (e1:isiTD ["list","tuple"] R = some (.v (.bl true))) (e2:lenD R = some (.v (.int (hs.length:Int)))) (e4:itEn false R = some (hs.zipIdx.map (enE rowG))):callK ZA [R] s = .ok (fivesD .own (hs.map Prod.fst)) s:=Zg rfl (by
  have e3:¬ ((30:Int) < hs.length):=by have:=h.rows.len; simp at this; omega
  simp [Zy,e1,e2,e3,e4,dDict0,diP]
  refine ZeZ (I:=fun pre s=>∃ y2 y3 y4,s = [some R,some (fivesD .own ((pre.map Prod.fst).map Prod.fst)),y2,y3,y4]) (fun pre p post s e hI=>?_) ⟨_,_,_,rfl⟩ (fun s hI=>?_)
  · obtain ⟨y2,y3,y4,rfl⟩:=hI
    obtain ⟨h1,h2,h3⟩:=ZkS e
    generalize hd0:pre.map Prod.fst = dn at h1 h3 ⊢
    have hm:p.1 ∈ hs:=by rw [h1]; simp
    have hx:p.1.1.ok:=h.rows.ok _ (List.mem_map.mpr ⟨_,hm,rfl⟩)
    have hnd:=h.rows.nd
    rw [h1,List.map_append,List.map_append,List.map_cons,List.map_cons] at hnd
    have hxn:p.1.1.nm ∉ (dn.map Prod.fst).map Row.nm:=fun q=>(List.nodup_append.mp hnd).2.2 _ q _ List.mem_cons_self rfl
    have hdn:((dn.map Prod.fst).map Row.nm).Nodup:=(List.nodup_append.mp hnd).1
    have hl:=h.rows.len
    rw [h1] at hl
    simp only [List.length_map,List.length_append,List.length_cons] at hl
    refine ⟨_,tgT_2 rfl (Ke.kept p.1),?_⟩
    have hD:(dn.map Prod.fst).length < 100000:=by simp; omega
    generalize hrr:dn.map Prod.fst = rr at hnd hxn hdn hD ⊢
    have hkn:keyR p.1.1 ∉ keysR rr:=fun q=>by
      obtain ⟨r,hr,er⟩:=List.mem_map.mp q
      exact hxn (List.mem_map.mpr ⟨r,hr,Sum.inr.inj er⟩)
    have e5:=fun s=>Zke (s:=s) (p:=p.1) (ks:=keysR rr) (w:=.bor) (xs:=rowsD rr) hx (Znn hxn)
    have e7:=Zgo (s:=[some R,some (fivesD .own rr),some (.v (.int (p.2:Int))),some (rowG p.1),some .non]) (i:=1) (kd:=dP (pOp ixD (pVar 3) (pC (.int 0)))) (fz:=true) (y:=rowD p.1.1) rfl (kk:=.v (.str p.1.1.nm)) (by simp [ix0_G]) rfl (ZlF hdn) (by simpa [rowsD] using hD)
    rw [ZfE hkn,ZfD hkn (by simp [keysR,rowsD])] at e7
    simp only [ZiD,if_true] at e7
    simp [e5,ZnA (h.four _ hm),e7,ZcQ]
    rw [← hrr,← hd0]
    simp [keysR,rowsD,Function.comp_def]
  · obtain ⟨y2,y3,y4,rfl⟩:=hI
    simp [dMv])
theorem mkG_go {R:D} (e:∀ s,callK ZA [lend R] s = .ok (fivesD .own rs) s):callK (mkF 20 Ze) [R] s = .ok (Pcs .own rs) s:=by
  have h1:sat (Ze [.n (.obj 20 []) .own [],R]) fun y ios=>y = .non ∧ ios = [some (Pcs .own rs),none]:=by
    refine sat_F rfl ?_
    have e2:fldSK (plV 0) 20 "fives" (fivesD .own rs) [some (.n (.obj 20 []) .own []),some R] = .ok .nx [some (Pcs .own rs),some R]:=rfl
    simp [ZG,e,e2,ioF]
  obtain ⟨y,ios,e,rfl,rfl⟩:=h1
  refine Zfs (s':=[none]) ?_
  unfold mkF
  rw [e]
  rfl
theorem mk_G (h:HandOk hs):callK (mkF 20 Ze) [Lst rowG w hs] s = .ok (Pcs .own (hs.map Prod.fst)) s:=mkG_go fun s=>by
  rw [Znp]
  exact ZgZ h rfl (by simp) (it_En (.inr (by cases w <;> decide)))
end
end Lw
set_option maxHeartbeats 1000000
namespace Lw
open PySem PySem.Spec PyProof.Rows L2 Fs
section
variable {s:Sl} {w w':Fl} {z:Str}
def numS (i:Int):Str:=Str.ofString (toString i)
theorem ZfJ {n:Nat}:(numS (n:Int)).cps.toList = TL.numL n:=TL.tl_num n
theorem Zlm:∀ n:Nat,0 < n → ∃ c r,TL.numL n = c :: r ∧ c ≠ 48:=by
  intro n
  induction n using Nat.strongRecOn with
  | _ n ih =>
    intro h
    by_cases h10:n < 10
    · exact ⟨48 + n,[],TL.numL_lt h10,by omega⟩
    · obtain ⟨c,r,e,hc⟩:=ih (n / 10) (by omega) (by omega)
      rw [TL.numL_step (by omega),e]
      exact ⟨c,_,rfl,hc⟩
theorem Zm7 {n:Nat} (h:n ≤ 9999):numV (TL.numL n) = some n:=by
  have h1:(TL.numL n).length ≤ 4:=TL.numL_len (by decide) (by omega)
  have h2:digB (TL.numL n) = true:=by
    unfold digB
    rw [List.all_eq_true]
    intro c hc
    exact decide_eq_true (fg_mem.mpr (TL.numL_digits n c hc))
  have h3:numB (TL.numL n) = true:=by
    by_cases h0:0 < n
    · obtain ⟨c,r,e,hc⟩:=Zlm n h0
      rw [e] at h1 h2 ⊢
      unfold numB
      simp only [h1,h2,hc,decide_true,decide_false,Bool.true_and,Bool.false_and,Bool.not_false]
    · have:n = 0:=by omega
      subst this
      rw [TL.numL_lt (by decide)] at h1 h2 ⊢
      unfold numB
      simp only [h1,h2,decide_true,Bool.true_and,List.isEmpty_nil,Bool.not_true,Bool.and_false,Bool.not_false]
  unfold numV
  rw [if_pos h3,TL.numL_val]
theorem ZhE {n:Nat}:∀ c ∈ (numS (n:Int)).cps.toList,48 ≤ c ∧ c ≤ 57:=by
  rw [ZfJ]
  exact TL.numL_digits n
theorem Zk5 {i:Int} (h:0 ≤ i) (h1:i ≤ 9999):strD (.v (.int i)) = some (.v (.str (numS i))):=by
  simp only [strD]
  rw [if_pos (Nat.lt_of_lt_of_le (show i.natAbs < 10000 by omega) (by decide +kernel))]
  rfl
theorem Zm6 {i:Int} (h:0 ≤ i) (h1:i ≤ 9999):callK Zv [.v (.str (numS i))] s = .ok (.v (.int i)) s:=by
  obtain ⟨n,rfl⟩:=Int.eq_ofNat_of_zero_le h
  have hl:(numS (n:Int)).length ≤ 4:=by
    rw [Z4,ZfJ]
    exact TL.numL_len (by decide) (by omega)
  rw [ZfI (by omega) (fun c hc=>by have:=ZhE c hc; omega),ZfJ,Zm7 (by omega)]
  rfl
/-- whether the line tells what is left -/
def partsS (p:Row × Bool):List Str:=[p.1.nm,numS p.1.a,numS p.1.b,numS p.1.l] ++ if p.2 then [numS p.1.k] else []
def lineS (p:Row × Bool):Str:=Txt.join " " (partsS p)
theorem sp_tl:TL.tl (" ":Str) = 32 :: []:=by decide +kernel
theorem lf_tl:TL.tl ("\n":Str) = 10 :: []:=by decide +kernel
theorem Zou {z:Str} (h:nameB z.cps.toList = true):∀ c ∈ z.cps.toList,48 ≤ c ∧ c < 123:=by
  have hL:∀ c ∈ LF,48 ≤ c ∧ c < 123:=by decide +kernel
  intro c hc
  unfold nameB at h
  cases hz:z.cps.toList with
  | nil=>rw [hz] at hc; simp at hc
  | cons x xs =>
    rw [hz] at h hc
    simp only [Bool.and_eq_true,decide_eq_true_eq,List.all_eq_true] at h
    have hT:∀ c ∈ LT,c ∈ LF:=by decide +kernel
    have:∀ c ∈ x :: xs,c ∈ LF:=by
      intro c hc
      first | exact h.2.2 c hc | (rcases List.mem_cons.mp hc with rfl | q; · exact hT _ (by first | exact h.2.1 | exact h.1.2); · first | exact h.2.2 c q | exact h.2 c q)
    exact hL c (this c hc)
theorem Zfn {p:Row × Bool} (h:p.1.ok):∀ z ∈ partsS p,z.length ≤ 8 ∧ z.cps.toList ≠ [] ∧ ∀ c ∈ z.cps.toList,48 ≤ c ∧ c < 123:=by
  have hn:∀ i:Int,0 ≤ i → i ≤ 9999 → (numS i).length ≤ 8 ∧ (numS i).cps.toList ≠ [] ∧ ∀ c ∈ (numS i).cps.toList,48 ≤ c ∧ c < 123:=by
    intro i h0 h1
    obtain ⟨n,rfl⟩:=Int.eq_ofNat_of_zero_le h0
    refine ⟨?_,?_,fun c hc=>by have:=ZhE c hc; omega⟩
    · rw [Z4,ZfJ]
      have:=TL.numL_len (n:=n) (k:=4) (by decide) (by omega)
      omega
    · rw [ZfJ]; exact TL.numL_ne n
  obtain ⟨h1,h2,h3,h4,h5,h6,h7,h8,h9,h10⟩:=h
  intro z hz
  have hz':z ∈ [p.1.nm,numS p.1.a,numS p.1.b,numS p.1.l,numS p.1.k]:=by
    unfold partsS at hz
    cases q:p.2 with
    | true=>rw [q] at hz; simpa using hz
    | false =>
      rw [q] at hz
      simp only [Bool.false_eq_true,if_false,List.append_nil,List.mem_cons,List.not_mem_nil,or_false] at hz ⊢
      rcases hz with h | h | h | h <;> simp [h]
  simp only [List.mem_cons,List.not_mem_nil,or_false] at hz'
  rcases hz' with rfl | rfl | rfl | rfl | rfl
  · refine ⟨?_,?_,Zou h1⟩
    · rw [Z4]; exact ZdB h1
    · intro q; rw [q] at h1; simp [nameB] at h1
  · exact hn _ h2 (by omega)
  · exact hn _ h4 (by omega)
  · exact hn _ (by omega) (by omega)
  · exact hn _ h9 (by omega)
theorem Zkl {p:Row × Bool} (h:p.1.ok):Txt.split (lineS p) " " = partsS p :=
  TL.split_join sp_tl (by decide +kernel) (by simp [partsS]) fun z hz q=>by
    have:=(Zfn h z hz).2.2 32 q
    omega
theorem Zhb:∀ zs:List Str,txts (zs.map D.str) = some zs
  | []=>rfl
  | z :: zs=>by simp [txts,Zhb zs]
theorem ZfR {a:Str} {zs:List Str} (h:(zs.map (·.length)).sum + zs.length * a.length ≤ 100000):joinD a (Lst D.str w zs) = some (.v (.str (Txt.join a zs))):=by
  simp only [joinD,Lst,Zhb,Option.bind_some]
  rw [if_pos h]
end
end Lw
set_option maxHeartbeats 1000000
namespace Lw
open PySem PySem.Spec PyProof.Rows L2 Fs
section
variable {s:Sl} {w w':Fl} {z:Str} {ps:List (Row × Bool)} {rs:List Row}
theorem ZfS (S:List Nat):∀ ps:List (List Nat),(TL.joinL S ps).length ≤ (ps.map List.length).sum + ps.length * S.length
  | []=>by simp [TL.joinL]
  | [p]=>by simp [TL.joinL]
  | p :: q :: r=>by
    have ih:=ZfS S (q :: r)
    simp only [TL.joinL,List.length_append,List.map_cons,List.sum_cons,List.length_cons] at ih ⊢
    have:(r.length + 1 + 1) * S.length = (r.length + 1) * S.length + S.length:=by rw [Nat.add_mul,Nat.one_mul]
    omega
theorem Zjv {a:Str} {zs:List Str} {n:Nat} (h:∀ z ∈ zs,z.length ≤ n):(Txt.join a zs).length ≤ zs.length * (n + a.length) ∧ (zs.map (·.length)).sum ≤ zs.length * n:=by
  have h1:(zs.map (·.length)).sum ≤ zs.length * n:=by
    induction zs with
    | nil=>simp
    | cons z zs ih =>
      have:=ih fun x hx=>h x (List.mem_cons_of_mem _ hx)
      have:=h z List.mem_cons_self
      simp only [List.map_cons,List.sum_cons,List.length_cons,Nat.add_mul,Nat.one_mul]
      omega
  refine ⟨?_,h1⟩
  rw [TL.join_eq,TL.len_tl,TL.tl_join]
  have h2:=ZfS (TL.tl a) (zs.map TL.tl)
  have h3:((zs.map TL.tl).map List.length) = zs.map (·.length):=by
    rw [List.map_map]
    exact List.map_congr_left fun x _=>(TL.len_tl x).symm
  rw [h3,List.length_map,← TL.len_tl] at h2
  rw [Nat.mul_add]
  omega
theorem Zfp {p:Row × Bool} (h:p.1.ok):(lineS p).length ≤ 45 ∧ joinD " " (Lst D.str w (partsS p)) = some (.v (.str (lineS p))):=by
  obtain ⟨h1,h2⟩:=Zjv (a:=" ") (zs:=partsS p) (n:=8) fun z hz=>(Zfn h z hz).1
  have h3:(partsS p).length ≤ 5:=by unfold partsS; cases p.2 <;> simp
  have h4:((" ":Str).length) = 1:=by decide +kernel
  rw [h4] at h1
  have h5:(partsS p).length * (8 + 1) ≤ 5 * 9:=Nat.mul_le_mul h3 (Nat.le_refl _)
  have h6:(partsS p).length * 8 ≤ 5 * 8:=Nat.mul_le_mul h3 (Nat.le_refl _)
  refine ⟨by unfold lineS; omega,ZfR ?_⟩
  rw [h4]
  omega
theorem Zeq {S:List Nat} {c:Nat}:∀ {ps:List (List Nat)},c ∈ TL.joinL S ps → c ∈ S ∨ ∃ p ∈ ps,c ∈ p
  | [],h=>by simp [TL.joinL] at h
  | [p],h=>.inr ⟨p,by simp,by simpa [TL.joinL] using h⟩
  | p :: q :: r,h=>by
    simp only [TL.joinL,List.mem_append] at h
    rcases h with h | h | h
    · exact .inr ⟨p,by simp,h⟩
    · exact .inl h
    · rcases Zeq h with q' | ⟨x,h1,h2⟩
      · exact .inl q'
      · exact .inr ⟨x,List.mem_cons_of_mem _ h1,h2⟩
theorem Ziu {p:Row × Bool} (h:p.1.ok):(∀ c ∈ (lineS p).cps.toList,c = 32 ∨ 48 ≤ c ∧ c < 123) ∧ (lineS p).cps.toList ≠ []:=by
  have e:(lineS p).cps.toList = TL.joinL [32] ((partsS p).map TL.tl):=by
    show TL.tl (Txt.join " " (partsS p)) = _
    rw [TL.join_eq,TL.tl_join,sp_tl]
  constructor
  · intro c hc
    rw [e] at hc
    rcases Zeq hc with q | ⟨x,h1,h2⟩
    · exact .inl (by simpa using q)
    · obtain ⟨z,hz,rfl⟩:=List.mem_map.mp h1
      exact .inr ((Zfn h z hz).2.2 c h2)
  · rw [e]
    have h0:=(Zfn h p.1.nm (by simp [partsS])).2.1
    have:∃ y r,(partsS p).map TL.tl = TL.tl p.1.nm :: y :: r:=⟨_,_,rfl⟩
    obtain ⟨y,r,q⟩:=this
    rw [q]
    intro z
    have hz:=congrArg List.length z
    simp [TL.joinL] at hz
theorem ZmZ {p:Row × Bool} (h:p.1.ok):callK ZM [.v (.str (lineS p))] s = .ok (rowG p) s:=Zg rfl (by
  obtain ⟨r,b⟩:=p
  have hk:r.ok:=h
  obtain ⟨h1,h2,h3,h4,h5,h6,h7,h8,h9,h10⟩:=hk
  have l1:=(Zfp (w:=.own) h).1
  have sp:splitD [.v (.str (lineS (r,b))),.v (.str " ")] = some (Lst D.str .own (partsS (r,b))):=by
    simp only [splitD]
    rw [if_pos ⟨by decide +kernel,by omega⟩,Zkl h]
    rfl
  have ty:tyF "str" (.v (.str (lineS (r,b)))) = some (.v (.str (lineS (r,b)))):=rfl
  have nm:∀ s,callK Zx [.v (.str r.nm)] s = .ok (.v (.bl true)) s:=fun s=>by
    rw [ZdE (by have:=ZdB h1; have:=Z4 r.nm; omega),h1]
  generalize lineS (r,b) = L at sp ty
  have nums:∀ (xs:List Int),(∀ i ∈ xs,0 ≤ i ∧ i ≤ 9999) → xs.length ≤ 10 → ∀ (y0 y1 y2:Option D) (dd:DA),dd [y0,y1,y2,none] = .ok (xs.map fun i=>.v (.str (numS i))) [y0,y1,y2,none] → dComp true [3] dd (tgN 3) dtYes (dCall Zv (daLend (pVar 3) daNil)) [y0,y1,y2,none] = .ok (Lst D.int .own xs) [y0,y1,y2,none]:=by
    intro xs hx hl y0 y1 y2 dd hd
    have:=sat_cm (keep:=true) (i:=3) (s:=[y0,y1,y2,none]) (out:=D.int) (Q:=fun a s'=>a = Lst D.int .own xs ∧ s' = [y0,y1,y2,none]) (di:=dd) (elt:=dCall Zv (daLend (pVar 3) daNil)) (fun i=>D.v (.str (numS i))) xs id (by rw [hd]; exact sat_ok.mpr ⟨rfl,rfl⟩) rfl (fun i hi=>by simp [Zm6 (hx i hi).1 (hx i hi).2]) (by omega) ⟨by simp,rfl⟩
    exact of_sat this
  cases b with
  | false =>
    have pe:Lst D.str .own (partsS (r,false)) = Lst D.str .own [r.nm,numS r.a,numS r.b,numS r.l]:=by simp [partsS]
    rw [pe] at sp
    have i0:ixD (Lst D.str .own [r.nm,numS r.a,numS r.b,numS r.l]) (.v (.int 0)) = some (.v (.str r.nm)):=rfl
    have s1:slD [Lst D.str .own [r.nm,numS r.a,numS r.b,numS r.l],.v (.int 1),.v .non] = some (Lst D.str .own [numS r.a,numS r.b,numS r.l]):=rfl
    have s0:slD [Lst D.str .own [r.nm,numS r.a,numS r.b,numS r.l],.v .non,.v (.int 1)] = some (.n .lst .own [.v (.str r.nm)]):=rfl
    have ln:lenD (Lst D.str .own [r.nm,numS r.a,numS r.b,numS r.l]) = some (.v (.int 4)):=rfl
    have it:itA true (Lst D.str .own [numS r.a,numS r.b,numS r.l]) = some ([r.a,r.b,r.l].map fun i=>.v (.str (numS i))):=rfl
    have nn:inD (.v .non) (Lst D.int .own [r.a,r.b,r.l]) = some (.v (.bl false)):=rfl
    have ad:addA (.n .lst .own [.v (.str r.nm)]) (Lst D.int .own [r.a,r.b,r.l]) = some (.n .lst .own [.v (.str r.nm),.v (.int r.a),.v (.int r.b),.v (.int r.l)]):=rfl
    have tp:tupD (.n .lst .own [.v (.str r.nm),.v (.int r.a),.v (.int r.b),.v (.int r.l)]) = some (rowG (r,false)):=rfl
    have nu:=nums [r.a,r.b,r.l] (by intro i hi; simp only [List.mem_cons,List.not_mem_nil,or_false] at hi; rcases hi with rfl | rfl | rfl <;> omega) (by simp)
    generalize Lst D.str .own [r.nm,numS r.a,numS r.b,numS r.l] = P at sp i0 s1 s0 ln
    generalize Lst D.str .own [numS r.a,numS r.b,numS r.l] = P1 at s1 it
    generalize Lst D.int .own [r.a,r.b,r.l] = P2 at nn ad nu
    generalize rowG (r,false) = G at tp
    simp [ZP,ty,sp,ln,i0,nm]
    rw [nu _ _ _ _ (by simp [diD,s1,it])]
    simp [nn,s0,ad,tp]
  | true =>
    have pe:Lst D.str .own (partsS (r,true)) = Lst D.str .own [r.nm,numS r.a,numS r.b,numS r.l,numS r.k]:=by simp [partsS]
    rw [pe] at sp
    have i0:ixD (Lst D.str .own [r.nm,numS r.a,numS r.b,numS r.l,numS r.k]) (.v (.int 0)) = some (.v (.str r.nm)):=rfl
    have s1:slD [Lst D.str .own [r.nm,numS r.a,numS r.b,numS r.l,numS r.k],.v (.int 1),.v .non] = some (Lst D.str .own [numS r.a,numS r.b,numS r.l,numS r.k]):=rfl
    have s0:slD [Lst D.str .own [r.nm,numS r.a,numS r.b,numS r.l,numS r.k],.v .non,.v (.int 1)] = some (.n .lst .own [.v (.str r.nm)]):=rfl
    have ln:lenD (Lst D.str .own [r.nm,numS r.a,numS r.b,numS r.l,numS r.k]) = some (.v (.int 5)):=rfl
    have it:itA true (Lst D.str .own [numS r.a,numS r.b,numS r.l,numS r.k]) = some ([r.a,r.b,r.l,r.k].map fun i=>.v (.str (numS i))):=rfl
    have nn:inD (.v .non) (Lst D.int .own [r.a,r.b,r.l,r.k]) = some (.v (.bl false)):=rfl
    have ad:addA (.n .lst .own [.v (.str r.nm)]) (Lst D.int .own [r.a,r.b,r.l,r.k]) = some (.n .lst .own [.v (.str r.nm),.v (.int r.a),.v (.int r.b),.v (.int r.l),.v (.int r.k)]):=rfl
    have tp:tupD (.n .lst .own [.v (.str r.nm),.v (.int r.a),.v (.int r.b),.v (.int r.l),.v (.int r.k)]) = some (rowG (r,true)):=rfl
    have nu:=nums [r.a,r.b,r.l,r.k] (by intro i hi; simp only [List.mem_cons,List.not_mem_nil,or_false] at hi; rcases hi with rfl | rfl | rfl | rfl <;> omega) (by simp)
    generalize Lst D.str .own [r.nm,numS r.a,numS r.b,numS r.l,numS r.k] = P at sp i0 s1 s0 ln
    generalize Lst D.str .own [numS r.a,numS r.b,numS r.l,numS r.k] = P1 at s1 it
    generalize Lst D.int .own [r.a,r.b,r.l,r.k] = P2 at nn ad nu
    generalize rowG (r,true) = G at tp
    simp [ZP,ty,sp,ln,i0,nm]
    rw [nu _ _ _ _ (by simp [diD,s1,it])]
    simp [nn,s0,ad,tp])
end
end Lw
set_option maxHeartbeats 1000000
namespace Lw
open PySem PySem.Spec PyProof.Rows L2 Fs
section
variable {s:Sl} {w w':Fl} {z:Str} {ps:List (Row × Bool)} {rs:List Row} {p:Row × Bool}
def strOf (d:D):Str:=match strD d with | some (.v (.str z))=>z | _=>""
def rowL (p:Row × Bool):List D:=[.v (.str p.1.nm),.v (.int p.1.a),.v (.int p.1.b),.v (.int p.1.l)] ++ if p.2 then [.v (.int p.1.k)] else []
theorem rowG_L:rowG p = .n .tup .shr (rowL p):=by
  obtain ⟨r,b⟩:=p
  cases b <;> simp [rowG,rowL]
theorem ZmO (h:p.1.ok):∀ d ∈ rowL p,strD d = some (.v (.str (strOf d))):=by
  obtain ⟨r,b⟩:=p
  have hk:r.ok:=h
  obtain ⟨h1,h2,h3,h4,h5,h6,h7,h8,h9,h10⟩:=hk
  have hi:∀ i:Int,0 ≤ i → i ≤ 9999 → strD (.v (.int i)) = some (.v (.str (strOf (.v (.int i))))):=fun i a b=>by simp only [strOf,Zk5 a b]
  intro d hd
  have hd':d ∈ [D.v (.str r.nm),.v (.int r.a),.v (.int r.b),.v (.int r.l),.v (.int r.k)]:=by
    unfold rowL at hd
    cases b with
    | true=>simpa using hd
    | false =>
      simp only [Bool.false_eq_true,if_false,List.append_nil,List.mem_cons,List.not_mem_nil,or_false] at hd ⊢
      rcases hd with h | h | h | h <;> simp [h]
  simp only [List.mem_cons,List.not_mem_nil,or_false] at hd'
  rcases hd' with rfl | rfl | rfl | rfl | rfl
  · rfl
  · exact hi _ (by omega) (by omega)
  · exact hi _ (by omega) (by omega)
  · exact hi _ (by omega) (by omega)
  · exact hi _ (by omega) (by omega)
theorem Zk4 (h:p.1.ok):(rowL p).map strOf = partsS p:=by
  obtain ⟨r,b⟩:=p
  have hk:r.ok:=h
  obtain ⟨h1,h2,h3,h4,h5,h6,h7,h8,h9,h10⟩:=hk
  have hi:∀ i:Int,0 ≤ i → i ≤ 9999 → strOf (.v (.int i)) = numS i:=fun i a b=>by simp only [strOf,Zk5 a b]
  have h0:strOf (.v (.str r.nm)) = r.nm:=rfl
  cases b <;> simp [rowL,partsS,h0,hi r.a (by omega) (by omega),hi r.b (by omega) (by omega),hi r.l (by omega) (by omega),hi r.k (by omega) (by omega)]
/-- the words of a row -/
theorem ZkT (h:p.1.ok) {i j:Nat} {s:Sl} (hi:(s[i]?).join = some (rowG p)) (hj:s.set j none = s) (hij:i ≠ j) (hjl:j < s.length):dComp true [j] (diP (itA true) (pVar i)) (tgN j) dtYes (dN (f1 strD) [.k (pVar j)]) s = .ok (Lst D.str .own (partsS p)) s:=by
  have it:itA true (rowG p) = some (rowL p):=by
    have hk:(rowL p).all D.kept = true:=by
      obtain ⟨r,b⟩:=p
      cases b <;> rfl
    rw [rowG_L]
    simp only [itA]
    rw [if_pos ⟨hk,.inl (by trivial)⟩]
  have hid:(rowL p).map id = rowL p:=List.map_id _
  refine of_sat (sat_cm (out:=D.str) (Q:=fun a s'=>a = _ ∧ s' = s) (id:D → D) (rowL p) strOf ?_ hj (fun d hd=>?_) ?_ ⟨by rw [Zk4 h],rfl⟩)
  · rw [hid]
    unfold diP pVar
    simp [hi,it]
  · have:=ZmO h d hd
    have e:pVar j (s.set j (some d)) = some d:=by
      unfold pVar
      simp [hjl]
    simp [e,this]
  · obtain ⟨r,b⟩:=p
    cases b <;> simp [rowL]
theorem cut4G {r:Row}:slD [rowD r,.v .non,.v (.int 4)] = some (rowG (r,false)):=rfl
theorem Zlz {r:Row} (h:r.ok):callK ZbB [rowD r] s = .ok (.v (.str (lineS (r,!decide (r.k = r.l))))) s:=Zg rfl (by
  have fr:Option.filter D.kept (some (rowD r)) = some (rowD r):=rfl
  have fg:∀ b,Option.filter D.kept (some (rowG (r,b))) = some (rowG (r,b)):=fun b=>by cases b <;> rfl
  have e3:ixD (rowD r) (.v (.int 3)) = some (.v (.int r.l)):=rfl
  have e4:ixD (rowD r) (.v (.int 4)) = some (.v (.int r.k)):=rfl
  have c4:=cut4G (r:=r)
  have jl:=fun b=>(Zfp (p:=(r,b)) (w:=.own) h).2
  have wd:=fun (b:Bool) (y:D)=>ZkT (p:=(r,b)) h (i:=1) (j:=2) (s:=[some y,some (rowG (r,b)),none]) rfl rfl (by decide) (by simp)
  have e5:rowG (r,true) = rowD r:=rfl
  by_cases q:r.k = r.l
  · have wd:=wd false (rowD r)
    have jl:=jl false
    generalize rowD r = R at fr e3 e4 c4 wd
    generalize rowG (r,false) = G at c4 wd
    generalize Lst D.str .own (partsS (r,false)) = P at wd jl
    simp [Zcv,fr,e3,e4,q,c4,wd,jl]
  · have wd:=wd true (rowD r)
    have jl:=jl true
    rw [e5] at wd
    generalize rowD r = R at fr e3 e4 c4 wd
    generalize Lst D.str .own (partsS (r,true)) = P at wd jl
    simp [Zcv,fr,e3,e4,q,wd,jl])
theorem Zoy {r:Row} {b:Bool} (h:r.ok):callK ZO [rowD r,.v (.bl b)] s = .ok (.v (.str (lineS (r,!(b && decide (r.l = r.k)))))) s:=Zg rfl (by
  have fr:Option.filter D.kept (some (rowD r)) = some (rowD r):=rfl
  have e3:ixD (rowD r) (.v (.int 3)) = some (.v (.int r.l)):=rfl
  have e4:ixD (rowD r) (.v (.int 4)) = some (.v (.int r.k)):=rfl
  have c4:=cut4G (r:=r)
  have jl:=fun b=>(Zfp (p:=(r,b)) (w:=.own) h).2
  have wd:=fun (b:Bool) (y y':D)=>ZkT (p:=(r,b)) h (i:=2) (j:=3) (s:=[some y,some y',some (rowG (r,b)),none]) rfl rfl (by decide) (by simp)
  have e5:rowG (r,true) = rowD r:=rfl
  cases b with
  | false =>
    have wd:=wd true (rowD r) (.v (.bl false))
    have jl:=jl true
    rw [e5] at wd
    generalize rowD r = R at fr e3 e4 c4 wd
    generalize Lst D.str .own (partsS (r,true)) = P at wd jl
    simp [Zcf,fr,wd,jl]
  | true =>
    by_cases q:r.l = r.k
    · have wd:=wd false (rowD r) (.v (.bl true))
      have jl:=jl false
      generalize rowD r = R at fr e3 e4 c4 wd
      generalize rowG (r,false) = G at c4 wd
      generalize Lst D.str .own (partsS (r,false)) = P at wd jl
      simp [Zcf,fr,e3,e4,q,c4,wd,jl]
    · have wd:=wd true (rowD r) (.v (.bl true))
      have jl:=jl true
      rw [e5] at wd
      generalize rowD r = R at fr e3 e4 c4 wd
      generalize Lst D.str .own (partsS (r,true)) = P at wd jl
      simp [Zcf,fr,e3,e4,q,wd,jl])
/-- the text of rows -/
def textS (ps:List (Row × Bool)):Str:=Txt.join "\n" (ps.map lineS)
def briefS (rs:List Row):List (Row × Bool):=rs.map fun r=>(r,!decide (r.k = r.l))
theorem text_len (h:∀ p ∈ ps,p.1.ok) (hl:ps.length ≤ 30):(textS ps).length ≤ 1400 ∧ joinD "\n" (Lst D.str w (ps.map lineS)) = some (.v (.str (textS ps))):=by
  obtain ⟨h1,h2⟩:=Zjv (a:="\n") (zs:=ps.map lineS) (n:=45) fun z hz=>by
    obtain ⟨p,hp,rfl⟩:=List.mem_map.mp hz
    exact (Zfp (w:=.own) (h p hp)).1
  have h4:((("\n":Str)).length) = 1:=by decide +kernel
  rw [h4,List.length_map] at h1
  rw [List.length_map] at h2
  have h5:ps.length * (45 + 1) ≤ 30 * 46:=Nat.mul_le_mul hl (Nat.le_refl _)
  have h6:ps.length * 45 ≤ 30 * 45:=Nat.mul_le_mul hl (Nat.le_refl _)
  refine ⟨by unfold textS; omega,ZfR ?_⟩
  rw [h4,List.length_map]
  omega
theorem show_c (hr:RowsOk rs):callK Zm [Pcs w rs] s = .ok (.v (.str (textS (briefS rs)))) s:=Zg rfl (by
  have hl:=hr.len
  have jl:=(text_len (ps:=briefS rs) (w:=.own) (fun p hp=>by obtain ⟨r,h,rfl⟩:=List.mem_map.mp hp; exact hr.ok r h) (by simp [briefS]; exact hl)).2
  simp [ZbN]
  refine sat_cm (out:=D.str) rowD rs (fun r=>lineS (r,!decide (r.k = r.l))) (by simp [diD]) rfl (fun r hr'=>?_) (by omega) ?_
  · have lr:lend (rowD r) = rowD r:=Zbf rfl
    have lo:=fun s=>Zlz (s:=s) (hr.ok r hr')
    generalize rowD r = R at lr lo ⊢
    simp [lr,lo]
  · have e:rs.map (fun r=>lineS (r,!decide (r.k = r.l))) = (briefS rs).map lineS:=by simp [briefS,Function.comp_def]
    rw [e,jl]
    simp)
end
end Lw
set_option maxHeartbeats 1000000
namespace Lw
end Lw
set_option maxHeartbeats 1000000
namespace Fs
open PySem PySem.Spec PyProof.Rows L2
section
variable {s:Sl}
def elseK (o:Out D) (b:DE) (s:Sl):Out D:=match o with | .bad=>b s | .ok d s'=>.ok d s' | .exc c xs s'=>.exc c xs s'
@[simp] theorem Zry {a b:DE}:dElse a b s = elseK (a s) b s:=by unfold dElse elseK; cases a s <;> rfl
@[simp] theorem Zpq {b:DE}:elseK .bad b s = b s:=rfl
@[simp] theorem Zqo {b:DE} {d:D} {s':Sl}:elseK (.ok d s') b s = .ok d s':=rfl
@[simp] theorem Zq0 {r:DA}:lendK none r s = .bad:=rfl
end
end Fs
namespace Lw
open PySem PySem.Spec PyProof.Rows L2 Fs
def KpD (w:Fl) (rs:List Row) (f:Int):D:=.n (.obj 23 ["held","most"]) w [Pcs .shr rs,.v (.int f)]
def CrD (w:Fl) (rs:List Row) (f:Int) (p:Int × Int):D:=.n (.obj 24 ["held","most","spot"]) w [Pcs .shr rs,.v (.int f),stE p]
section
variable {s:Sl} {w w':Fl} {rs:List Row} {f:Int} {p:Int × Int} {m:Str}
theorem Zjt:lend (Pcs .shr rs) = Pcs .shr rs:=Zbf rfl
@[simp] theorem Zqm:Option.filter D.kept (some (Pcs .shr rs)) = some (Pcs .shr rs):=rfl
@[simp] theorem Zra:frz (Pcs .shr rs) = Pcs .shr rs:=Zbm rfl
@[simp] theorem ZpY:lend (KpD w rs f) = KpD (lnd w) rs f:=by unfold KpD; cases w <;> simp [Zjt]
@[simp] theorem ZpZ:lend (CrD w rs f p) = CrD (lnd w) rs f p:=by unfold CrD; cases w <;> simp [Zjt]
@[simp] theorem Zre:fldD 23 "held" (KpD w rs f) = some (Pcs .shr rs):=rfl
@[simp] theorem Zrd:fldD 23 "most" (KpD w rs f) = some (.v (.int f)):=rfl
@[simp] theorem Zrh:fldD 24 "held" (CrD w rs f p) = some (Pcs .shr rs):=rfl
@[simp] theorem Zrg:fldD 24 "most" (CrD w rs f p) = some (.v (.int f)):=rfl
@[simp] theorem Zrf:fldD 24 "spot" (CrD w rs f p) = some (stE p):=rfl
end
end Lw
set_option maxHeartbeats 1000000
namespace Lw
namespace K12
open PySem PySem.Spec PyProof.Rows L2 Fs
section
variable {s:Sl} {w w':Fl} {rs:List Row} {a b f g:Int}
def chE (rs:List Row):D:=.n .tup .shr [Lst rowD .shr rs,Pcs .shr rs]
instance:Ke chE:=⟨fun _=>rfl⟩
end
end K12
end Lw
set_option maxHeartbeats 1000000
namespace Lw
namespace K28
open PySem PySem.Spec PyProof.Rows L2 Fs
/-- an element of what is handed in: a tuple of things,or another thing -/
inductive El | t (ks:List KD) | n (d:KD)
def elE:El → D | .t ks=>Tpl kdE ks | .n d=>d.1
instance:Ke elE:=⟨fun e=>by cases e with | t ks=>rfl | n d=>exact d.2⟩
def whB (k:KD):Bool:=match k.1 with | .v (.int _)=>true | _=>false
/-- whether is_whole answers so -/
def AtomOk (k:KD):Prop:=∀ s,callK ZJ [k.1] s = .ok (.v (.bl (whB k))) s ∧ callK Zq [k.1] s = .ok (.v (.bl (whB k))) s
def goodB:El → Bool | .t ks=>ks.all whB | .n _=>false
theorem g_t {ks:List KD}:goodB (.t ks) = ks.all whB:=rfl
theorem g_n {d:KD}:goodB (.n d) = false:=rfl
structure ElOk (e:El):Prop where
  at_:∀ ks,e = .t ks → ∀ k ∈ ks,AtomOk k
  len:∀ ks,e = .t ks → ks.length ≤ 5
  no:∀ d,e = .n d → isiD "tuple" d.1 = some (.v (.bl false))
  ex:∃ p,pd (elE e) = some p ∧ sm p = true ∧ p.depth ≤ 3 ∧ rc p ≤ 1000
section
variable {s:Sl} {w w':Fl} {rs:List Row} {a b f g:Int} {es:List El} {q:Int × Int × Int × Int}
theorem all_bl {ρ:Type} (f:ρ → Bool):∀ xs:List ρ,allD (Lst D.bl .own (xs.map f)) = some (.v (.bl (xs.all f))):=fun xs=>by
  have:∀ xs:List ρ,Fs.allB ((xs.map f).map D.bl) = some (xs.all f):=fun xs=>by
    induction xs with
    | nil=>rfl
    | cons x xs ih=>simp only [List.map_cons,List.all_cons,Fs.allB,ih]; cases f x <;> simp
  simp only [Lst,allD,this]
  rfl
theorem Zko (hr:RowsOk rs) (h0:0 ≤ f) (h1:f ≤ 300) (hw:w' ≠ .own) (he:∀ e ∈ es,ElOk e) {c:Bool} (hc:es.all goodB = true → eqD (Lst elE w' es) (Lst tbE .own (tbl rs f)) = some (.v (.bl c))):callK Zbo [Pcs w rs,.v (.int f),Lst elE w' es] s = .ok (.v (.bl (es.all goodB && c))) s:=Zg rfl (by
  simp [ZbM,Zk2 hr h0 h1,diP,Ziz (enc:=elE) (xs:=es) (p:=false) hw]
  refine ZeZ (I:=fun pre s=>pre.all goodB = true ∧ ∃ y,s = [some (Pcs w rs),some (.v (.int f)),some (Lst elE w' es),some (Lst tbE .own (tbl rs f)),y,none]) (fun pre e post s ee hI=>?_) ⟨rfl,_,rfl⟩ (fun s hI=>?_)
  · obtain ⟨hg,y,rfl⟩:=hI
    have ho:=he e (by rw [ee]; simp)
    refine ⟨_,rfl,?_⟩
    cases e with
    | n d =>
      have:=ho.no d rfl
      have hbad:es.all goodB = false:=by rw [ee]; simp [g_n]
      simp [elE,this,hbad]
    | t ks =>
      simp [elE]
      refine sat_cm (out:=D.bl) kdE ks whB (by simp [diP]) rfl (fun k hk=>?_) (by have:=ho.len ks rfl; omega) ?_
      · simp [kdE,Zbf k.2,(ho.at_ ks rfl k hk _).1]
      · cases hb:ks.all whB with
        | true =>
          simp [all_bl,hb,g_t]
          simpa using hg
        | false =>
          have hbad:es.all goodB = false:=by rw [ee]; simp [g_t,hb]
          simp [all_bl,hb,hbad]
  · obtain ⟨hg,y,rfl⟩:=hI
    simp [hc hg,hg])
def zE (p:El × (Int × Int × Int × Int)):D:=.n .tup .shr [elE p.1,tbE p.2]
theorem itZ_c {qs:List (Int × Int × Int × Int)} (hw:w ≠ .own) (hw':w' ≠ .own):itZ false (Lst elE w es) (Lst tbE w' qs) = some ((es.zip qs).map zE):=by
  simp only [Lst,itZ]
  rw [if_pos ⟨Zbb es,Zbb qs,.inr ⟨hw,hw'⟩⟩]
  simp [pairsZ,List.zip_map,zE,Function.comp_def]
/-- whole numbers alone -/
def intsK (ks:List KD):List Int:=ks.map fun k=>match k.1 with | .v (.int i)=>i | _=>0
theorem ints_of {ks:List KD} (h:ks.all whB = true):ks = (intsK ks).map kdI:=by
  induction ks with
  | nil=>rfl
  | cons k ks ih =>
    simp only [List.all_cons,Bool.and_eq_true] at h
    obtain ⟨d,hd⟩:=k
    have h1:=h.1
    unfold whB at h1
    split at h1
    · rename_i i e
      simp only at e
      subst e
      have:=ih h.2
      simp only [intsK,List.map_cons] at this ⊢
      rw [← this]
      rfl
    · cases h1
theorem ZjO (ns:List Int):Tpl kdE (ns.map kdI) = Tpl D.int ns:=by simp [Tpl,kdE,kdI]
instance:EqE (Tpl D.int) (fun _=>True):=⟨fun ns=>.tuple (ns.map .int),fun ns=>by
    have:∀ ns:List Int,pds (ns.map D.int) = some (ns.map PyData.int):=fun ns=>by
      induction ns with
      | nil=>rfl
      | cons n ns ih=>simp [pds,pd,ih]
    simp [Tpl,pd,this],fun ns _=>by
    have:∀ ns:List Int,PyData.canLayAll0 (ns.map PyData.int) = true:=fun ns=>by
      induction ns with
      | nil=>rfl
      | cons n ns ih=>simp [PyData.canLayAll0,PyData.canLay0,ih]
    simp [PyData.canLay0,this],fun ns=>by
    have:∀ ns:List Int,PyData.depthAll (ns.map PyData.int) = 0:=fun ns=>by
      induction ns with
      | nil=>rfl
      | cons n ns ih=>simp [PyData.depthAll,PyData.depth,ih]
    simp [PyData.depth,this],fun x y=>by
    have:∀ x y:List Int,PyData.eqvAll (x.map PyData.int) (y.map PyData.int) = true ↔ x = y:=fun x=>by
      induction x with
      | nil=>intro y; cases y <;> simp [PyData.eqvAll]
      | cons a x ih=>intro y; cases y <;> simp [PyData.eqvAll,PyData.eqv,ih]
    simp [PyData.eqv,this]⟩
def four (q:Int × Int × Int × Int):List Int:=[q.1,q.2.1,q.2.2.1,q.2.2.2]
theorem ZnR:tbE q = Tpl D.int (four q):=rfl
theorem Zlp {ns:List Int}:neD (Tpl D.int ns) (tbE q) = some (.v (.bl (!decide (ns = four q)))):=by
  rw [ZnR]
  have E:EqE (Tpl D.int) (fun _=>True):=inferInstance
  exact Zlq (enc:=D.int) (by simp) (by simp)
/-- the elements that are tuples of whole numbers,as such -/
def elI:El → List Int | .t ks=>intsK ks | .n _=>[]
theorem Znq {qs:List (Int × Int × Int × Int)} (hw:w ≠ .own) (hw':w' ≠ .own) (he:∀ e ∈ es,ElOk e) (hq:qs.length ≤ 900):callK Zfb [Lst elE w es,Lst tbE w' qs] s = .ok (.v (.bl (es.all goodB && decide (es.map elI = qs.map four)))) s:=Zg rfl (by
  by_cases hl:es.length = qs.length
  · have hl':(es.length:Int) = qs.length:=by omega
    simp [ZdT,hl,hl',diPZ,itZ_c hw hw']
    refine ZeZ (I:=fun pre s=>(∀ p ∈ pre,goodB p.1 = true ∧ elI p.1 = four p.2) ∧ ∃ y z,s = [some (Lst elE w es),some (Lst tbE w' qs),y,z,none]) (fun pre p post s ee hI=>?_) ⟨by simp,_,_,rfl⟩ (fun s hI=>?_)
    · obtain ⟨hg,y,z,rfl⟩:=hI
      have hm:p ∈ es.zip qs:=by rw [ee]; simp
      have hm1:p.1 ∈ es:=(List.of_mem_zip hm).1
      have ho:=he p.1 hm1
      have hbad:goodB p.1 = false ∨ elI p.1 ≠ four p.2 → (es.all goodB && decide (es.map elI = qs.map four)) = false:=by
        rintro (h | h)
        · have:es.all goodB = false:=by
            rw [List.all_eq_false]
            exact ⟨p.1,hm1,by simp [h]⟩
          simp [this]
        · have:es.map elI ≠ qs.map four:=fun z=>h (by
            have h2:(es.zip qs).map (fun p=>elI p.1) = (es.zip qs).map (fun p=>four p.2):=by
              have e1:(es.zip qs).map (fun p=>elI p.1) = es.map elI:=by
                rw [show (fun p:El × (Int × Int × Int × Int)=>elI p.1) = elI ∘ Prod.fst from rfl,← List.map_map,List.map_fst_zip (by omega)]
              have e2:(es.zip qs).map (fun p=>four p.2) = qs.map four:=by
                rw [show (fun p:El × (Int × Int × Int × Int)=>four p.2) = four ∘ Prod.snd from rfl,← List.map_map,List.map_snd_zip (by omega)]
              rw [e1,e2,z]
            exact List.map_inj_left.mp h2 p hm)
          simp [this]
      refine ⟨_,tgT_2 (Ke.kept (enc:=elE) p.1) rfl,?_⟩
      obtain ⟨e,qq⟩:=p
      simp only at hbad ho hm1 ⊢
      cases e with
      | n d=>simp [elE,ho.no d rfl,hbad (.inl rfl)]
      | t ks =>
        by_cases h4:ks.length = 4
        · simp [elE,h4]
          refine sat_cm (out:=D.bl) kdE ks whB (by simp [diP]) rfl (fun k hk=>?_) (by omega) ?_
          · simp [kdE,Zbf k.2,(ho.at_ ks rfl k hk _).2]
          · cases hb:ks.all whB with
            | true =>
              have e1:=ints_of hb
              have e2:Tpl kdE ks = Tpl D.int (intsK ks):=by rw [← ZjO,← e1]
              by_cases h5:intsK ks = four qq
              · simp [all_bl,hb,e2,Zlp,h5,-Prod.forall]
                rintro a a1 a2 a3 b (hp | ⟨rfl,rfl⟩)
                · exact hg _ hp
                · exact ⟨hb,h5⟩
              · simp [all_bl,hb,e2,Zlp,h5,hbad (.inr h5)]
            | false=>simp [all_bl,hb,hbad (.inl hb)]
        · have h4':¬ ((ks.length:Int) = 4):=by omega
          have:elI (.t ks) ≠ four qq:=fun z=>h4 (by have:=congrArg List.length z; simpa [elI,intsK,four] using this)
          simp [elE,h4,h4',hbad (.inr this)]
    · obtain ⟨hg,y,z,rfl⟩:=hI
      have e1:(es.zip qs).map Prod.fst = es:=List.map_fst_zip (by omega)
      have e2:(es.zip qs).map Prod.snd = qs:=List.map_snd_zip (by omega)
      have h1:es.all goodB = true:=by
        rw [List.all_eq_true,← e1]
        intro e he'
        obtain ⟨p,hp,rfl⟩:=List.mem_map.mp he'
        exact (hg p hp).1
      have h2:es.map elI = qs.map four:=by
        have:(es.zip qs).map (elI ∘ Prod.fst) = (es.zip qs).map (four ∘ Prod.snd):=List.map_congr_left fun p hp=>(hg p hp).2
        rw [← List.map_map,← List.map_map,e1,e2] at this
        exact this
      simp [h1,h2]
  · have hl':¬ ((es.length:Int) = qs.length):=by omega
    have:es.map elI ≠ qs.map four:=fun z=>hl (by have:=congrArg List.length z; simpa using this)
    simp [ZdT,hl,hl',this])
theorem els_ok:∀ {es:List El},(∀ e ∈ es,ElOk e) → ∃ ps,pds (es.map elE) = some ps ∧ sms ps = true ∧ PyData.depthAll ps ≤ 3 ∧ rcs ps ≤ 1002 * es.length
  | [],_=>⟨[],rfl,rfl,by simp [PyData.depthAll],by simp [rcs]⟩
  | e :: es,h=>by
    obtain ⟨p,e1,e2,e3,e4⟩:=(h e List.mem_cons_self).ex
    obtain ⟨ps,f1,f2,f3,f4⟩:=els_ok fun k hk=>h k (List.mem_cons_of_mem _ hk)
    refine ⟨p :: ps,by simp [pds,e1,f1],by simp [sms,e2,f2],by simp only [PyData.depthAll]; omega,by simp only [rcs,List.length_cons]; omega⟩
theorem repr_L (h:∀ e ∈ es,ElOk e) (hl:es.length ≤ 901):∃ x,reprD (Lst elE w es) = some (.v (.str x)):=by
  obtain ⟨ps,f1,f2,f3,f4⟩:=els_ok h
  exact ⟨_,Zn8 (d:=.list ps) (by simp [Lst,pd,f1]) (by simpa [sm] using f2) (by simp only [PyData.depth]; omega) (by simp only [rc]; omega)⟩
inductive Thg (y:D):Prop
  | no (hk:isiD "list" (lend y) = some (.v (.bl false))) (hf:y.free = true) (hr:∃ x,reprD y = some (.v (.str x)))
  | el (w:Fl) (es:List El) (hw:w ≠ .bor) (e:y = Lst elE w es) (ok:∀ e ∈ es,ElOk e) (len:es.length ≤ 901)
variable {qs:List (Int × Int × Int × Int)}
/-- what is handed in is all good: lists of lists of numbers -/
theorem Zo2 (hg:es.all goodB = true):eqD (Lst elE w es) (Lst tbE w' qs) = some (.v (.bl (decide (es.map elI = qs.map four)))):=by
  have e1:Lst elE w es = Lst (Tpl D.int) w (es.map elI):=by
    simp only [Lst,List.map_map]
    congr 1
    refine List.map_congr_left fun e he=>?_
    have h2:=List.all_eq_true.mp hg e he
    cases e with
    | n d=>cases h2
    | t ks =>
      rw [g_t] at h2
      have:=ints_of h2
      show Tpl kdE ks = Tpl D.int (intsK ks)
      rw [← ZjO,← this]
  have e2:Lst tbE w' qs = Lst (Tpl D.int) w' (qs.map four):=by
    simp only [Lst,List.map_map]
    rfl
  rw [e1,e2]
  exact eq_Lst (enc:=Tpl D.int) (ok:=fun _=>True) (by simp) (by simp)
theorem is_tab (hr:RowsOk rs) (h0:0 ≤ f) (h1:f ≤ 300) (hw:w' ≠ .own) (he:∀ e ∈ es,ElOk e):callK Zbo [Pcs w rs,.v (.int f),Lst elE w' es] s = .ok (.v (.bl (es.all goodB && decide (es.map elI = (tbl rs f).map four)))) s:=Zko hr h0 h1 hw he Zo2
theorem is_no {y:D} (hr:RowsOk rs) (h0:0 ≤ f) (h1:f ≤ 300) (hy:isiD "list" y = some (.v (.bl false))):callK Zbo [Pcs w rs,.v (.int f),y] s = .ok (.v (.bl false)) s:=Zg rfl (by
  simp [ZbM,Zk2 hr h0 h1,hy])
theorem law_no {y:D} (hy:isiD "list" y = some (.v (.bl false))):callK Zfb [y,Lst tbE w' qs] s = .ok (.v (.bl false)) s:=Zg rfl (by
  simp [ZdT,hy])
/-- both answer alike -/
theorem both {y:D} (hr:RowsOk rs) (h0:0 ≤ f) (h1:f ≤ 300) (hy:Thg y):∃ c x,y.free = true ∧ reprD y = some (.v (.str x)) ∧ ∀ s,callK Zbo [Pcs w rs,.v (.int f),lend y] s = .ok (.v (.bl c)) s ∧ callK Zfb [lend y,Lst tbE .bor (tbl rs f)] s = .ok (.v (.bl c)) s:=by
  cases hy with
  | no hk hf hx =>
    obtain ⟨x,hx⟩:=hx
    exact ⟨false,x,hf,hx,fun s=>⟨is_no hr h0 h1 hk,law_no hk⟩⟩
  | el w1 es hw e ok len =>
    obtain ⟨x,hx⟩:=repr_L (w:=w1) ok len
    subst e
    have hb:lnd w1 ≠ .own:=by cases w1 <;> simp [lnd]
    refine ⟨es.all goodB && decide (es.map elI = (tbl rs f).map four),x,by cases w1 <;> simp_all [Lst,D.free],hx,fun s=>⟨?_,?_⟩⟩
    · rw [show lend (Lst elE w1 es) = Lst elE (lnd w1) es by simp]
      exact is_tab hr h0 h1 hb ok
    · rw [show lend (Lst elE w1 es) = Lst elE (lnd w1) es by simp]
      exact Znq hb (by simp) ok (ZnQ hr)
end
end K28
end Lw
set_option maxHeartbeats 1000000
namespace Lw
namespace K11
open PySem PySem.Spec PyProof.Rows L2 Fs
/-- a thing that is the same as itself,and of which it is told whether it is a truth -/
structure Sm (n:Nat) (d:D):Prop where
  sm:sameF n d d = true
  bo:∃ b,isiD "bool" d = some (.v (.bl b))
theorem allE_refl {ρ:Type} {enc:ρ → D} {n:Nat}:∀ {ks:List ρ},(∀ a ∈ ks,sameF n (enc a) (enc a) = true) → allE (sameF n) (ks.map enc) (ks.map enc) = true
  | [],_=>rfl
  | k :: ks,h=>by
    simp only [List.map_cons,allE,Bool.and_eq_true]
    exact ⟨h k (by simp),allE_refl fun a ha=>h a (by simp [ha])⟩
theorem scE_refl {v:V} (h:sc v = true):scE v v = true:=by cases v <;> simp_all [sc,scE]
structure Fg (d:D):Prop where
  f:∃ a,d = atE a ∧ AtK a
  s:Sm 12 d
theorem Zgp:∀ (n:Nat) {x y:D},sameF n x y = true → sameF (n + 1) x y = true
  | 0,x,y,h=>by cases h
  | n + 1,x,y,h=>by
    have hall:∀ {xs ys:List D},allE (sameF n) xs ys = true → allE (sameF (n + 1)) xs ys = true:=by
      intro xs
      induction xs with
      | nil=>intro ys h; cases ys <;> first | rfl | cases h
      | cons x xs ih =>
        intro ys h
        cases ys with
        | nil=>cases h
        | cons y ys =>
          simp only [allE,Bool.and_eq_true] at h ⊢
          exact ⟨Zgp n h.1,ih h.2⟩
    have hb:boxE (sameF n) x y = true → boxE (sameF (n + 1)) x y = true:=by
      intro h
      unfold boxE at h ⊢
      split at h
      · exact hall h
      · exact hall h
      · simp only [Bool.and_eq_true] at h ⊢
        exact ⟨h.1,h.2.1,hall h.2.2⟩
      · cases h
    obtain ⟨c,hc⟩:∃ c,∀ m,sameF (m + 1) x y = (c || boxE (sameF m) x y):=⟨_,fun m=>rfl⟩
    rw [hc,Bool.or_eq_true] at h ⊢
    rcases h with h | h
    · exact .inl h
    · exact .inr (hb h)
theorem ZmV {n m:Nat} (h:n ≤ m) {x y:D} (e:sameF n x y = true):sameF m x y = true:=by
  induction h with
  | refl=>exact e
  | step _ ih=>exact Zgp _ ih
theorem Sm.mono {n m:Nat} {d:D} (h:Sm n d) (k:n ≤ m):Sm m d:=⟨ZmV k h.sm,h.bo⟩
section
variable {s:Sl} {w:Fl} {rs:List Row} {e:Rw} {a:At}
theorem ne_same {xs:List D} (h:∀ x ∈ xs,sameF 20 x x = true):neM (.n .tup .shr xs) (.n .tup .shr xs) = some (.v (.bl false)):=by
  have:tupE (sameF 20) (.n .tup .shr xs) (.n .tup .shr xs) = true:=by
    have:=allE_refl (enc:=id) (n:=20) (ks:=xs) (by simpa using h)
    simpa [tupE] using this
  unfold neM
  rw [if_pos this]
theorem eqM_i {x y:Int}:eqM (.v (.int x)) (.v (.int y)) = some (.v (.bl (decide (x = y)))):=by
  show eqD (.v (.int x)) (.v (.int y)) = _
  simp
end
theorem Fg.kept {y:D} (h:Fg y):y.kept = true:=by
  obtain ⟨⟨a,rfl,ha⟩,sa⟩:=h
  exact Ke.kept a
end K11
end Lw
set_option maxHeartbeats 1000000
namespace Lw
namespace K26
open PySem PySem.Spec PyProof.Rows L2 Fs
section
variable {s:Sl} {w w':Fl} {rs:List Row} {f:Int} {qs:List (Int × Int × Int × Int)} {a:At} {e:Rw}
def nw (n:Int):Row:=⟨"new99",n % 40,n % 40 + 9,3,2⟩
end
end K26
end Lw
set_option maxHeartbeats 1000000
namespace Lw
open PySem PySem.Spec PyProof.Rows L2 Fs
section
variable {ρ:Type} {enc:ρ → D} {xs:List ρ} {s:Sl} {w w':Fl}
theorem Zgn [Ke enc] {i n:Nat} {kd:DE} {y:D} {x:ρ} (hd:s[i]? = some (some (Lst enc .own xs))) (hk:kd s = .ok (.v (.int (n:Int))) s) (hy:frz y = enc x) (hn:n < xs.length):storeK (plV i) kd true y s = .ok .nx (s.set i (some (Lst enc .own (xs.set n x)))):=by
  have e:mSet (Lst enc .own xs) [.v (.int (n:Int)),enc x] = some (Lst enc .own (xs.set n x),.non):=by
    have h1:ixN (xs.map enc).length (n:Int) = some n:=by simp [ixN,hn]
    simp only [Lst,mSet,h1,Option.map_some,List.map_set]
  simp only [storeK,Fs.stC,plV,hd,Option.join_some,getP,D.free,ownP,Bool.and_self,if_true,hk,noX_ok,Zz,stEnd,e,hy]
  simp [Lst,getP,D.free,ownP,stEnd,hy] at e ⊢
  simp [e,hy,stEnd,setP]
end
section
variable {s:Sl} {w w':Fl} {es:List Rw} {n L:Nat}
def SpP (n L:Nat) (y:D) (ios:Sl):Prop:=∃ t w d',y = thE w t ∧ w ≠ .bor ∧ GT n L t ∧ ios = [some d',none] ∧ IsBox d'
theorem eqE_L:eqE (Lst rwE w es) (.n .lst w' []) = some (.v (.bl es.isEmpty)):=by
  cases es with
  | nil=>exact eq_nil (enc:=D.int) (w:=w) (w':=w') (xs:=[]) (by simp)
  | cons e es=>rfl
theorem eqE_T {ks:List At}:eqE (Tpl atE ks) (.n .tup .shr []) = some (.v (.bl ks.isEmpty)):=by
  cases ks with
  | nil=>exact Zo3 (enc:=D.int) (xs:=[]) (ys:=[]) (by simp) (by simp)
  | cons e es=>rfl
theorem neE_T {ks:List At}:neE (Tpl atE ks) (.n .tup .shr []) = some (.v (.bl (!ks.isEmpty))):=by
  cases ks with
  | nil=>exact Zlq (enc:=D.int) (xs:=[]) (ys:=[]) (by simp) (by simp)
  | cons e es=>rfl
theorem gt_l (h:∀ e ∈ es,GR n e) (hl:es.length ≤ L):GT n L (.l es):=⟨fun _ e=>(by cases e; exact ⟨h,hl⟩),fun _ e=>(by cases e),fun _ e=>(by cases e)⟩
theorem GT.mono {n m L K:Nat} {t:Th} (h:GT n L t) (hn:n ≤ m) (hL:L ≤ K):GT m K t:=⟨fun es q=>⟨fun e he=>((h.hl es q).1 e he).mono hn,by have:=(h.hl es q).2; omega⟩,fun es q=>⟨fun e he=>((h.ht es q).1 e he).mono hn,by have:=(h.ht es q).2; omega⟩,h.hn⟩
theorem gt_d:GT n L (.n ⟨dA,rfl⟩):=⟨fun _ e=>(by cases e),fun _ e=>(by cases e),fun _ e=>(by
  cases e
  refine ⟨rfl,rfl,.dict [(.str "a",.int 1)],rfl,?_,?_,?_⟩ <;> decide +kernel)⟩
theorem mk_rw {d:D} {e:Rw} (h:d = rwE e):mkLst [d] = some (Lst rwE .own [e]):=by subst h; simp [mkLst,frzs,Lst,Zbm (Ke.kept (enc:=rwE) e)]
theorem mkt_at {d:D} {a:At} (h:d = atE a):mkTup [d] = some (Tpl atE [a]):=by subst h; simp [mkTup,frzs,Tpl,Zbm (Ke.kept (enc:=atE) a)]
theorem put_at {ks:List At} {u:Int} {d:D} {a:At} (hd:d = atE a) (ha:GA a) (hk:∀ a ∈ ks,GA a) (hl:ks.length ≤ n) (hn:n ≤ 9) (u0:0 ≤ u) (u1:u < ks.length):∃ e,GR (n + 1) e ∧ slD [Tpl atE ks,.v .non,.v (.int u)] = some (Tpl atE (ks.take u.toNat)) ∧ slD [Tpl atE ks,.v (.int (u + 1)),.v .non] = some (Tpl atE (ks.drop (u.toNat + 1))) ∧ addA (Tpl atE (ks.take u.toNat)) (Tpl atE [a]) = some (Tpl atE (ks.take u.toNat ++ [a])) ∧ addA (Tpl atE (ks.take u.toNat ++ [a])) (Tpl atE (ks.drop (u.toNat + 1))) = some (rwE e):=by
  obtain ⟨m,rfl⟩:=Int.eq_ofNat_of_zero_le u0
  refine ⟨.t (ks.take m ++ [a] ++ ks.drop (m + 1)),⟨fun _ q=>?_,fun _ q=>(by cases q)⟩,?_,?_,Zg7 (by simp; omega),Zg7 (by simp; omega)⟩
  · cases q
    refine ⟨fun b hb=>?_,by simp; omega⟩
    simp at hb
    rcases hb with q | rfl | q
    · exact hk b (List.mem_of_mem_take q)
    · exact ha
    · exact hk b (List.mem_of_mem_drop q)
  · rw [sl_Tpl rfl rfl,ZdG (by omega)]; rfl
  · rw [show ((m:Int) + 1) = ((m + 1:Nat):Int) by omega,sl_Tpl rfl rfl,ZdF]; rfl
theorem Zov {α:Type} {l:List α} {i:Nat} {a x:α} (h:x ∈ l.set i a):x = a ∨ x ∈ l:=by
  rcases List.mem_or_eq_of_mem_set h with q | q
  · exact .inr q
  · exact .inl q
theorem Zlf:∀ k:Nat,(List.replicate k es).flatten.length = k * es.length
  | 0=>by simp
  | k + 1=>by rw [List.replicate_succ,List.flatten_cons,List.length_append,Zlf k,Nat.add_mul]; omega
theorem mul31 (h:es.length ≤ 1000):∃ RR,mulA (Lst rwE .own es) (.v (.int 31)) = some (Lst rwE .own RR) ∧ RR.length = 31 * es.length ∧ ∀ e ∈ RR,e ∈ es:=by
  refine ⟨(List.replicate 31 es).flatten,?_,Zlf 31,fun e he=>?_⟩
  · simp only [Lst,mulA]
    rw [if_pos ⟨by decide,by decide,by simpa using h,Zbb es⟩,List.map_flatten,List.map_replicate]
    rfl
  · obtain ⟨l,hl,hl2⟩:=List.mem_flatten.mp he
    rw [(List.mem_replicate.mp hl).2] at hl2
    exact hl2
theorem Zhm {d:D} (hd:IsBox d) (hw:w ≠ .own) (hes:∀ e ∈ es,GR n e) (hn4:4 ≤ n) (hn:n ≤ 9) (hL:es.length ≤ L) (hL1:31 ≤ L) (hL2:L ≤ 60):sat (Zgl [d,Lst rwE w es]) (SpP (n + 1) (L + 1)):=by
  refine sat_F' rfl ?_
  have hm:mkLst [] = some (.n .lst .own []):=rfl
  have hmt:mkTup [] = some (.n .tup .shr []):=rfl
  obtain ⟨R,hR⟩:∃ R,R = Lst rwE w es:=⟨_,rfl⟩
  have hl1:listD R = some (Lst rwE .own es):=by rw [hR]; simp
  rw [← hR]
  simp [Zd1,hd.free,hl1]
  refine Zf (ZmL hd) ?_
  rintro q _ ⟨d1,tq,kq,b1,rfl⟩
  simp [b1.free]
  refine Zf (Zn b1 (by decide) (by decide)) ?_
  rintro _ _ ⟨v,d2,rfl,rfl,v0,v1,b2⟩
  have hq:Option.filter D.kept (some q) = some q:=by simp [Option.filter,kq]
  obtain ⟨eq,eq1,eq2⟩:=tq.r
  have hes1:∀ e ∈ es,GR (n + 1) e:=fun e he=>(hes e he).mono (by omega)
  have eq3:GR (n + 1) eq:=eq2.mono (by omega)
  by_cases hz:v = 0 ∨ es = []
  · have hz':v = 0 ∨ v ≠ 0 ∧ es = []:=by by_cases z:v = 0 <;> simp_all
    have a1:addA (Lst rwE .own es) (Lst rwE .own [eq]) = some (Lst rwE .own (es ++ [eq])):=Zc8 (by simp; omega)
    have a2:addA (Lst rwE .own [eq]) (Lst rwE .own es) = some (Lst rwE .own (eq :: es)):=Zc8 (xs:=[eq]) (by simp; omega)
    have e0:∀ s,dDisp [((pC (.str "a")),(dP (pC (.int 1))))] s = .ok (.n (.dct [.inr "a"]) .own [.v (.int 1)]) s:=fun _=>rfl
    obtain ⟨tt,tt1,tt2⟩:=tq.t
    have tt3:GT (n + 1) (L + 1) tt:=tt2.mono (by omega) (by omega)
    have m4:∃ M,mkLst [q,Lst rwE .own (es ++ [eq]),Lst rwE .own (eq :: es),.n (.dct [.inr "a"]) .own [.v (.int 1)]] = some M ∧ ∀ x:Int,0 ≤ x → x < 4 → ∃ t,ixK M (.v (.int x)) = some (thE .shr t) ∧ GT (n + 1) (L + 1) t:=by
      refine ⟨.n .lst .own [q,Lst rwE .shr (es ++ [eq]),Lst rwE .shr (eq :: es),dA],?_,?_⟩
      · simp only [mkLst,Zf2,ZjC,Zbm kq,ZlY,ZlX]
        rfl
      · intro x x0 x1
        have:x = 0 ∨ x = 1 ∨ x = 2 ∨ x = 3:=by omega
        rcases this with rfl | rfl | rfl | rfl
        · refine ⟨tt,?_,tt3⟩
          rw [← tt1]
          show Option.filter D.kept (some q) = _
          exact hq
        · exact ⟨.l (es ++ [eq]),rfl,gt_l (fun e he=>(List.mem_append.mp he).elim (hes1 e) (fun z=>by rw [List.mem_singleton.mp z]; exact eq3)) (by simp; omega)⟩
        · exact ⟨.l (eq :: es),rfl,gt_l (fun e he=>(List.mem_cons.mp he).elim (fun z=>by rw [z]; exact eq3) (hes1 e)) (by simp; omega)⟩
        · exact ⟨.n ⟨dA,rfl⟩,rfl,gt_d⟩
    obtain ⟨M,m4,m5⟩:=m4
    have fin:∀ {P:D → Sl → Prop} {s:Sl} (x:Int),0 ≤ x → x < 4 → (∀ t,GT (n + 1) (L + 1) t → P (thE .shr t) s) → sat (Out.ofO (ixK M (.v (.int x))) s) P:=fun x x0 x1 hP=>by
      obtain ⟨t,e1,e2⟩:=m5 x x0 x1
      rw [e1]
      exact ⟨_,_,rfl,hP t e2⟩
    rcases hz' with hz | ⟨hz1,hz⟩
    · simp [b2.free,hz,hq,mk_rw eq1,a1,a2,e0,m4,-List.map_append,-List.cons_append]
      refine Zf (Zn b2 (by decide) (by decide)) ?_
      rintro _ _ ⟨x,d3,rfl,rfl,x0,x1,b3⟩
      simp [b3.free]
      exact fin x x0 x1 fun t ht=>⟨t,.shr,d3,rfl,by simp,ht,rfl,b3⟩
    · have hE:eqE (Lst rwE .own es) (.n .lst .own []) = some (.v (.bl true)):=by rw [eqE_L,hz]; rfl
      simp [b2.free,hz1,hm,hE,hq,mk_rw eq1,a1,a2,e0,m4,-List.map_append,-List.cons_append]
      refine Zf (Zn b2 (by decide) (by decide)) ?_
      rintro _ _ ⟨x,d3,rfl,rfl,x0,x1,b3⟩
      simp [b3.free]
      exact fin x x0 x1 fun t ht=>⟨t,.shr,d3,rfl,by simp,ht,rfl,b3⟩
  · have hz1:v ≠ 0:=fun z=>hz (.inl z)
    have hz2:es ≠ []:=fun z=>hz (.inr z)
    have hE:eqE (Lst rwE .own es) (.n .lst .own []) = some (.v (.bl false)):=by rw [eqE_L]; cases es with | nil=>exact absurd rfl hz2 | cons _ _=>rfl
    have hp:0 < es.length:=List.length_pos_iff.mpr hz2
    simp [b2.free,hz1,hm,hE]
    refine Zf (Zn b2 (by omega) (by omega)) ?_
    rintro _ _ ⟨u,d3,rfl,rfl,u0,u1,b3⟩
    obtain ⟨e,he,hix,_,ie⟩:=Zcx (enc:=rwE) (w:=.own) (xs:=es) (i:=u) u0 u1
    obtain ⟨m,rfl⟩:=Int.eq_ofNat_of_zero_le u0
    have hm1:m < es.length:=by omega
    have ge:=hes e he
    have hfe:Option.filter D.kept (some (rwE e)) = some (rwE e):=by simp [Option.filter,Ke.kept]
    simp [b3.free,ie,hfe]
    have fin:∀ {es':List Rw} {d':D} {y1 y3 y4 y5 y6 y7 y8 y9:Option D},IsBox d' → (∀ e ∈ es',GR (n + 1) e) → es'.length ≤ L + 1 → sat (dMv 2 [some d',y1,some (Lst rwE .own es'),y3,y4,y5,y6,y7,y8,y9]) fun a s=>SpP (n + 1) (L + 1) a (ioF [true,false] s):=fun {es' d' y1 y3 y4 y5 y6 y7 y8 y9} hb h1 h2=>by
      simp [dMv,Lst,D.free,ioF]
      exact ⟨.l es',.own,d',rfl,by simp,gt_l h1 h2,rfl,hb⟩
    cases e with
    | n x =>
      have:=(ge.n x rfl).1
      simp [rwE,this]
      exact fin b3 hes1 (by omega)
    | t ks =>
      obtain ⟨gk,gl⟩:=ge.t ks rfl
      by_cases hk0:ks = []
      · have hT:eqE (Tpl atE ks) (.n .tup .shr []) = some (.v (.bl true)):=by rw [eqE_T,hk0]; rfl
        simp [rwE,hmt,hT]
        exact fin b3 hes1 (by omega)
      · have hT:eqE (Tpl atE ks) (.n .tup .shr []) = some (.v (.bl false)):=by rw [eqE_T]; cases ks with | nil=>exact absurd rfl hk0 | cons _ _=>rfl
        have hkp:0 < ks.length:=List.length_pos_iff.mpr hk0
        simp [rwE,hmt,hT,b3.free]
        refine Zf (Zn b3 (by omega) (by omega)) ?_
        rintro _ _ ⟨x,d4,rfl,rfl,x0,x1,b4⟩
        have st:∀ {y:D} {e':Rw} {y8 y9:Option D} {d':D},frz y = rwE e' → storeK (plV 2) (dP (pVar 5)) true y [some d',some R,some (Lst rwE .own es),some q,some (.v (.int v)),some (.v (.int (m:Int))),some (Tpl atE ks),some (.v (.int x)),y8,y9] = .ok .nx [some d',some R,some (Lst rwE .own (es.set m e')),some q,some (.v (.int v)),some (.v (.int (m:Int))),some (Tpl atE ks),some (.v (.int x)),y8,y9]:=fun h=>Zgn (i:=2) (n:=m) rfl rfl h hm1
        have gset:∀ {e':Rw},GR (n + 1) e' → (∀ e ∈ es.set m e',GR (n + 1) e) ∧ (es.set m e').length ≤ L + 1:=fun h=>⟨fun e he=>(Zov he).elim (fun z=>by rw [z]; exact h) (hes1 e),by simp; omega⟩
        simp [b4.free]
        by_cases w5:v < 5
        · obtain ⟨a,ea,ga⟩:=tq.a
          obtain ⟨e',g',s1,s2,s3,s4⟩:=put_at ea ga gk gl hn x0 x1
          simp [w5,hq,mkt_at ea,s1,s2,s3,s4,st (Zbm (Ke.kept (enc:=rwE) e'))]
          exact fin b4 (gset g').1 (gset g').2
        · simp [w5]
          by_cases w8:v < 8
          · have hb:powD (.v (.int 10)) (.v (.int 20)) = some (.v (.int 100000000000000000000)):=rfl
            have mk9:mkLst [D.v (.int (-1)),.v (.int 0),.v (.int 1),.v (.int 12),.v (.int 13),.v (.int 199),.v (.int 200),.v (.int 201),.v (.int 100000000000000000000)] = some (Lst D.int .own [-1,0,1,12,13,199,200,201,100000000000000000000]):=rfl
            simp [w8,b4.free,hb,mk9]
            refine Zf (Zn b4 (by decide) (by decide)) ?_
            rintro _ _ ⟨y,d5,rfl,rfl,y0,y1,b5⟩
            obtain ⟨i,hi,_,e1,_⟩:=Zcx (enc:=D.int) (w:=.own) (xs:=[-1,0,1,12,13,199,200,201,100000000000000000000]) (i:=y) y0 (by simpa using y1)
            obtain ⟨e',g',s1,s2,s3,s4⟩:=put_at (a:=.i i) (d:=.v (.int i)) rfl (ga_i (by simp at hi; omega)) gk gl hn x0 x1
            simp [b5.free,e1,mkt_at (a:=.i i) (d:=.v (.int i)) rfl,s1,s2,s3,s4,st (Zbm (Ke.kept (enc:=rwE) e'))]
            exact fin b5 (gset g').1 (gset g').2
          · simp [w8]
            by_cases w88:v = 8
            · have s3:slD [Tpl atE ks,.v .non,.v (.int 3)] = some (Tpl atE (cutD ks none (some 3))):=sl_Tpl rfl rfl
              have a3:addA (Tpl atE ks) (Tpl atE [.i 0]) = some (Tpl atE (ks ++ [.i 0])):=Zg7 (by simp; omega)
              have ng:negD (.v (.int 1)) = some (.v (.int (-1))):=rfl
              have rv:revX [Tpl atE ks,.v (.int (-1))] = some (Tpl atE ks.reverse):=by
                simp only [Tpl,revX]
                rw [if_pos ⟨by trivial,Zbb ks⟩,List.map_reverse]
              have ml:mkLst [Tpl atE (cutD ks none (some 3)),Tpl atE (ks ++ [.i 0]),Lst atE .own ks,Tpl atE ks.reverse] = some (Lst rwE .own [.t (cutD ks none (some 3)),.t (ks ++ [.i 0]),.n ⟨Lst atE .shr ks,rfl⟩,.t ks.reverse]):=by
                simp only [mkLst,Zf2,ZjC,ZoZ,ZlY,ZlX]
                rfl
              simp [w88,b4.free,s3,mkt_at (a:=.i 0) (d:=.v (.int 0)) rfl,a3,ng,rv,ml,-List.map_append,-List.map_reverse]
              refine Zf (Zn b4 (by decide) (by decide)) ?_
              rintro _ _ ⟨y,d5,rfl,rfl,y0,y1,b5⟩
              obtain ⟨e',he',_,e1,_⟩:=Zcx (enc:=rwE) (w:=.own) (xs:=[.t (cutD ks none (some 3)),.t (ks ++ [.i 0]),.n ⟨Lst atE .shr ks,rfl⟩,.t ks.reverse]) (i:=y) y0 (by simpa using y1)
              have g':GR (n + 1) e':=by
                simp only [List.mem_cons,List.not_mem_nil,or_false] at he'
                rcases he' with rfl | rfl | rfl | rfl
                · refine ⟨fun _ z=>?_,fun _ z=>(by cases z)⟩
                  cases z
                  have hc:∀ a ∈ cutD ks none (some 3),a ∈ ks:=fun a ha=>by
                    unfold Fs.cutD at ha
                    first | exact List.mem_of_mem_take (List.mem_of_mem_drop ha) | exact List.mem_of_mem_drop (List.mem_of_mem_take ha)
                  have hl':(cutD ks none (some 3)).length ≤ ks.length:=by simp only [Fs.cutD,List.length_drop,List.length_take]; omega
                  exact ⟨fun a ha=>gk a (hc a ha),by omega⟩
                · refine ⟨fun _ z=>?_,fun _ z=>(by cases z)⟩
                  cases z
                  exact ⟨fun a ha=>(List.mem_append.mp ha).elim (gk a) (fun z=>by rw [List.mem_singleton.mp z]; exact ga_i (by decide)),by simp; omega⟩
                · refine ⟨fun _ z=>(by cases z),fun _ z=>?_⟩
                  cases z
                  refine ⟨rfl,(rep_L (enc:=atE) (b:=1100) (dep:=3) fun a ha=>(gk a ha).r).mono ?_ (by decide)⟩
                  have:ks.length ≤ 9:=by omega
                  omega
                · refine ⟨fun _ z=>?_,fun _ z=>(by cases z)⟩
                  cases z
                  exact ⟨fun a ha=>gk a (List.mem_reverse.mp ha),by simp; omega⟩
              have w88':=w88
              subst w88
              simp [b5.free,e1,st (Zbm (Ke.kept (enc:=rwE) e'))]
              exact fin b5 (gset g').1 (gset g').2
            · simp [w88]
              by_cases w9:v = 9
              · simp [w9]
                refine ZgG (enc:=rwE) (xs:=es) (.t ks) rfl (by simp [ie,hfe]) (by omega) ?_
                simp
                exact fin b4 (fun e he=>(List.mem_append.mp he).elim (hes1 e) (fun z=>by rw [List.mem_singleton.mp z]; exact ge.mono (by omega))) (by simp; omega)
              · simp [w9]
                by_cases w10:v = 10
                · simp [w10,b4.free]
                  refine Zf (Zn b4 (by omega) (by omega)) ?_
                  rintro _ _ ⟨y,d5,rfl,rfl,y0,y1,b5⟩
                  obtain ⟨e2,he2,_,ie2,_⟩:=Zcx (enc:=rwE) (w:=.own) (xs:=es) (i:=y) y0 y1
                  have w10':=w10
                  subst w10
                  simp [b5.free,ie2]
                  cases e2 with
                  | n x2 =>
                    have:=((hes _ he2).n x2 rfl).1
                    simp [rwE,this]
                    exact fin b5 hes1 (by omega)
                  | t ks2 =>
                    obtain ⟨gk2,gl2⟩:=(hes _ he2).t ks2 rfl
                    by_cases hk2:ks2 = []
                    · have hN:neE (Tpl atE ks2) (.n .tup .shr []) = some (.v (.bl false)):=by rw [neE_T,hk2]; rfl
                      simp [rwE,hN,hmt]
                      exact fin b5 hes1 (by omega)
                    · have hN:neE (Tpl atE ks2) (.n .tup .shr []) = some (.v (.bl true)):=by rw [neE_T]; cases ks2 with | nil=>exact absurd rfl hk2 | cons _ _=>rfl
                      have c1:slD [Tpl atE ks2,.v .non,.v (.int 1)] = some (Tpl atE (ks2.take 1)):=by
                        rw [sl_Tpl rfl rfl,show (1:Int) = ((1:Nat):Int) from rfl,ZdG (List.length_pos_iff.mpr hk2)]
                      have c2:slD [Tpl atE ks,.v (.int 1),.v .non] = some (Tpl atE (ks.drop 1)):=by
                        rw [sl_Tpl rfl rfl,show (1:Int) = ((1:Nat):Int) from rfl,ZdF]
                      have c3:addA (Tpl atE (ks2.take 1)) (Tpl atE (ks.drop 1)) = some (rwE (.t (ks2.take 1 ++ ks.drop 1))):=Zg7 (by simp; omega)
                      have g':GR (n + 1) (.t (ks2.take 1 ++ ks.drop 1)):=by
                        refine ⟨fun _ z=>?_,fun _ z=>(by cases z)⟩
                        cases z
                        exact ⟨fun a ha=>(List.mem_append.mp ha).elim (fun z=>gk2 a (List.mem_of_mem_take z)) (fun z=>gk a (List.mem_of_mem_drop z)),by simp; omega⟩
                      have st':=@st (rwE (.t (ks2.take 1 ++ ks.drop 1))) (.t (ks2.take 1 ++ ks.drop 1)) none (some (Tpl atE ks2)) d5 (Zbm (Ke.kept (enc:=rwE) (.t (ks2.take 1 ++ ks.drop 1))))
                      obtain ⟨G1,G2⟩:=gset g'
                      obtain ⟨A,hA⟩:∃ A,A = ks2.take 1:=⟨_,rfl⟩
                      obtain ⟨B,hB⟩:∃ B,B = ks.drop 1:=⟨_,rfl⟩
                      rw [← hA,← hB] at c3 st' G1 G2
                      rw [← hA] at c1
                      rw [← hB] at c2
                      obtain ⟨E,hEe⟩:∃ E,E = Rw.t (A ++ B):=⟨_,rfl⟩
                      rw [← hEe] at c3 st' G1 G2
                      simp only [rwE] at st' ⊢
                      simp [hN,hmt,c1,c2]
                      simp only [rwE] at c3
                      simp [c3,st']
                      exact fin b5 G1 G2
                · obtain ⟨RR,mu,hfl,hmem⟩:=mul31 (es:=es) (by omega)
                  simp [w10,b4.free,mu,mkI3]
                  refine Zf (Zn b4 (by decide) (by decide)) ?_
                  rintro _ _ ⟨y,d5,rfl,rfl,y0,y1,b5⟩
                  obtain ⟨k,hk,_,e1,_⟩:=Zcx (enc:=D.int) (w:=.own) (xs:=[29,30,31]) (i:=y) y0 (by simpa using y1)
                  have hk':0 ≤ k ∧ k ≤ 31:=by simp at hk; omega
                  obtain ⟨kn,rfl⟩:=Int.eq_ofNat_of_zero_le hk'.1
                  have sl:slD [Lst rwE .own RR,.v .non,.v (.int (kn:Int))] = some (Lst rwE .own (RR.take kn)):=by
                    rw [sl_Lst rfl rfl,ZdG (by rw [hfl]; omega)]
                  have eI:intP (.v (.int (kn:Int))) = some (.v (.int (kn:Int))):=rfl
                  simp [b5.free,e1,sl,eI]
                  exact fin b5 (fun e he=>hes1 e (hmem e (List.mem_of_mem_take he))) (by rw [List.length_take]; omega)
end
end Lw
set_option maxHeartbeats 1000000
namespace Lw
namespace K04
open PySem PySem.Spec PyProof.Rows L2 Fs
theorem Zjs:∀ c ∈ LF,c < 128:=by decide +kernel
theorem ZgP:∀ c ∈ LT,c < 128:=by decide +kernel
theorem name_small {cs:List Nat} (h:nameB cs = true):∀ c ∈ cs,c < 128:=by
  intro c hc
  cases cs with
  | nil=>simp at hc
  | cons x xs =>
    simp only [nameB,Bool.and_eq_true,decide_eq_true_eq] at h
    rcases List.mem_cons.mp hc with rfl | q
    · first | exact ZgP _ h.1.2 | exact ZgP _ h.2.1 | exact ZgP _ h.1.1.2
    · have:=h.2
      simp only [List.all_eq_true,decide_eq_true_eq] at this
      first | exact Zjs c (this.2 c hc) | exact Zjs c (this c hc)
end K04
end Lw
set_option maxHeartbeats 1000000
namespace Lw
end Lw
set_option maxHeartbeats 1000000
namespace Lw
namespace K32
open PySem PySem.Spec PyProof.Rows L2 Fs
section
variable {ρ:Type} {enc:ρ → D} {s:Sl} {w w':Fl} {rs:List Row} {f:Int} {p:Int × Int} {a:At} {e:Rw}
theorem neX_tup {xs:List D} (h:∀ x ∈ xs,sameF 20 x x = true):neX (.n .tup .shr xs) (.n .tup .shr xs) = some (.v (.bl false)):=by
  show neM _ _ = _
  exact K11.ne_same h
theorem sm_sc {v:V} (h:sc v = true):sameF 20 (.v v) (.v v) = true:=by simp [sameF,K11.scE_refl h]
end
end K32
end Lw
set_option maxHeartbeats 1000000
namespace Lw
namespace K03
open PySem PySem.Spec PyProof.Rows L2 Fs
def M1 (ns:List Int) (k:Nat) (rs os:List Row) (d:D) (s:Sl):Prop:=∃ w hs x8 x10,w ≠ .bor ∧ s = [some (.s ns),some (.v (.int (k:Int))),some d,some (Lst rowD .own rs),some (Lst rowG .own hs),some (Lst rowD .own os),some (Pcs w rs),some (Pcs .own os),x8,none,x10]
def MI (ns:List Int) (s:Sl):Prop:=∃ x1 x2 x3 x4 x5 x6 x7 x8 x10,s = [some (.s ns),x1,x2,x3,x4,x5,x6,x7,x8,none,x10]
end K03
end Lw
set_option maxHeartbeats 1000000
namespace Lw
end Lw
set_option maxHeartbeats 1000000
namespace Lw
end Lw
namespace Lw
open PySem PySem.Spec PyProof.Rows L2 Fs
def L_law_due_3_4:DS:=(dsRet (dFr (dF mkTup (daCons (dP (pC (.str "rows"))) (daCons (dN (f2 addA) [.k (pVar 0),.v (dF mkLst (daCons (dN slD [.v (dN (f2 addA) [.k (pVar 3),.v (dN slD [.k (pVar 3),.k (pUn intP (pC (.int 3))),.k (pUn intP (pC (.int 4)))])]),.k (pC .non),.k (pUn intP (pC (.int 5)))]) daNil))]) daNil)))))
@[simp] theorem ZmA {s:Sl}:type_of% (congrFun L_law_due_3_4.eq_1 s):=congrFun L_law_due_3_4.eq_1 s
def ZeT:DS:=(dsSeq (dsIf (dtV (dN (f1 notND) [.k (pVar 5)])) (dsRet (dN (f2 addA) [.v (dFr (dF mkTup (daCons (dP (pC (.str "bad"))) daNil))),.k (pVar 5)])) dsNext) L_law_due_3_4)
@[simp] theorem ZmB {s:Sl}:type_of% (show ZeT s = _ from Fs.sq_c):=Fs.sq_c
def ZeU:DS:=(dsSeq (dsAsg (dCall ZN (daCons (dFr (dN (f2 addA) [.k (pVar 0),.v (dF mkLst (daCons (dP (pVar 3)) daNil))])) daNil)) (tgN 5)) ZeT)
@[simp] theorem ZmC {s:Sl}:type_of% (show ZeU s = _ from Fs.sq_c):=Fs.sq_c
def L_law_due_3_7:DS:=(dsRet (dFr (dF mkTup (daCons (dP (pC (.str "rows"))) (daCons (dComp true [6] (diP (itA true) (pVar 0)) (tgN 6) dtYes (dN (f2 addA) [.v (dFr (dF mkTup (daCons (dP (pOp ixD (pVar 6) (pC (.int 0)))) (daCons (dN (f2 minD) [.v (dN (f2 maxD) [.k (pOp ixD (pVar 6) (pC (.int 1))),.k (pVar 4)]),.v (dN (f2 addA) [.k (pOp ixD (pVar 6) (pC (.int 2))),.k (pC (.int 1))])]) daNil)))),.v (dN slD [.k (pVar 6),.k (pUn intP (pC (.int 2))),.k (pC .non)])])) daNil)))))
@[simp] theorem Zmx {s:Sl}:type_of% (congrFun L_law_due_3_7.eq_1 s):=congrFun L_law_due_3_7.eq_1 s
def ZeR:DS:=(dsSeq (dsIf (dtOr (dtNot (dtV (dCall Zq (daLend (pVar 4) daNil)))) (dtNot (dtV (dCh leD leD (dP (pC (.int 0))) (dP (pVar 4)) (dP (pC (.int 200))))))) (dsRet (dFr (dF mkTup (daCons (dP (pC (.str "turn"))) (daCons (dP (pVar 4)) daNil))))) dsNext) L_law_due_3_7)
@[simp] theorem Zmy {s:Sl}:type_of% (show ZeR s = _ from Fs.sq_c):=Fs.sq_c
def L_law_due_3_12:DS:=(dsRet (dFr (dF mkTup (daCons (dP (pC (.str "rows"))) (daCons (dN (f2 addA) [.v (dN slD [.k (pVar 0),.k (pC .non),.k (pUn intP (pVar 8))]),.v (dN slD [.k (pVar 0),.v (d1 intP (dN (f2 addA) [.k (pVar 8),.k (pC (.int 1))])),.k (pC .non)])]) daNil)))))
@[simp] theorem ZkP {s:Sl}:type_of% (congrFun L_law_due_3_12.eq_1 s):=congrFun L_law_due_3_12.eq_1 s
def L_law_due_3_15:DS:=(dsAsg (dN (f2 addA) [.v (dN slD [.k (pOp ixD (pVar 0) (pVar 8)),.k (pC .non),.k (pUn intP (pC (.int 4)))]),.v (dFr (dF mkTup (daCons (dP (pVar 4)) daNil)))]) (tgN 6))
@[simp] theorem ZkM {s:Sl}:type_of% (congrFun L_law_due_3_15.eq_1 s):=congrFun L_law_due_3_15.eq_1 s
def L_law_due_3_19:DS:=(dsRet (dFr (dF mkTup (daCons (dP (pC (.str "rows"))) (daCons (dFz 9) daNil)))))
@[simp] theorem ZkI {s:Sl}:type_of% (congrFun L_law_due_3_19.eq_1 s):=congrFun L_law_due_3_19.eq_1 s
def Zd4:DS:=(dsSeq (dsIf (dtV (dN (f1 notND) [.k (pVar 5)])) (dsRet (dN (f2 addA) [.v (dFr (dF mkTup (daCons (dP (pC (.str "bad"))) daNil))),.k (pVar 5)])) dsNext) L_law_due_3_19)
@[simp] theorem ZkJ {s:Sl}:type_of% (show Zd4 s = _ from Fs.sq_c):=Fs.sq_c
def Zd5:DS:=(dsSeq (dsAsg (dCall ZN (daLend (pVar 9) daNil)) (tgN 5)) Zd4)
@[simp] theorem ZkK {s:Sl}:type_of% (show Zd5 s = _ from Fs.sq_c):=Fs.sq_c
def Zd6:DS:=(dsSeq (dsAsg (dN (f2 addA) [.v (dN (f2 addA) [.v (dN slD [.k (pVar 0),.k (pC .non),.k (pUn intP (pVar 8))]),.v (dF mkLst (daCons (dP (pVar 6)) daNil))]),.v (dN slD [.k (pVar 0),.v (d1 intP (dN (f2 addA) [.k (pVar 8),.k (pC (.int 1))])),.k (pC .non)])]) (tgN 9)) Zd5)
@[simp] theorem ZkL {s:Sl}:type_of% (show Zd6 s = _ from Fs.sq_c):=Fs.sq_c
def Zd7:DS:=(dsSeq (dsIf (dtV (dN (f2 eqD) [.k (pVar 2),.k (pC (.str "left"))])) L_law_due_3_15 dsNext) Zd6)
@[simp] theorem ZkN {s:Sl}:type_of% (show Zd7 s = _ from Fs.sq_c):=Fs.sq_c
def Zd8:DS:=(dsSeq (dsAsg (dN (f2 addA) [.v (dN (f2 addA) [.v (dN slD [.k (pOp ixD (pVar 0) (pVar 8)),.k (pC .non),.k (pUn intP (pC (.int 2)))]),.v (dFr (dF mkTup (daCons (dP (pVar 4)) daNil)))]),.v (dN slD [.k (pOp ixD (pVar 0) (pVar 8)),.k (pUn intP (pC (.int 3))),.k (pC .non)])]) (tgN 6)) Zd7)
@[simp] theorem ZkO {s:Sl}:type_of% (show Zd8 s = _ from Fs.sq_c):=Fs.sq_c
def Zd9:DS:=(dsSeq (dsIf (dtV (dN (f2 eqD) [.k (pVar 2),.k (pC (.str "without"))])) L_law_due_3_12 dsNext) Zd8)
@[simp] theorem ZkQ {s:Sl}:type_of% (show Zd9 s = _ from Fs.sq_c):=Fs.sq_c
def Zea:DS:=(dsSeq (dsAsg (dN indexD [.k (pUn (tyF "list") (pVar 7)),.k (pVar 3)]) (tgN 8)) Zd9)
@[simp] theorem ZkR {s:Sl}:type_of% (show Zea s = _ from Fs.sq_c):=Fs.sq_c
def ZeP:DS:=(dsSeq (dsIf (dtOr (dtNot (dtV (dN (f1 (isiD "str")) [.k (pVar 3)]))) (dtV (dN (f2 notinD) [.k (pVar 3),.k (pVar 7)]))) (dsRet (dFr (dF mkTup (daCons (dP (pC (.str "piece"))) (daCons (dP (pVar 3)) daNil))))) dsNext) Zea)
@[simp] theorem Zmv {s:Sl}:type_of% (show ZeP s = _ from Fs.sq_c):=Fs.sq_c
def ZeQ:DS:=(dsSeq (dsAsg (dComp true [6] (diP (itA true) (pVar 0)) (tgN 6) dtYes (dP (pOp ixD (pVar 6) (pC (.int 0))))) (tgN 7)) ZeP)
@[simp] theorem Zmw {s:Sl}:type_of% (show ZeQ s = _ from Fs.sq_c):=Fs.sq_c
def ZeS:DS:=(dsSeq (dsIf (dtV (dN (f2 eqD) [.k (pVar 2),.k (pC (.str "since"))])) ZeR dsNext) ZeQ)
@[simp] theorem Zmz {s:Sl}:type_of% (show ZeS s = _ from Fs.sq_c):=Fs.sq_c
def ZeV:DS:=(dsSeq (dsIf (dtV (dN (f2 eqD) [.k (pVar 2),.k (pC (.str "more"))])) ZeU dsNext) ZeS)
@[simp] theorem ZmD {s:Sl}:type_of% (show ZeV s = _ from Fs.sq_c):=Fs.sq_c
def Zg8:DS:=(dsSeq (dsAsg (dP (pVar 1)) (tgL [tgN 2,tgN 3,tgN 4])) ZeV)
@[simp] theorem ZmE {s:Sl}:type_of% (show Zg8 s = _ from Fs.sq_c):=Fs.sq_c
end Lw
set_option maxHeartbeats 1000000
namespace Lw
end Lw
set_option maxHeartbeats 1000000
namespace Lw
namespace K06
open PySem PySem.Spec PyProof.Rows L2 Fs K03 K04 K11
section
variable {s:Sl} {w w':Fl} {rs:List Row} {a b:At} {es:List Rw}
theorem notN_faultE {es:List Rw}:notND (faultE (rowsF es)) = some (.v (.bl (rowsF es).isSome)):=by
  cases rowsF es with
  | none=>rfl
  | some p=>obtain ⟨d,y⟩:=p; rfl
theorem bad_add {d:D} {y:String} (hd:d.kept = true):addA (.n .tup .shr [.v (.str "bad")]) (tellD d y) = some (.n .tup .shr [.v (.str "bad"),d,wordD y]):=by
  have h0:D.kept (wordD y) = true:=rfl
  have h1:D.kept (.v (.str "bad")) = true:=rfl
  simp [addA,tellD,hd,h0,h1]
theorem lfault_own {es:List Rw} (h:∀ e ∈ es,RwK e) (w:Fl) (hw:w ≠ .own):∀ s,callK ZN [Lst rwE w es] s = .ok (faultE (rowsF es)) s:=fun s=>ZnB (s:=s) (w:=w) (t:=.l es) ⟨fun _ q=>(by cases q; exact h),fun _ q=>(by cases q),fun _ q=>(by cases q)⟩ hw
theorem five_sl {e:Rw} {kn:List Str} (h:Good kn e):∃ Y Z:D,slD [rwE e,.v (.int 3),.v (.int 4)] = some Y ∧ addA (rwE e) Y = some Z ∧ slD [Z,.v .non,.v (.int 5)] = some (rowD (rowOf e)):=by
  rcases h.is with q | ⟨q,hk⟩
  · rw [q]
    exact ⟨_,_,rfl,rfl,rfl⟩
  · rw [q]
    generalize rowOf e = r at hk
    obtain ⟨z,a,b,l,k⟩:=r
    simp only at hk
    subst hk
    exact ⟨_,_,rfl,rfl,rfl⟩
theorem ZjB:∀ {es:List Rw} {kn:List Str} {n:Nat},gof kn n es = none → ∀ e ∈ es,∃ kn',Good kn' e
  | [],_,_,_,e,he=>by simp at he
  | x :: es,kn,n,h,e,he=>by
    unfold gof at h
    cases hf:flt kn x with
    | some y=>rw [hf] at h; simp at h
    | none =>
      rw [hf] at h
      rcases List.mem_cons.mp he with rfl | q
      · exact ⟨kn,Zfr hf⟩
      · exact ZjB h e q
theorem rows_good {es:List Rw} (h:rowsF es = none):∀ e ∈ es,∃ kn',Good kn' e:=by
  unfold rowsF at h
  split at h
  · cases h
  · exact ZjB (by simpa using h)
end
end K06
end Lw
set_option maxHeartbeats 1000000
namespace Lw
end Lw
namespace Lw
open PySem PySem.Spec PyProof.Rows L2 Fs
def L_law_spoilt_2_6:DS:=(dsRet (dN (f2 addA) [.v (dN (f2 addA) [.v (dN slD [.k (pVar 1),.k (pC .non),.k (pUn intP (pVar 4))]),.k (pVar 5)]),.v (dN slD [.k (pVar 1),.k (pUn intP (pVar 4)),.k (pC .non)])]))
@[simp] theorem ZjT {s:Sl}:type_of% (congrFun L_law_spoilt_2_6.eq_1 s):=congrFun L_law_spoilt_2_6.eq_1 s
def L_law_spoilt_2_8:DS:=(dsRet (dN (f2 addA) [.v (dN slD [.k (pVar 1),.k (pC .non),.k (pUn intP (pVar 4))]),.v (dN slD [.k (pVar 1),.v (d1 intP (dN (f2 addA) [.k (pVar 4),.k (pC (.int 1))])),.k (pC .non)])]))
@[simp] theorem ZjR {s:Sl}:type_of% (congrFun L_law_spoilt_2_8.eq_1 s):=congrFun L_law_spoilt_2_8.eq_1 s
def L_law_spoilt_2_10:DS:=(dsRet (dN (f2 addA) [.v (dN (f2 addA) [.v (dN slD [.k (pVar 1),.k (pC .non),.k (pUn intP (pVar 4))]),.k (pVar 5)]),.v (dN slD [.k (pVar 1),.v (d1 intP (dN (f2 addA) [.k (pVar 4),.k (pC (.int 1))])),.k (pC .non)])]))
@[simp] theorem ZiX {s:Sl}:type_of% (congrFun L_law_spoilt_2_10.eq_1 s):=congrFun L_law_spoilt_2_10.eq_1 s
def L_law_spoilt_2_16:DS:=(Zby (plV 6) (dP (pVar 7)) true (dN (f1 (joinD " ")) [.v (dN (f2 addA) [.v (dN slD [.k (pVar 8),.k (pC .non),.k (pUn intP (pVar 9))]),.v (dN slD [.k (pVar 8),.v (d1 intP (dN (f2 addA) [.k (pVar 9),.k (pC (.int 1))])),.k (pC .non)])])]))
@[simp] theorem ZiR {s:Sl}:type_of% (congrFun L_law_spoilt_2_16.eq_1 s):=congrFun L_law_spoilt_2_16.eq_1 s
def L_law_spoilt_2_18:DS:=(Zby (plV 6) (dP (pVar 7)) true (dN (f1 (joinD " ")) [.v (dN (f2 addA) [.v (dN slD [.k (pVar 8),.k (pC .non),.v (d1 intP (dN (f2 addA) [.k (pVar 9),.k (pC (.int 1))]))]),.v (dN slD [.k (pVar 8),.k (pUn intP (pVar 9)),.k (pC .non)])])]))
@[simp] theorem ZiP {s:Sl}:type_of% (congrFun L_law_spoilt_2_18.eq_1 s):=congrFun L_law_spoilt_2_18.eq_1 s
def L_law_spoilt_2_21:DS:=(Zby (plV 6) (dP (pVar 7)) true (dN (f1 (joinD " ")) [.v (dN (f2 addA) [.v (dN (f2 addA) [.v (dN slD [.k (pVar 8),.k (pC .non),.k (pUn intP (pVar 9))]),.v (dF mkLst (daCons (dP (pVar 10)) daNil))]),.v (dN slD [.k (pVar 8),.v (d1 intP (dN (f2 addA) [.k (pVar 9),.k (pC (.int 1))])),.k (pC .non)])])]))
@[simp] theorem ZiM {s:Sl}:type_of% (congrFun L_law_spoilt_2_21.eq_1 s):=congrFun L_law_spoilt_2_21.eq_1 s
def ZcU:DS:=(dsSeq (dsAsg (dNI (f2 ixK) [.v (dF mkLst (daCons (dP (pC (.str "0"))) (daCons (dP (pC (.str "00"))) (daCons (dP (pC (.str "13"))) (daCons (dP (pC (.str "200"))) (daCons (dP (pC (.str "201"))) (daCons (dP (pC (.str "199"))) (daCons (dP (pC (.str "9999"))) (daCons (dP (pC (.str "10000"))) (daCons (dP (pC (.str "a"))) (daCons (dP (pC (.str "x1"))) daNil))))))))))),.v (Zd Za [.o 0,.v (dP (pC (.int 10)))])]) (tgN 10)) L_law_spoilt_2_21)
@[simp] theorem ZiN {s:Sl}:type_of% (show ZcU s = _ from Fs.sq_c):=Fs.sq_c
def L_law_spoilt_2_22:DS:=(dsAsg (dNI (f2 addA) [.v (dNI (f2 addA) [.v (dN slD [.k (pVar 6),.k (pC .non),.k (pUn intP (pVar 7))]),.v (dNI slD [.v (dF mkLst (daCons (dP (pOp ixD (pVar 6) (pVar 7))) (daCons (dP (pC (.str ""))) daNil))),.v (d1 intP (Zd Za [.o 0,.v (dP (pC (.int 2)))])),.v (dP (pC .non))])]),.v (dN slD [.k (pVar 6),.k (pUn intP (pVar 7)),.k (pC .non)])]) (tgN 6))
@[simp] theorem ZiL {s:Sl}:type_of% (congrFun L_law_spoilt_2_22.eq_1 s):=congrFun L_law_spoilt_2_22.eq_1 s
def L_law_spoilt_2_19:DS:=(dsIf (dtV (dN (f2 eqD) [.k (pVar 3),.k (pC (.int 5))])) ZcU L_law_spoilt_2_22)
@[simp] theorem ZiO {s:Sl}:type_of% (congrFun L_law_spoilt_2_19.eq_1 s):=congrFun L_law_spoilt_2_19.eq_1 s
def L_law_spoilt_2_17:DS:=(dsIf (dtV (dN (f2 eqD) [.k (pVar 3),.k (pC (.int 4))])) L_law_spoilt_2_18 L_law_spoilt_2_19)
@[simp] theorem ZiQ {s:Sl}:type_of% (congrFun L_law_spoilt_2_17.eq_1 s):=congrFun L_law_spoilt_2_17.eq_1 s
def L_law_spoilt_2_23:DS:=(dsRet (dN (f1 (joinD "\n")) [.k (pVar 6)]))
@[simp] theorem ZiK {s:Sl}:type_of% (congrFun L_law_spoilt_2_23.eq_1 s):=congrFun L_law_spoilt_2_23.eq_1 s
def ZcV:DS:=(dsSeq (dsIf (dtV (dN (f2 eqD) [.k (pVar 3),.k (pC (.int 3))])) L_law_spoilt_2_16 L_law_spoilt_2_17) L_law_spoilt_2_23)
@[simp] theorem ZiS {s:Sl}:type_of% (show ZcV s = _ from Fs.sq_c):=Fs.sq_c
def ZcW:DS:=(dsSeq (dsAsg (Zd Za [.o 0,.v (dN (f1 lenD) [.k (pVar 8)])]) (tgN 9)) ZcV)
@[simp] theorem ZiT {s:Sl}:type_of% (show ZcW s = _ from Fs.sq_c):=Fs.sq_c
def ZcX:DS:=(dsSeq (dsAsg (dN splitD [.k (pUn (tyF "str") (pOp ixD (pVar 6) (pVar 7))),.k (pC (.str " "))]) (tgN 8)) ZcW)
@[simp] theorem ZiU {s:Sl}:type_of% (show ZcX s = _ from Fs.sq_c):=Fs.sq_c
def ZcY:DS:=(dsSeq (dsAsg (Zd Za [.o 0,.v (dN (f1 lenD) [.k (pVar 6)])]) (tgN 7)) ZcX)
@[simp] theorem ZiV {s:Sl}:type_of% (show ZcY s = _ from Fs.sq_c):=Fs.sq_c
def ZcZ:DS:=(dsSeq (dsAsg (dN splitD [.k (pUn (tyF "str") (pVar 1)),.k (pC (.str "\n"))]) (tgN 6)) ZcY)
@[simp] theorem ZiW {s:Sl}:type_of% (show ZcZ s = _ from Fs.sq_c):=Fs.sq_c
def Zdj:DS:=(dsSeq (dsIf (dtV (dN (f2 eqD) [.k (pVar 3),.k (pC (.int 2))])) L_law_spoilt_2_10 dsNext) ZcZ)
@[simp] theorem ZjQ {s:Sl}:type_of% (show Zdj s = _ from Fs.sq_c):=Fs.sq_c
def Zdk:DS:=(dsSeq (dsIf (dtV (dN (f2 eqD) [.k (pVar 3),.k (pC (.int 1))])) L_law_spoilt_2_8 dsNext) Zdj)
@[simp] theorem ZjS {s:Sl}:type_of% (show Zdk s = _ from Fs.sq_c):=Fs.sq_c
def Zdl:DS:=(dsSeq (dsIf (dtV (dN (f2 eqD) [.k (pVar 3),.k (pC (.int 0))])) L_law_spoilt_2_6 dsNext) Zdk)
@[simp] theorem ZjU {s:Sl}:type_of% (show Zdl s = _ from Fs.sq_c):=Fs.sq_c
def Zdm:DS:=(dsSeq (dsAsg (dNI (f2 ixK) [.v (dF mkLst (daCons (dNI (f2 ixK) [.v (dP (pC (.str "abz019 \n-+.:A"))),.v (Zd Za [.o 0,.v (dP (pC (.int 13)))])]) (daCons (dNI (f2 ixK) [.l 2,.v (Zd Za [.o 0,.v (dP (pC (.int 95)))])]) daNil))),.v (Zd Za [.o 0,.v (dP (pC (.int 2)))])]) (tgN 5)) Zdl)
@[simp] theorem ZjV {s:Sl}:type_of% (show Zdm s = _ from Fs.sq_c):=Fs.sq_c
def Zdn:DS:=(dsSeq (dsAsg (Zd Za [.o 0,.v (dN (f2 addA) [.v (dN (f1 lenD) [.k (pVar 1)]),.k (pC (.int 1))])]) (tgN 4)) Zdm)
@[simp] theorem ZjW {s:Sl}:type_of% (show Zdn s = _ from Fs.sq_c):=Fs.sq_c
def Zdo:DS:=(dsSeq (dsAsg (Zd Za [.o 0,.v (dP (pC (.int 7)))]) (tgN 3)) Zdn)
@[simp] theorem ZjX {s:Sl}:type_of% (show Zdo s = _ from Fs.sq_c):=Fs.sq_c
def Zdp:DS:=(dsSeq (dsAsg (dN (f2 addA) [.k (pVar 2),.k (pC (.str "abcdefghijklmnopqrstuvwxyz{|}~\n"))]) (tgN 2)) Zdo)
@[simp] theorem ZjY {s:Sl}:type_of% (show Zdp s = _ from Fs.sq_c):=Fs.sq_c
def Zdq:DS:=(dsSeq (dsAsg (dP (pC (.str " !\"#$&'()*+,-./0123456789:;<=>?@ABCDEFGHIJKLMNOPQRSTUVWXYZ[\\]^_`"))) (tgN 2)) Zdp)
@[simp] theorem ZjZ {s:Sl}:type_of% (show Zdq s = _ from Fs.sq_c):=Fs.sq_c
theorem ZdV:Zcd = Zdq:=of_eq_true (eq_self _)
def L_law_answer_3_4:DS:=(dsIf (dtV (dN (f2 neX) [.v (dCall Zb (daCons (dRc 20 "told" (dCall Zh (daCons (dCall Zm (daLend (pVar 2) daNil)) daNil))) daNil)),.v (dCall Zb (daLend (pRc 20 "told" (pVar 2)) daNil))])) (dsAsg (dP (pC (.str "odd"))) (tgN 1)) dsNext)
@[simp] theorem Zj1 {s:Sl}:type_of% (congrFun L_law_answer_3_4.eq_1 s):=congrFun L_law_answer_3_4.eq_1 s
def Zdr:DS:=(dsSeq (dsAsg (dF mkTup (daCons (dP (pC (.str "rows"))) (daCons (dCall Zb (daLend (pRc 20 "told" (pVar 2)) daNil)) daNil))) (tgN 1)) L_law_answer_3_4)
@[simp] theorem Zj2 {s:Sl}:type_of% (show Zdr s = _ from Fs.sq_c):=Fs.sq_c
def Zds:DS:=(dsSeq (dsAsg (dCall Zh (daLend (pVar 0) daNil)) (tgN 2)) Zdr)
@[simp] theorem Zj3 {s:Sl}:type_of% (show Zds s = _ from Fs.sq_c):=Fs.sq_c
def L_law_answer_3_5:DS:=(dsRet (dMv 1))
@[simp] theorem Zj0 {s:Sl}:type_of% (congrFun L_law_answer_3_5.eq_1 s):=congrFun L_law_answer_3_5.eq_1 s
def Zdt:DS:=(dsSeq (dsTry (fun c=>[1,2].contains c) Zds [⟨(fun c=>[2].contains c),some 3,fun xs=>(dsAsg (dF mkTup (dL (lCons (pC (.str "bad")) (lCons (fun _=>xs[0]?) (lCons (fun _=>xs[1]?) (fun _=>some [])))))) (tgN 1))⟩,⟨(fun c=>[1,2].contains c),none,fun xs=>(dsAsg (dP (pC (.str "other"))) (tgN 1))⟩]) L_law_answer_3_5)
@[simp] theorem Zj4 {s:Sl}:type_of% (show Zdt s = _ from Fs.sq_c):=Fs.sq_c
def Zdu:DS:=(dsSeq (dsAsg (dP (pC .non)) (tgN 1)) Zdt)
@[simp] theorem Zj5 {s:Sl}:type_of% (show Zdu s = _ from Fs.sq_c):=Fs.sq_c
theorem Zci:Zce = Zdu:=of_eq_true (eq_self _)
def L_law_number_2:DS:=(dsRet (dN (f1 intD) [.k (pVar 0)]))
@[simp] theorem ZkF {s:Sl}:type_of% (congrFun L_law_number_2.eq_1 s):=congrFun L_law_number_2.eq_1 s
def Zd2:DS:=(dsSeq (dsIf (dtAnd (dtV (dN (f2 eqD) [.k (pOp ixD (pVar 0) (pC (.int 0))),.k (pC (.str "0"))])) (dtV (dN (f2 neD) [.k (pVar 0),.k (pC (.str "0"))]))) (dsRet (dP (pC .non))) dsNext) L_law_number_2)
@[simp] theorem ZkG {s:Sl}:type_of% (show Zd2 s = _ from Fs.sq_c):=Fs.sq_c
def Zd3:DS:=(dsSeq (dsIf (dtOr (dtV (dN (f2 ltD) [.v (dN (f1 lenD) [.k (pVar 0)]),.k (pC (.int 1))])) (dtOr (dtV (dN (f2 gtD) [.v (dN (f1 lenD) [.k (pVar 0)]),.k (pC (.int 4))])) (dtV (dN (f2 neD) [.v (dComp true [1] (diP (itA true) (pVar 0)) (tgN 1) (dtV (dN (f2 notinD) [.k (pVar 1),.k (pC (.str "0123456789"))])) (dP (pVar 1))),.v (dF mkLst daNil)])))) (dsRet (dP (pC .non))) dsNext) Zd2)
@[simp] theorem ZkH {s:Sl}:type_of% (show Zd3 s = _ from Fs.sq_c):=Fs.sq_c
theorem ZR:ZcK = Zd3:=of_eq_true (eq_self _)
def L_law_row_2_4:DS:=(dsRet (dN (f1 tupD) [.v (dN (f2 addA) [.v (dN slD [.k (pVar 1),.k (pC .non),.k (pUn intP (pC (.int 1)))]),.k (pVar 2)])]))
@[simp] theorem Zmj {s:Sl}:type_of% (congrFun L_law_row_2_4.eq_1 s):=congrFun L_law_row_2_4.eq_1 s
def ZeG:DS:=(dsSeq (dsIf (dtV (dN (f2 inD) [.k (pC .non),.k (pVar 2)])) (dsRet (dP (pC .non))) dsNext) L_law_row_2_4)
@[simp] theorem Zmk {s:Sl}:type_of% (show ZeG s = _ from Fs.sq_c):=Fs.sq_c
def ZeH:DS:=(dsSeq (dsAsg (dComp true [3] (diD (itA true) (dN slD [.k (pVar 1),.k (pUn intP (pC (.int 1))),.k (pC .non)])) (tgN 3) dtYes (dCall Zbd (daLend (pVar 3) daNil))) (tgN 2)) ZeG)
@[simp] theorem Zml {s:Sl}:type_of% (show ZeH s = _ from Fs.sq_c):=Fs.sq_c
def ZeI:DS:=(dsSeq (dsIf (dtOr (dtV (dN (f2 notinD) [.v (dN (f1 lenD) [.k (pVar 1)]),.v (dF mkTup (daCons (dP (pC (.int 4))) (daCons (dP (pC (.int 5))) daNil)))])) (dtV (dN (f2 neD) [.v (dCall Zr (daCons (dF mkLst daNil) (daCons (dF mkTup (daCons (dP (pOp ixD (pVar 1) (pC (.int 0)))) (daCons (dP (pC (.int 0))) (daCons (dP (pC (.int 1))) (daCons (dP (pC (.int 1))) daNil))))) daNil))),.k (pC (.str ""))]))) (dsRet (dP (pC .non))) dsNext) ZeH)
@[simp] theorem Zmm {s:Sl}:type_of% (show ZeI s = _ from Fs.sq_c):=Fs.sq_c
def ZeJ:DS:=(dsSeq (dsAsg (dN splitD [.k (pUn (tyF "str") (pVar 0)),.k (pC (.str " "))]) (tgN 1)) ZeI)
@[simp] theorem Zmn {s:Sl}:type_of% (show ZeJ s = _ from Fs.sq_c):=Fs.sq_c
theorem Zb2:Zc6 = ZeJ:=of_eq_true (eq_self _)
def L_law_due_4_3:DS:=(dsAsg (dComp true [2] (diD (itA true) (dN splitD [.k (pUn (tyF "str") (pVar 0)),.k (pC (.str "\n"))])) (tgN 2) dtYes (dCall Zbp (daLend (pVar 2) daNil))) (tgN 1))
@[simp] theorem Zmr {s:Sl}:type_of% (congrFun L_law_due_4_3.eq_1 s):=congrFun L_law_due_4_3.eq_1 s
def L_law_due_4_7:DS:=(dsRet (dF mkTup (daCons (dP (pC (.str "rows"))) (daCons (dN (f1 tupD) [.v (dComp true [4] (diP (itA true) (pVar 1)) (tgN 4) dtYes (dN slD [.v (dN (f2 addA) [.k (pVar 4),.v (dN slD [.k (pVar 4),.k (pUn intP (pC (.int 3))),.k (pUn intP (pC (.int 4)))])]),.k (pC .non),.k (pUn intP (pC (.int 5)))]))]) daNil))))
@[simp] theorem Zmo {s:Sl}:type_of% (congrFun L_law_due_4_7.eq_1 s):=congrFun L_law_due_4_7.eq_1 s
def ZeK:DS:=(dsSeq (dsIf (dtV (dN (f1 notND) [.k (pVar 3)])) (dsRet (dN (f2 addA) [.v (dF mkTup (daCons (dP (pC (.str "bad"))) daNil)),.k (pVar 3)])) dsNext) L_law_due_4_7)
@[simp] theorem Zmp {s:Sl}:type_of% (show ZeK s = _ from Fs.sq_c):=Fs.sq_c
def ZeL:DS:=(dsSeq (dsAsg (dCall ZN (daLend (pVar 1) daNil)) (tgN 3)) ZeK)
@[simp] theorem Zmq {s:Sl}:type_of% (show ZeL s = _ from Fs.sq_c):=Fs.sq_c
def ZbH:DS:=(dsSeq (dsIf (dtV (dN (f2 inD) [.k (pC .non),.k (pVar 1)])) (dsRet (dF mkTup (daCons (dP (pC (.str "bad"))) (daCons (dN indexX [.k (pUn (tyF "list") (pVar 1)),.k (pC .non)]) (daCons (dP (pC (.str "form"))) daNil))))) dsNext) ZeL)
@[simp] theorem ZdP {s:Sl}:type_of% (show ZbH s = _ from Fs.sq_c):=Fs.sq_c
def ZeM:DS:=(dsSeq (dsIf (dtV (dN (f2 neD) [.k (pVar 0),.k (pC (.str ""))])) L_law_due_4_3 dsNext) ZbH)
@[simp] theorem Zms {s:Sl}:type_of% (show ZeM s = _ from Fs.sq_c):=Fs.sq_c
def ZeN:DS:=(dsSeq (dsAsg (dF mkLst daNil) (tgN 1)) ZeM)
@[simp] theorem Zmt {s:Sl}:type_of% (show ZeN s = _ from Fs.sq_c):=Fs.sq_c
def ZeO:DS:=(dsSeq (dsIf (dtNot (dtV (dN (f1 (isiD "str")) [.k (pVar 0)]))) (dsRet (dF mkTup (daCons (dP (pC (.str "bad"))) (daCons (dP (pC (.int 0))) (daCons (dP (pC (.str "form"))) daNil))))) dsNext) ZeN)
@[simp] theorem Zmu {s:Sl}:type_of% (show ZeO s = _ from Fs.sq_c):=Fs.sq_c
theorem Zb3:ZbV = ZeO:=of_eq_true (eq_self _)
def law_k08_4:DS:=(dsAsg (dComp false [4] (diD (itA true) (Zd ZZ [.o 2,.v (dP (pC (.int 30)))])) (tgN 4) dtYes (dF mkTup (daCons (dP (pVar 4)) (daCons (dP (pVar 1)) (daCons (dN (f2 subD) [.k (pC (.int 199)),.k (pVar 1)]) (daCons (dN (f2 addA) [.k (pC (.int 1)),.v (dN (f2 modD) [.k (pVar 1),.k (pC (.int 12))])]) (daCons (dN (f2 modD) [.k (pVar 1),.k (pC (.int 2))]) daNil))))))) (tgN 3))
@[simp] theorem ZoC {s:Sl}:type_of% (congrFun law_k08_4.eq_1 s):=congrFun law_k08_4.eq_1 s
def law_k08_7:DS:=(dsAsg (dNI (f2 addA) [.l 5,.v (dNI (f2 ixK) [.v (dF mkLst (daCons (dP (pC (.str ""))) (daCons (dP (pC (.str "\nzz99 0 9 1"))) daNil))),.v (Zd Za [.o 2,.v (dP (pC (.int 2)))])])]) (tgN 5))
@[simp] theorem ZoB {s:Sl}:type_of% (congrFun law_k08_7.eq_1 s):=congrFun law_k08_7.eq_1 s
def law_k08_9:DS:=(dsAsg (Zd Z6 [.o 2,.l 5]) (tgN 5))
@[simp] theorem ZfL {s:Sl}:type_of% (congrFun law_k08_9.eq_1 s):=congrFun law_k08_9.eq_1 s
def law_k08_12:DS:=(dsAsg (dN slD [.v (dN (f2 addA) [.k (pVar 5),.v (dN (f2 mulT) [.k (pVar 8),.k (pC (.int 1000))])]),.k (pC .non),.k (pUn intP (pC (.int 1000)))]) (tgN 5))
@[simp] theorem ZnM {s:Sl}:type_of% (congrFun law_k08_12.eq_1 s):=congrFun law_k08_12.eq_1 s
def Zgs:DS:=(dsSeq (dsAsg (dNI (f2 ixK) [.v (dF mkLst (daCons (dP (pC (.str "\n"))) (daCons (dP (pC (.str " "))) (daCons (dP (pC (.str "\nab 0 9 1"))) (daCons (dP (pC (.str "9"))) daNil))))),.v (Zd Za [.o 2,.v (dP (pC (.int 4)))])]) (tgN 8)) law_k08_12)
@[simp] theorem ZhK {s:Sl}:type_of% (show Zgs s = _ from Fs.sq_c):=Fs.sq_c
def law_k08_15:DS:=(dsIf (dtV (dN (f2 neX) [.v (dCall ZK (daLend (pVar 9) daNil)),.v (dCall Zw (daLend (pVar 9) daNil))])) (dsRet (dP (pC (.bl false)))) dsNext)
@[simp] theorem ZnK {s:Sl}:type_of% (congrFun law_k08_15.eq_1 s):=congrFun law_k08_15.eq_1 s
def Zgr:DS:=(dsSeq (dsAsg (Zd Zba [.o 2]) (tgN 9)) law_k08_15)
@[simp] theorem ZnL {s:Sl}:type_of% (show Zgr s = _ from Fs.sq_c):=Fs.sq_c
def Ze6:DS:=(dsSeq (dsIf (dtV (dN (f2 neX) [.v (dCall ZK (daLend (pVar 5) daNil)),.v (dCall Zw (daLend (pVar 5) daNil))])) (dsRet (dP (pC (.bl false)))) dsNext) Zgr)
@[simp] theorem ZcD {s:Sl}:type_of% (show Ze6 s = _ from Fs.sq_c):=Fs.sq_c
def Ze7:DS:=(dsSeq (dsIf (dtV (dNI (f2 eqM) [.v (Zd Za [.o 2,.v (dP (pC (.int 8)))]),.v (dP (pC (.int 0)))])) Zgs dsNext) Ze6)
@[simp] theorem Zfd {s:Sl}:type_of% (show Ze7 s = _ from Fs.sq_c):=Fs.sq_c
def ZfM:DS:=(dsSeq (dsFor (diD itR (Zd Za [.o 2,.v (dP (pC (.int 4)))])) (tgN 7) law_k08_9) Ze7)
@[simp] theorem Zeb {s:Sl}:type_of% (show ZfM s = _ from Fs.sq_c):=Fs.sq_c
def ZfO:DS:=(dsSeq (dsIf (dtV (dN (f2 eqM) [.v (dN (f1 lenD) [.k (pVar 3)]),.k (pC (.int 30))])) law_k08_7 dsNext) ZfM)
@[simp] theorem ZfN {s:Sl}:type_of% (show ZfO s = _ from Fs.sq_c):=Fs.sq_c
def ZfP:DS:=(dsSeq (dsAsg (dNI (f1 (joinD "\n")) [.v (dComp false [6] (diD (itA true) (dFz 3)) (tgN 6) dtYes (Zd ZO [.l 6,.v (dNI (f2 eqM) [.v (Zd Za [.o 2,.v (dP (pC (.int 2)))]),.v (dP (pC (.int 0)))])]))]) (tgN 5)) ZfO)
@[simp] theorem ZbZ {s:Sl}:type_of% (show ZfP s = _ from Fs.sq_c):=Fs.sq_c
def ZhI:DS:=(dsSeq (dsIf (dtV (dNI (f2 eqM) [.v (Zd Za [.o 2,.v (dP (pC (.int 8)))]),.v (dP (pC (.int 0)))])) law_k08_4 dsNext) ZfP)
@[simp] theorem ZoD {s:Sl}:type_of% (show ZhI s = _ from Fs.sq_c):=Fs.sq_c
def ZhJ:DS:=(dsSeq (dsAsg (Zd Zbj [.o 2,.v (dP (pC (.int 6)))]) (tgN 3)) ZhI)
@[simp] theorem ZoE {s:Sl}:type_of% (show ZhJ s = _ from Fs.sq_c):=Fs.sq_c
def ZhL:DS:=(dsSeq (dsAsg (dCall ZbO (daCons (dCall ZbE (daLend (pVar 0) (daLend (pVar 1) daNil))) daNil)) (tgN 2)) ZhJ)
@[simp] theorem Ziw {s:Sl}:type_of% (show ZhL s = _ from Fs.sq_c):=Fs.sq_c
def law_k08_16:DS:=(dsRet (dP (pC (.bl true))))
@[simp] theorem ZnJ {s:Sl}:type_of% (congrFun law_k08_16.eq_1 s):=congrFun law_k08_16.eq_1 s
def ZhM:DS:=(dsSeq (dsFor (diD itR (dN (f2 maxD) [.k (pC (.int 8)),.v (dN (f2 minD) [.v (dN (f1 lenD) [.k (pVar 0)]),.k (pC (.int 40))])])) (tgN 1) ZhL) law_k08_16)
@[simp] theorem ZoF {s:Sl}:type_of% (show ZhM s = _ from Fs.sq_c):=Fs.sq_c
theorem ZgU:Zf4 = ZhM:=of_eq_true (eq_self _)
end Lw
set_option maxHeartbeats 1000000
namespace Lw
namespace K07
open PySem PySem.Spec PyProof.Rows L2 Fs
section
variable {s:Sl} {w w':Fl} {z:Str} {ps:List (Row × Bool)} {rs:List Row} {p:Row × Bool}
def gP (p:Row × Bool):PyData:=if p.2 then rowP p.1 else .tuple [.str p.1.nm,.int p.1.a,.int p.1.b,.int p.1.l]
theorem pd_G (p:Row × Bool):pd (rowG p) = some (gP p):=by
  obtain ⟨r,b⟩:=p
  cases b <;> simp [rowG,gP,pd,pds,rowP]
theorem pds_G:∀ ps:List (Row × Bool),pds (ps.map rowG) = some (ps.map gP)
  | []=>rfl
  | p :: ps=>by simp [pds,pd_G,pds_G ps]
theorem lay_G:∀ ps:List (Row × Bool),(∀ p ∈ ps,okS p.1.nm) → PyData.canLayAll0 (ps.map gP) = true ∧ PyData.depthAll (ps.map gP) ≤ 8
  | [],_=>⟨rfl,by simp [PyData.depthAll]⟩
  | p :: ps,h=>by
    obtain ⟨h1,h2⟩:=lay_G ps fun q hq=>h q (List.mem_cons_of_mem _ hq)
    have h3:=ZdR (h p List.mem_cons_self)
    obtain ⟨r,b⟩:=p
    cases b <;> simp [PyData.canLayAll0,PyData.depthAll,gP,rowP,PyData.canLay0,PyData.depth,h1,h3] <;> omega
theorem Zop (h:∀ p ∈ ps,p.1.ok):inD (.v .non) (Lst rowG w ps) = some (.v (.bl false)):=by
  obtain ⟨h1,h2⟩:=lay_G ps fun p hp=>Zoo (h p hp)
  have hs:SeqAt.shaped (.list (ps.map gP)) = true:=by simp [SeqAt.shaped,PyData.canLay0,h1,PyData.depth]; omega
  have hn:(ps.map gP).any (fun z=>PyData.eqv z .none) = false:=by
    rw [List.any_eq_false]
    intro x hx
    obtain ⟨⟨r,b⟩,_,rfl⟩:=List.mem_map.mp hx
    cases b <;> simp [gP,rowP,PyData.eqv]
  cases ps with
  | nil=>rfl
  | cons p ps =>
    have hv:valsD ((p :: ps).map rowG) = none:=by
      obtain ⟨r,b⟩:=p
      cases b <;> rfl
    have hi:inB (.v .non) (Lst rowG w (p :: ps)) = some false:=by
      simp only [inB,Lst,seqA,Option.bind_some,hv,pds_G,pd]
      rw [if_pos ⟨by rfl,hs⟩,hn]
    simp only [inD,hi,Option.map_some]
theorem Zkb (h:∀ p ∈ ps,p.1.ok) (hne:ps ≠ []):Txt.split (textS ps) "\n" = ps.map lineS :=
  TL.split_join lf_tl (by decide +kernel) (by simpa using hne) fun z hz q=>by
    obtain ⟨p,hp,rfl⟩:=List.mem_map.mp hz
    have:=(Ziu (h p hp)).1 10 q
    omega
theorem ZnP (h:∀ p ∈ ps,p.1.ok) (hne:ps ≠ []):textS ps ≠ "":=by
  cases ps with
  | nil=>exact absurd rfl hne
  | cons p ps =>
    intro q
    have h0:=(Ziu (h p List.mem_cons_self)).2
    have e:(textS (p :: ps)).cps.toList = TL.joinL [10] ((lineS p).cps.toList :: (ps.map lineS).map TL.tl):=by
      show TL.tl (Txt.join "\n" _) = _
      rw [TL.join_eq,TL.tl_join,lf_tl]
      rfl
    rw [q] at e
    have e2:(("":Str).cps.toList) = []:=by decide +kernel
    rw [e2] at e
    cases hm:(ps.map lineS).map TL.tl with
    | nil=>rw [hm] at e; exact h0 (by simpa [TL.joinL] using e.symm)
    | cons y r =>
      rw [hm] at e
      have:=congrArg List.length e
      simp [TL.joinL] at this
theorem text_ok (h:∀ p ∈ ps,p.1.ok):okS (textS ps):=by
  intro c hc
  have e:(textS ps).cps.toList = TL.joinL [10] ((ps.map lineS).map TL.tl):=by
    show TL.tl (Txt.join "\n" _) = _
    rw [TL.join_eq,TL.tl_join,lf_tl]
  rw [e] at hc
  rcases Zeq hc with q | ⟨x,h1,h2⟩
  · have:c = 10:=by simpa using q
    omega
  · rw [List.map_map] at h1
    obtain ⟨p,hp,rfl⟩:=List.mem_map.mp h1
    have:=(Ziu (h p hp)).1 c h2
    omega
theorem read_c (h:HandOk ps):callK Zh [.v (.str (textS ps))] s = .ok (Pcs .own (ps.map Prod.fst)) s:=Zg rfl (by
  have hok:∀ p ∈ ps,p.1.ok:=fun p hp=>h.rows.ok p.1 (List.mem_map.mpr ⟨p,hp,rfl⟩)
  have hl:ps.length ≤ 30:=by have:=h.rows.len; simpa using this
  have tl:=(text_len (w:=.own) hok hl).1
  have ni:=Zop (w:=.own) hok
  have mk:=fun s=>mk_G (s:=s) (w:=.bor) h
  have ff:∀ rs,(Pcs .own rs).free = true:=fun _=>rfl
  have nn:∀ rs,isND (Pcs .own rs) = some (.v (.bl false)):=fun _=>rfl
  have ln:lend (Lst rowG .own ps) = Lst rowG .bor ps:=by simp
  have m0:mkLst [] = some (.n .lst .own []):=rfl
  by_cases hne:ps = []
  · subst hne
    have e0:textS [] = "":=rfl
    have ne:neD (.v (.str "")) (.v (.str "")) = some (.v (.bl false)):=by rw [Zc4 okS_of okS_of]; rfl
    have e1:(.n .lst .own []:D) = Lst rowG .own []:=rfl
    rw [e0]
    generalize Lst rowG .own [] = L at ni ln e1
    generalize Lst rowG .bor [] = Lb at ln mk
    simp [ZH,m0,ne,e1,ni,ln,mk,nn,dMv,ff]
  · have ne:neD (.v (.str (textS ps))) (.v (.str "")) = some (.v (.bl true)):=by
      rw [Zc4 (text_ok hok) okS_of]
      have:=ZnP hok hne
      simp [this]
    have sp:splitD [.v (.str (textS ps)),.v (.str "\n")] = some (Lst D.str .own (ps.map lineS)):=by
      simp only [splitD]
      rw [if_pos ⟨by decide +kernel,by omega⟩,Zkb hok hne]
      rfl
    have ty:tyF "str" (.v (.str (textS ps))) = some (.v (.str (textS ps))):=rfl
    generalize textS ps = T at ne sp ty
    have hc:=sat_cm (keep:=true) (i:=2) (s:=[some (.v (.str T)),some (.n .lst .own []),none,none,none,none,none]) (out:=rowG) (Q:=fun a s'=>a = Lst rowG .own (ps.map id) ∧ s' = [some (.v (.str T)),some (.n .lst .own []),none,none,none,none,none]) (di:=diD (itA true) (dN splitD [.k (pUn (tyF "str") (pVar 0)),.k (pC (.str "\n"))])) (elt:=dCall ZM (daLend (pVar 2) daNil)) (fun p=>D.v (.str (lineS p))) ps id (by
      simp [diD,ty,sp]) rfl (fun p hp=>by simp [ZmZ (hok p hp)]) (by omega) ⟨rfl,rfl⟩
    have hc:=of_sat hc
    rw [List.map_id] at hc
    generalize Lst rowG .own ps = L at ni ln hc
    generalize Lst rowG .bor ps = Lb at ln mk
    simp [ZH,m0,ne,hc,ni,ln,mk,nn,dMv,ff])
theorem brief_hand (hr:RowsOk rs):HandOk (briefS rs) ∧ (briefS rs).map Prod.fst = rs:=by
  have e:(briefS rs).map Prod.fst = rs:=by simp [briefS,Function.comp_def]
  refine ⟨⟨by rw [e]; exact hr,fun p hp h=>?_⟩,e⟩
  obtain ⟨r,_,rfl⟩:=List.mem_map.mp hp
  simpa using h
end
end K07
end Lw
set_option maxHeartbeats 1000000
namespace Lw
namespace K08
open PySem PySem.Spec PyProof.Rows L2 Fs
section
variable {s:Sl} {w w':Fl} {z:Str}
theorem Zfx {c:Nat}:∀ (l acc:List Nat),TL.spl [c] 0 acc l ≠ [] ∧ ((TL.spl [c] 0 acc l).map List.length).sum + (TL.spl [c] 0 acc l).length = acc.length + l.length + 1 ∧ ∀ p ∈ TL.spl [c] 0 acc l,p.length ≤ acc.length + l.length ∧ ∀ x ∈ p,x ∈ acc ∨ x ∈ l
  | [],acc=>by
    rw [TL.spl_nil]
    refine ⟨by simp,by simp,fun p hp=>?_⟩
    simp only [List.mem_singleton] at hp
    subst hp
    exact ⟨by simp,fun x hx=>.inl hx⟩
  | a :: l,acc=>by
    cases hp:TL.pre [c] (a :: l) with
    | true =>
      rw [TL.spl_hit hp]
      obtain ⟨h1,h2,h3⟩:=Zfx (c:=c) l []
      have e:[c].length - 1 = 0:=rfl
      rw [e]
      refine ⟨by simp,by simp only [List.map_cons,List.sum_cons,List.length_cons,List.length_nil] at h2 ⊢; omega,fun p q=>?_⟩
      rcases List.mem_cons.mp q with rfl | q
      · exact ⟨by simp,fun x hx=>.inl hx⟩
      · obtain ⟨g1,g2⟩:=h3 p q
        simp only [List.length_nil] at g1
        refine ⟨by simp only [List.length_cons]; omega,fun x hx=>?_⟩
        rcases g2 x hx with g | g
        · cases g
        · exact .inr (List.mem_cons_of_mem _ g)
    | false =>
      rw [TL.spl_miss hp]
      obtain ⟨h1,h2,h3⟩:=Zfx (c:=c) l (acc ++ [a])
      refine ⟨h1,by simp only [List.length_append,List.length_cons,List.length_nil] at h2 ⊢; omega,fun p q=>?_⟩
      obtain ⟨g1,g2⟩:=h3 p q
      refine ⟨by simp only [List.length_append,List.length_cons,List.length_nil] at g1 ⊢; omega,fun x hx=>?_⟩
      rcases g2 x hx with g | g
      · rcases List.mem_append.mp g with g | g
        · exact .inl g
        · simp only [List.mem_singleton] at g
          subst g
          exact .inr List.mem_cons_self
      · exact .inr (List.mem_cons_of_mem _ g)
/-- a measure of lists of texts -/
def mu (zs:List Str):Nat:=(zs.map (·.length)).sum + zs.length
theorem Zb7 (a b:List Str):mu (a ++ b) = mu a + mu b:=by
  simp only [mu,List.map_append,List.sum_append,List.length_append]; omega
@[simp] theorem ZgN (x:Str) (b:List Str):mu (x :: b) = x.length + 1 + mu b:=by
  simp only [mu,List.map_cons,List.sum_cons,List.length_cons]; omega
@[simp] theorem mu_nil:mu [] = 0:=rfl
theorem Zlu (n:Nat) (a:List Str):mu (a.take n) ≤ mu a:=by
  have h:mu (a.take n ++ a.drop n) = mu a:=by rw [List.take_append_drop]
  rw [Zb7] at h; omega
theorem Zit (n:Nat) (a:List Str):mu (a.drop n) ≤ mu a:=by
  have h:mu (a.take n ++ a.drop n) = mu a:=by rw [List.take_append_drop]
  rw [Zb7] at h; omega
theorem mu_set (x:Str):∀ (a:List Str) (n:Nat),mu (a.set n x) ≤ mu a + x.length
  | [],n=>by simp [mu]
  | y :: a,0=>by simp only [List.set_cons_zero,ZgN]; omega
  | y :: a,n + 1=>by have:=mu_set x a n; simp only [List.set_cons_succ,ZgN]; omega
/-- a text of so many signs at most -/
structure Tx (n:Nat) (z:Str):Prop where
  len:z.length ≤ n
  ok:okS z
theorem Tx.mono {n m:Nat} (h:Tx n z) (q:n ≤ m):Tx m z:=⟨Nat.le_trans h.len q,h.ok⟩
structure SpT (n:Nat) (ws:List Str):Prop where
  ne:ws ≠ []
  mu:mu ws ≤ n + 1
  ok:∀ x ∈ ws,Tx n x
theorem Zi2 {n:Nat} {sp:Str} {c:Nat} (h:Tx n z) (e:TL.tl sp = [c]) (hk:sp.cps.all (· < 256) = true):SpT n (Txt.split z sp):=by
  have hs:=TL.split_spl z sp (by rw [e]; simp) (TL.kind_ok hk)
  rw [e] at hs
  obtain ⟨h1,h2,h3⟩:=Zfx (c:=c) (TL.tl z) []
  rw [← hs] at h1 h2 h3
  have hl:=TL.len_tl z
  refine ⟨fun q=>h1 (by rw [q]; rfl),?_,fun x hx=>?_⟩
  · have e2:(List.map List.length ((Txt.split z sp).map TL.tl)).sum = ((Txt.split z sp).map (·.length)).sum:=by
      rw [List.map_map]
      congr 1
    rw [e2,List.length_map] at h2
    simp only [List.length_nil] at h2
    have:=h.len
    simp only [mu]; omega
  · obtain ⟨g1,g2⟩:=h3 _ (List.mem_map_of_mem hx)
    have:=h.len
    refine ⟨by rw [TL.len_tl]; simp only [List.length_nil] at g1; omega,fun d hd=>?_⟩
    rcases g2 d hd with g | g
    · cases g
    · exact h.ok d g
theorem ZlH {n:Nat} {sp:Str} {zs:List Str} (h1:sp.length = 1) (h2:okS sp) (hz:∀ x ∈ zs,okS x) (hm:mu zs ≤ n) (hn:n ≤ 100000):joinD sp (Lst D.str w zs) = some (.v (.str (Txt.join sp zs))) ∧ Tx n (Txt.join sp zs):=by
  have hm':=hm
  simp only [mu] at hm'
  refine ⟨ZfR (by rw [h1]; omega),?_,fun c hc=>?_⟩
  · rw [TL.len_tl,TL.join_eq,TL.tl_join]
    have hj:=ZfS (TL.tl sp) (zs.map TL.tl)
    rw [← TL.len_tl,h1,List.map_map,List.length_map] at hj
    have e:(List.map (List.length ∘ TL.tl) zs).sum = (zs.map (·.length)).sum:=by
      congr 1
    rw [e] at hj
    omega
  · have e:(Txt.join sp zs).cps.toList = TL.joinL (TL.tl sp) (zs.map TL.tl):=by
      show TL.tl (Txt.join sp _) = _
      rw [TL.join_eq,TL.tl_join]
    rw [e] at hc
    rcases Zeq hc with q | ⟨x,g1,g2⟩
    · exact h2 c q
    · obtain ⟨y,hy,rfl⟩:=List.mem_map.mp g1
      exact hz y hy c g2
theorem ZgD {n:Nat} (h:Tx n z) (hn:n ≤ 100000):splitD [.v (.str z),.v (.str " ")] = some (Lst D.str .own (Txt.split z " ")) ∧ SpT n (Txt.split z " "):=by
  refine ⟨?_,Zi2 h sp_tl (by decide +kernel)⟩
  have:=h.len
  simp only [splitD]
  rw [if_pos ⟨by decide +kernel,by omega⟩]
  rfl
theorem Zjr {n:Nat} (h:Tx n z) (hn:n ≤ 100000):splitD [.v (.str z),.v (.str "\n")] = some (Lst D.str .own (Txt.split z "\n")) ∧ SpT n (Txt.split z "\n"):=by
  refine ⟨?_,Zi2 h lf_tl (by decide +kernel)⟩
  have:=h.len
  simp only [splitD]
  rw [if_pos ⟨by decide +kernel,by omega⟩]
  rfl
end
end K08
end Lw
set_option maxHeartbeats 1000000
namespace Lw
namespace K08
open PySem PySem.Spec PyProof.Rows L2 Fs
section
variable {s:Sl} {w w':Fl} {z:Str}
theorem ZiB (hl:z.length ≤ 50000):callK Zx [.v (.str z)] s = .ok (.v (.bl (nameB z.cps.toList))) s:=by
  by_cases h:z.length ≤ 100
  · exact ZdE h
  · refine Zg rfl ?_
    have hl2:z.length ≤ 100000:=by omega
    have hlen:=Z4 z
    have g1:(1:Int) ≤ z.length:=by omega
    have g2:¬ (z.length:Int) ≤ 8:=by omega
    cases hc:z.cps.toList with
    | nil=>rw [hc] at hlen; simp at hlen; omega
    | cons c cs =>
      rw [hc] at hlen
      simp only [List.length_cons] at hlen
      have g3:¬ cs.length + 1 ≤ 8:=by omega
      simp [ZB,len_str hl2,g1,g2,nameB,g3]
theorem Zlv (hl:z.length ≤ 50000) (hx:okS z):callK Zr [.n .lst .own [],Tpl atE [.s z,.i 0,.i 1,.i 1]] s = .ok (lwhy (if nameB z.cps.toList = true then none else some "name")) s:=Zg rfl (by
  have i0':ixD (Tpl atE [.s z,.i 0,.i 1,.i 1]) (.v (.int 0)) = some (.v (.str z)):=rfl
  have i1:ixD (Tpl atE [.s z,.i 0,.i 1,.i 1]) (.v (.int 1)) = some (.v (.int 0)):=rfl
  have i2:ixD (Tpl atE [.s z,.i 0,.i 1,.i 1]) (.v (.int 2)) = some (.v (.int 1)):=rfl
  have i3:ixD (Tpl atE [.s z,.i 0,.i 1,.i 1]) (.v (.int 3)) = some (.v (.int 1)):=rfl
  have ht:isiD "tuple" (Tpl atE [.s z,.i 0,.i 1,.i 1]) = some (.v (.bl true)):=rfl
  have l1:lenD (Tpl atE [.s z,.i 0,.i 1,.i 1]) = some (.v (.int 4)):=rfl
  have m45:mkTup [D.v (.int 4),.v (.int 5)] = some (Tpl D.int [4,5]):=rfl
  have l2:notinD (.v (.int 4)) (Tpl D.int [4,5]) = some (.v (.bl false)):=rfl
  have wh:∀ (i:Int) s,callK Zq [.v (.int i)] s = .ok (.v (.bl true)) s:=fun i s=>ZdC (a:=.i i) ⟨fun _ e=>(by cases e),fun _ e=>(by cases e),fun _ e=>(by cases e),fun _ e=>(by cases e)⟩
  have ik:inD (.v (.str z)) (.n .lst .own []) = some (.v (.bl false)):=rfl
  have hl2:z.length ≤ 100000:=by omega
  have hlen:=Z4 z
  generalize hR:Tpl atE [.s z,.i 0,.i 1,.i 1] = R at i0' i1 i2 i3 ht l1
  cases hc:z.cps.toList with
  | nil =>
    rw [hc] at hlen
    simp [Zi,ht,l1,m45,l2,i0',len_str hl2,hlen,nameB,lwhy]
  | cons c cs =>
    rw [hc] at hlen
    simp only [List.length_cons] at hlen
    have g1:(1:Int) ≤ z.length:=by omega
    by_cases h8:z.length ≤ 8
    · have g2:(z.length:Int) ≤ 8:=by omega
      by_cases hL:c ∈ LT
      · have hn:notinD (sg c) ltrs = some (.v (.bl false)):=by rw [ltr_in]; simp [hL]
        simp [Zi,ht,l1,m45,l2,i0',len_str hl2,g1,g2,Zcc hc hl2,hn]
        refine odd_c i0' (by omega) ?_
        have hE:=Zjf hc h8 hL
        have hN:=Zir (enc:=D.str) (ok:=okS) (w:=.own) (w':=.own) (xs:=(odd z).map sgS) (fun x hx'=>by
          obtain ⟨k,hk,rfl⟩:=List.mem_map.mp hx'
          intro y hy
          have:y = k:=by simpa [sgS] using hy
          have:=hx k (List.mem_filter.mp hk).1
          omega)
        rw [show ((odd z).map sgS).isEmpty = (odd z).isEmpty by simp,hE] at hN
        have hm:mkLst [] = some (.n .lst .own []):=rfl
        rw [← hc]
        generalize Lst D.str .own ((odd z).map sgS) = G at hN
        cases hnm:nameB z.cps.toList with
        | false=>simp [hm,hN,hnm,lwhy]
        | true =>
          have mx:max (0:Int) (-1) ≤ 1:=by decide
          simp [hm,hN,hnm,i0',ik,i1,i2,i3,wh,l1,mx,lwhy]
      · have hn:notinD (sg c) ltrs = some (.v (.bl true)):=by rw [ltr_in]; simp [hL]
        simp [Zi,ht,l1,m45,l2,i0',len_str hl2,g1,g2,Zcc hc hl2,hn,nameB,hL,lwhy]
    · have g2:¬ (z.length:Int) ≤ 8:=by omega
      have g3:¬ cs.length + 1 ≤ 8:=by omega
      simp [Zi,ht,l1,m45,l2,i0',len_str hl2,g1,g2,nameB,g3,lwhy])
def badF (cs:List Nat):List Nat:=cs.filter fun c=>!decide (c ∈ FGs)
theorem bad_c (hz:z.length ≤ 5000):dComp true [1] (diP (itA true) (pVar 0)) (tgN 1) (dtV (dN (f2 notinD) [.k (pVar 1),.k (pC (.str "0123456789"))])) (dP (pVar 1)) [some (D.v (.str z)),none] = .ok (Lst D.str .own ((badF z.cps.toList).map sgS)) [some (D.v (.str z)),none]:=by
  refine of_sat (Zig (out:=D.str) (Q:=fun a s'=>a = _ ∧ s' = _) (fun c=>D.str (sgS c)) z.cps.toList (fun c=>!decide (c ∈ FGs)) sgS (by simp [diP,it_str,sg_S]) rfl (fun c _=>?_) (by have:=Z4 z; omega) ⟨rfl,rfl⟩)
  have e2:notinD (D.str (sgS c)) (.v (.str "0123456789")) = some (.v (.bl (!decide (c ∈ FGs)))):=rfl
  by_cases hc:c ∈ FGs <;> simp [e2,hc]
theorem Zpd {cs:List Nat}:(badF cs).isEmpty = digB cs:=by
  unfold badF digB
  rw [Bool.eq_iff_iff]
  simp [List.filter_eq_nil_iff]
theorem Zlx (hl:z.length ≤ 50000) (hx:okS z):callK Zbd [.v (.str z)] s = .ok (numE (numV z.cps.toList)) s:=Zg rfl (by
  have hl2:z.length ≤ 100000:=by omega
  have hlen:=Z4 z
  have hne:neD (.v (.str z)) (.v (.str "0")) = some (.v (.bl (!decide (z.cps.toList = [48])))):=by
    rw [Zc4 hx (by intro c hc; rw [Zcz] at hc; simp at hc; omega)]
    congr 3
    rw [Bool.eq_iff_iff,Zcz]
    simp only [Bool.not_eq_true',decide_eq_false_iff_not]
    constructor
    · intro h q; exact h (Str.ext' (by rw [q]))
    · intro h q; exact h (by rw [q])
  cases hc:z.cps.toList with
  | nil =>
    rw [hc] at hlen
    simp [ZR,len_str hl2,hlen,numV,numB,numE]
  | cons c cs =>
    have hcomp:=fun (h:z.length ≤ 5000)=>bad_c h
    have hN:=Zir (enc:=D.str) (ok:=okS) (w:=.own) (w':=.own) (xs:=(badF z.cps.toList).map sgS) (fun x hx'=>by
      obtain ⟨k,hk,rfl⟩:=List.mem_map.mp hx'
      intro y hy
      have:y = k:=by simpa [sgS] using hy
      have:=hx k (List.mem_filter.mp hk).1
      omega)
    rw [show ((badF z.cps.toList).map sgS).isEmpty = (badF z.cps.toList).isEmpty by simp,Zpd] at hN
    generalize Lst D.str .own ((badF z.cps.toList).map sgS) = X at hcomp hN
    rw [hc] at hlen hne hN
    have hcc:c < 1114112:=hx c (by rw [hc]; simp)
    simp only [List.length_cons] at hlen
    have e1:¬ (z.length:Int) < 1:=by omega
    have hm:mkLst [] = some (.n .lst .own []):=rfl
    by_cases h8:z.length ≤ 4
    · have e2:¬ (4:Int) < (z.length:Int):=by omega
      have hcomp:=hcomp (by omega)
      have e0:eqD (sg c) (.v (.str "0")) = some (.v (.bl (decide (c = 48)))):=by
        show eqD (.v (.str (sgS c))) _ = _
        rw [Zl3 (by intro y hy; simp [sgS] at hy; omega) (by intro y hy; rw [Zcz] at hy; simp at hy; omega),Zcz]
        congr 3
        simp [sgS]
      have hn:numE (numV (c :: cs)) = if digB (c :: cs) then (if c = 48 ∧ cs ≠ [] then .v .non else .v (.int ((NumText.digitsVal (c :: cs):Nat):Int))) else .v .non:=by
        unfold numV numB
        have:(c :: cs).length ≤ 4:=by simp; omega
        simp only [this,decide_true,Bool.true_and]
        cases digB (c :: cs)
        · rfl
        · simp only [Bool.true_and]
          by_cases h4:c = 48 <;> cases cs <;> simp [h4,numE]
      rw [hn]
      cases hd:digB (c :: cs) with
      | false =>
        rw [hd] at hN
        simp [ZR,len_str hl2,e1,e2,hcomp,hm,hN]
      | true =>
        rw [hd] at hN
        have hi:Fs.intD (.v (.str z)) = some (.v (.int ((NumText.digitsVal (c :: cs):Nat):Int))):=by
          simp only [Fs.intD]
          rw [if_pos (by omega),intText_digits (by rw [hc]; exact ZjH hd) (by rw [hc]; simp) (by omega),hc]
          rfl
        by_cases h4:c = 48
        · subst h4
          cases cs with
          | nil=>simp [ZR,len_str hl2,e1,e2,hcomp,hm,hN,Zcc hc hl2,e0,hne,hi]
          | cons d ds=>simp [ZR,len_str hl2,e1,e2,hcomp,hm,hN,Zcc hc hl2,e0,hne,hi]
        · simp [ZR,len_str hl2,e1,e2,hcomp,hm,hN,Zcc hc hl2,e0,h4,hne,hi]
    · have e2:(4:Int) < (z.length:Int):=by omega
      have e8:¬ cs.length + 1 ≤ 4:=by omega
      simp [ZR,len_str hl2,e1,e2,numV,numB,e8,numE])
def numW:Option Nat → V | some n=>.int (n:Int) | none=>.non
theorem ZiY:∀ os:List (Option Nat),valsD (os.map numE) = some (os.map numW)
  | []=>rfl
  | o :: os=>by cases o <;> simp [valsD,ZiY os,numE,numW]
theorem in_num (os:List (Option Nat)):inD (.v .non) (Lst numE w os) = some (.v (.bl (decide (none ∈ os)))):=by
  have e0:∀ os:List (Option Nat),inV .non (os.map numW) = decide (none ∈ os):=by
    intro os
    induction os with
    | nil=>rfl
    | cons o os ih =>
      unfold inV at ih ⊢
      rw [List.map_cons,List.any_cons,ih]
      cases o with
      | none=>simp [numW]; exact .inl rfl
      | some n =>
        have:eqV (numW (some n)) .non = false:=rfl
        rw [this]
        simp
  have e:inB (.v .non) (Lst numE w os) = some (decide (none ∈ os)):=by
    simp only [inB,Lst,seqA,Option.bind_some,ZiY,e0]
  simp only [inD,e]
  rfl
def nv (x:Str):Option Nat:=numV x.cps.toList
/-- the row that words tell -/
def lnR:List Str → Option Rw
  | []=>none
  | a :: r=>if (r.length = 3 ∨ r.length = 4) ∧ nameB a.cps.toList = true ∧ none ∉ r.map nv then some (.t (.s a :: r.map fun x=>At.i (((nv x).getD 0:Nat):Int))) else none
def optE:Option Rw → D | none=>.v .non | some e=>rwE e
instance:Ke optE:=⟨fun o=>by cases o with | none=>rfl | some e=>exact Ke.kept (enc:=rwE) e⟩
theorem Zjg {F:List D → Out D} {r:List Str} {dd:DA} {y0 y1 y2:Option D} (hF:∀ x ∈ r,∀ s,callK F [.v (.str x)] s = .ok (numE (nv x)) s) (hr:r.length ≤ 10) (hd:dd [y0,y1,y2,none] = .ok (r.map D.str) [y0,y1,y2,none]):dComp true [3] dd (tgN 3) dtYes (dCall F (daLend (pVar 3) daNil)) [y0,y1,y2,none] = .ok (Lst numE .own (r.map nv)) [y0,y1,y2,none] :=
  of_sat (sat_cm (keep:=true) (i:=3) (s:=[y0,y1,y2,none]) (out:=numE) (Q:=fun a s'=>a = Lst numE .own (r.map nv) ∧ s' = [y0,y1,y2,none]) (di:=dd) (elt:=dCall F (daLend (pVar 3) daNil)) D.str r nv (by rw [hd]; exact sat_ok.mpr ⟨rfl,rfl⟩) rfl (fun x hx=>by
    have h:=hF x hx
    have e:lend (D.str x) = D.v (.str x):=rfl
    simp [D.str,h] at h ⊢) (by omega) ⟨rfl,rfl⟩)
theorem Zi7 {a:Str} {r:List Str} (hn:none ∉ r.map nv) (hr:r.length ≤ 10):∃ m,addA (Lst D.str .own [a]) (Lst numE .own (r.map nv)) = some m ∧ tupD m = some (rwE (.t (.s a :: r.map fun x=>At.i (((nv x).getD 0:Nat):Int)))):=by
  have e1:Lst D.str .own [a] = Lst atE .own [.s a]:=rfl
  have e2:Lst numE .own (r.map nv) = Lst atE .own (r.map fun x=>At.i (((nv x).getD 0:Nat):Int)):=by
    simp only [Lst,List.map_map]
    congr 1
    refine List.map_congr_left fun x hx=>?_
    show numE (nv x) = _
    cases h:nv x with
    | none=>exact absurd (by rw [← h]; exact List.mem_map_of_mem hx) hn
    | some n=>simp [numE,atE,h]
  rw [e1,e2]
  exact ⟨_,Zc8 (enc:=atE) (xs:=[.s a]) (ys:=r.map fun x=>At.i (((nv x).getD 0:Nat):Int)) (by simp; omega),ZkZ (enc:=atE)⟩
structure Wds (ws:List Str):Prop where
  ne:ws ≠ []
  ok:∀ x ∈ ws,Tx 50000 x
  len:ws.length ≤ 60000
theorem wds_of {n:Nat} {ws:List Str} (h:SpT n ws) (hn:n ≤ 50000):Wds ws:=⟨h.ne,fun x hx=>(h.ok x hx).mono hn,by have:=h.mu; simp only [mu] at this; omega⟩
theorem Zkd (h:Tx 50000 z):callK ZM [.v (.str z)] s = .ok (optE (lnR (Txt.split z " "))) s:=Zg rfl (by
  obtain ⟨sp,h2⟩:=ZgD h (by decide)
  have W:=wds_of h2 (Nat.le_refl _)
  have ty:tyF "str" (.v (.str z)) = some (.v (.str z)):=rfl
  generalize Txt.split z " " = ws at sp W
  cases ws with
  | nil=>exact absurd rfl W.ne
  | cons a r =>
    have ln:lenD (Lst D.str .own (a :: r)) = some (.v (.int ((r.length + 1:Nat):Int))):=ZgT
    have i0:ixD (Lst D.str .own (a :: r)) (.v (.int 0)) = some (.v (.str a)):=ix_Lst (enc:=D.str) (i:=0) rfl
    have s1:=sl_Lst (enc:=D.str) (w:=.own) (xs:=a :: r) (a:=.v (.int 1)) (b:=.v .non) (lo:=some 1) (hi:=none) rfl rfl
    rw [show (1:Int) = ((1:Nat):Int) from rfl,ZdF] at s1
    have s0:=sl_Lst (enc:=D.str) (w:=.own) (xs:=a :: r) (a:=.v .non) (b:=.v (.int 1)) (lo:=none) (hi:=some 1) rfl rfl
    rw [show (1:Int) = ((1:Nat):Int) from rfl,ZdG (by simp)] at s0
    have s1:slD [Lst D.str .own (a :: r),.v (.int 1),.v .non] = some (Lst D.str .own r):=s1
    have s0:slD [Lst D.str .own (a :: r),.v .non,.v (.int 1)] = some (Lst D.str .own [a]):=s0
    have nm:=fun s=>ZiB (s:=s) (W.ok a List.mem_cons_self).len
    have nF:∀ x ∈ r,∀ s,callK Zv [.v (.str x)] s = .ok (numE (nv x)) s:=fun x hx s=>ZfI (W.ok x (List.mem_cons_of_mem _ hx)).len (W.ok x (List.mem_cons_of_mem _ hx)).ok
    generalize Lst D.str .own (a :: r) = P at sp ln i0 s1 s0
    by_cases hr:r.length = 3 ∨ r.length = 4
    · have g1:(4:Int) ≤ ((r.length + 1:Nat):Int):=by omega
      have g2:((r.length + 1:Nat):Int) ≤ 5:=by omega
      generalize ((r.length + 1:Nat):Int) = N at ln g1 g2
      cases hb:nameB a.cps.toList with
      | false=>simp [ZP,ty,sp,ln,i0,nm,g1,g2,hb,lnR,optE]
      | true =>
        simp [ZP,ty,sp,ln,i0,nm,g1,g2,hb]
        rw [Zjg nF (by omega) (by simp [diD,s1])]
        have hi:=in_num (w:=.own) (r.map nv)
        by_cases hn:none ∈ r.map nv
        · rw [show decide (none ∈ r.map nv) = true from decide_eq_true hn] at hi
          generalize Lst numE .own (r.map nv) = Q at hi
          simp [hi,lnR,hr,hb,hn,optE]
        · rw [show decide (none ∈ r.map nv) = false from decide_eq_false hn] at hi
          obtain ⟨m,ad,tp⟩:=Zi7 (a:=a) hn (by omega)
          have e:optE (lnR (a :: r)) = rwE (.t (.s a :: r.map fun x=>At.i (((nv x).getD 0:Nat):Int))):=by simp only [lnR]; rw [if_pos ⟨hr,hb,hn⟩]; rfl
          rw [e]
          generalize Lst numE .own (r.map nv) = Q at hi ad
          generalize rwE (.t (.s a :: r.map fun x=>At.i (((nv x).getD 0:Nat):Int))) = G at tp
          simp [hi,s0,ad,tp]
    · have e:lnR (a :: r) = none:=by simp only [lnR]; rw [if_neg (fun q=>hr q.1)]
      rw [e]
      by_cases g1:(4:Int) ≤ ((r.length + 1:Nat):Int)
      · have g2:¬ ((r.length + 1:Nat):Int) ≤ 5:=by omega
        generalize ((r.length + 1:Nat):Int) = N at ln g1 g2
        simp [ZP,ty,sp,ln,g1,g2,optE]
      · generalize ((r.length + 1:Nat):Int) = N at ln g1
        simp [ZP,ty,sp,ln,g1,optE])
theorem Znk (h:Tx 50000 z):callK Zbp [.v (.str z)] s = .ok (optE (lnR (Txt.split z " "))) s:=Zg rfl (by
  obtain ⟨sp,h2⟩:=ZgD h (by decide)
  have W:=wds_of h2 (Nat.le_refl _)
  have ty:tyF "str" (.v (.str z)) = some (.v (.str z)):=rfl
  have m45:mkTup [D.v (.int 4),.v (.int 5)] = some (Tpl D.int [4,5]):=rfl
  have m0:mkLst [] = some (.n .lst .own []):=rfl
  generalize Txt.split z " " = ws at sp W
  cases ws with
  | nil=>exact absurd rfl W.ne
  | cons a r =>
    have ln:lenD (Lst D.str .own (a :: r)) = some (.v (.int ((r.length + 1:Nat):Int))):=ZgT
    have i0:ixD (Lst D.str .own (a :: r)) (.v (.int 0)) = some (.v (.str a)):=ix_Lst (enc:=D.str) (i:=0) rfl
    have s1:=sl_Lst (enc:=D.str) (w:=.own) (xs:=a :: r) (a:=.v (.int 1)) (b:=.v .non) (lo:=some 1) (hi:=none) rfl rfl
    rw [show (1:Int) = ((1:Nat):Int) from rfl,ZdF] at s1
    have s0:=sl_Lst (enc:=D.str) (w:=.own) (xs:=a :: r) (a:=.v .non) (b:=.v (.int 1)) (lo:=none) (hi:=some 1) rfl rfl
    rw [show (1:Int) = ((1:Nat):Int) from rfl,ZdG (by simp)] at s0
    have s1:slD [Lst D.str .own (a :: r),.v (.int 1),.v .non] = some (Lst D.str .own r):=s1
    have s0:slD [Lst D.str .own (a :: r),.v .non,.v (.int 1)] = some (Lst D.str .own [a]):=s0
    have mT:mkTup [.v (.str a),.v (.int 0),.v (.int 1),.v (.int 1)] = some (Tpl atE [.s a,.i 0,.i 1,.i 1]):=rfl
    have nm:=fun s=>Zlv (s:=s) (W.ok a List.mem_cons_self).len (W.ok a List.mem_cons_self).ok
    have nF:∀ x ∈ r,∀ s,callK Zbd [.v (.str x)] s = .ok (numE (nv x)) s:=fun x hx s=>Zlx (W.ok x (List.mem_cons_of_mem _ hx)).len (W.ok x (List.mem_cons_of_mem _ hx)).ok
    have n1:neD (lwhy (some "name")) (.v (.str (Str.ofString ""))) = some (.v (.bl true)):=Zji (by simp)
    have n0:neD (lwhy none) (.v (.str (Str.ofString ""))) = some (.v (.bl false)):=ZhF
    generalize Lst D.str .own (a :: r) = P at sp ln i0 s1 s0
    generalize Tpl atE [.s a,.i 0,.i 1,.i 1] = T at mT nm
    by_cases hr:r.length = 3 ∨ r.length = 4
    · have g0:notinD (.v (.int ((r.length + 1:Nat):Int))) (Tpl D.int [4,5]) = some (.v (.bl false)):=by rcases hr with q | q <;> rw [q] <;> rfl
      generalize ((r.length + 1:Nat):Int) = N at ln g0
      cases hb:nameB a.cps.toList with
      | false =>
        rw [hb] at nm
        simp only [Bool.false_eq_true,if_false] at nm
        simp [Zb2,ty,sp,ln,m45,m0,i0,nm,g0,mT,n1,hb,lnR,optE]
      | true =>
        rw [hb] at nm
        simp only [if_true] at nm
        simp [Zb2,ty,sp,ln,m45,m0,i0,nm,g0,mT,n0]
        rw [Zjg nF (by omega) (by simp [diD,s1])]
        have hi:=in_num (w:=.own) (r.map nv)
        by_cases hn:none ∈ r.map nv
        · rw [show decide (none ∈ r.map nv) = true from decide_eq_true hn] at hi
          generalize Lst numE .own (r.map nv) = Q at hi
          simp [hi,lnR,hr,hb,hn,optE]
        · rw [show decide (none ∈ r.map nv) = false from decide_eq_false hn] at hi
          obtain ⟨m,ad,tp⟩:=Zi7 (a:=a) hn (by omega)
          have e:optE (lnR (a :: r)) = rwE (.t (.s a :: r.map fun x=>At.i (((nv x).getD 0:Nat):Int))):=by simp only [lnR]; rw [if_pos ⟨hr,hb,hn⟩]; rfl
          rw [e]
          generalize Lst numE .own (r.map nv) = Q at hi ad
          generalize rwE (.t (.s a :: r.map fun x=>At.i (((nv x).getD 0:Nat):Int))) = G at tp
          simp [hi,s0,ad,tp]
    · have e:lnR (a :: r) = none:=by simp only [lnR]; rw [if_neg (fun q=>hr q.1)]
      rw [e]
      have g0:notinD (.v (.int ((r.length + 1:Nat):Int))) (Tpl D.int [4,5]) = some (.v (.bl true)):=by
        have:inB (.v (.int ((r.length + 1:Nat):Int))) (Tpl D.int [4,5]) = some false:=by
          have q1:((4:Int) == ((r.length + 1:Nat):Int)) = false:=beq_eq_false_iff_ne.mpr (by omega)
          have q2:((5:Int) == ((r.length + 1:Nat):Int)) = false:=beq_eq_false_iff_ne.mpr (by omega)
          have:inB (.v (.int ((r.length + 1:Nat):Int))) (Tpl D.int [4,5]) = some (((4:Int) == ((r.length + 1:Nat):Int)) || (((5:Int) == ((r.length + 1:Nat):Int)) || false)):=rfl
          rw [this,q1,q2]; rfl
        simp only [notinD,this]
        rfl
      generalize ((r.length + 1:Nat):Int) = N at ln g0
      simp [Zb2,ty,sp,ln,m45,g0,optE])
end
end K08
end Lw
set_option maxHeartbeats 1000000
namespace Lw
namespace K08
open PySem PySem.Spec PyProof.Rows L2 Fs
section
variable {s:Sl} {w w':Fl} {z:Str} {es:List Rw}
abbrev Ln:=Str × List Int
def toE (p:Ln):Rw:=.t (.s p.1 :: p.2.map At.i)
def lnE:Option Ln → D | none=>.v .non | some p=>rwE (toE p)
instance:Ke lnE:=⟨fun o=>by cases o with | none=>rfl | some e=>exact Ke.kept (enc:=rwE) (toE e)⟩
def lnP:List Str → Option Ln
  | []=>none
  | a :: r=>if (r.length = 3 ∨ r.length = 4) ∧ nameB a.cps.toList = true ∧ none ∉ r.map nv then some (a,r.map fun x=>(((nv x).getD 0:Nat):Int)) else none
theorem lnR_P (ws:List Str):optE (lnR ws) = lnE (lnP ws):=by
  cases ws with
  | nil=>rfl
  | cons a r =>
    simp only [lnR,lnP]
    split
    · simp [optE,lnE,toE,List.map_map,Function.comp_def]
    · rfl
structure LnOk (p:Ln):Prop where
  nm:nameB p.1.cps.toList = true
  len:p.2.length = 3 ∨ p.2.length = 4
theorem lnP_ok {ws:List Str} {p:Ln} (h:lnP ws = some p):LnOk p:=by
  cases ws with
  | nil=>cases h
  | cons a r =>
    simp only [lnP] at h
    split at h
    · rename_i q
      cases h
      exact ⟨q.2.1,by simpa using q.1⟩
    · cases h
theorem atk_s8 {x:Str} (h:nameB x.cps.toList = true):AtK (.s x):=⟨fun _ e=>(by cases e; have:=ZdB h; have:=Z4 x; omega),fun _ e=>(by cases e; exact K04.name_small h),fun _ e=>(by cases e),fun _ e=>(by cases e)⟩
theorem atk_i8 {i:Int}:AtK (.i i):=⟨fun _ e=>(by cases e),fun _ e=>(by cases e),fun _ e=>(by cases e),fun _ e=>(by cases e)⟩
theorem rwk_ln {p:Ln} (h:LnOk p):RwK (toE p):=⟨fun ks q=>by
  cases q
  refine ⟨fun a ha=>?_,by have:=h.len; simp; omega⟩
  rcases List.mem_cons.mp ha with rfl | q
  · exact atk_s8 h.nm
  · obtain ⟨i,_,rfl⟩:=List.mem_map.mp q
    exact atk_i8,fun d q=>by cases q⟩
def gL:Option Ln → PyData | none=>.none | some p=>.tuple (.str p.1 :: p.2.map .int)
theorem pds_i:∀ l:List Int,pds ((l.map At.i).map atE) = some (l.map PyData.int)
  | []=>rfl
  | i :: l=>by
    have:=pds_i l
    simp only [List.map_cons,pds,this,atE,pd]
    rfl
theorem pd_ln (o:Option Ln):pd (lnE o) = some (gL o):=by
  cases o with
  | none=>rfl
  | some p =>
    have:=pds_i p.2
    simp only [lnE,toE,rwE,Tpl,List.map_cons,pd,pds,this,atE,gL]
    rfl
theorem pds_ln:∀ os:List (Option Ln),pds (os.map lnE) = some (os.map gL)
  | []=>rfl
  | o :: os=>by simp [pds,pd_ln,pds_ln os]
theorem lay_i:∀ l:List Int,PyData.canLayAll0 (l.map PyData.int) = true ∧ PyData.depthAll (l.map PyData.int) ≤ 1
  | []=>⟨rfl,by simp [PyData.depthAll]⟩
  | i :: l=>by
    obtain ⟨h1,h2⟩:=lay_i l
    refine ⟨by simp [PyData.canLayAll0,PyData.canLay0,h1],?_⟩
    simp [PyData.depthAll,PyData.depth]
    omega
theorem okS_nm {p:Ln} (h:LnOk p):okS p.1:=fun c hc=>by have:=K04.name_small h.nm c hc; omega
theorem lay_ln:∀ os:List (Option Ln),(∀ p,some p ∈ os → LnOk p) → PyData.canLayAll0 (os.map gL) = true ∧ PyData.depthAll (os.map gL) ≤ 8
  | [],_=>⟨rfl,by simp [PyData.depthAll]⟩
  | o :: os,h=>by
    obtain ⟨h1,h2⟩:=lay_ln os fun p hp=>h p (List.mem_cons_of_mem _ hp)
    cases o with
    | none =>
      refine ⟨by simp [PyData.canLayAll0,PyData.canLay0,gL,h1],?_⟩
      simp [PyData.depthAll,PyData.depth,gL]
      omega
    | some p =>
      have h3:=ZdR (okS_nm (h p List.mem_cons_self))
      obtain ⟨h4,h5⟩:=lay_i p.2
      refine ⟨by simp [PyData.canLayAll0,PyData.canLay0,gL,h1,h3,h4],?_⟩
      simp [PyData.depthAll,PyData.depth,gL]
      omega
theorem Zhp {os:List (Option Ln)} (h:∀ p,some p ∈ os → LnOk p):SeqAt.shaped (.list (os.map gL)) = true:=by
  obtain ⟨h1,h2⟩:=lay_ln os h
  simp [SeqAt.shaped,PyData.canLay0,h1,PyData.depth]
  omega
theorem Zfv:∀ {os:List (Option Ln)},(∃ p,some p ∈ os) → valsD (os.map lnE) = none
  | [],⟨p,h⟩=>by cases h
  | some q :: os,_=>rfl
  | none :: os,⟨p,h⟩=>by
    have h2:some p ∈ os:=by simpa using h
    have:=Zfv ⟨p,h2⟩
    simp [lnE,valsD,this]
theorem Zfw:∀ {os:List (Option Ln)},(¬ ∃ p,some p ∈ os) → valsD (os.map lnE) = some (os.map fun _=>V.non)
  | [],_=>rfl
  | some q :: os,h=>absurd ⟨q,List.mem_cons_self⟩ h
  | none :: os,h=>by
    have:=Zfw (os:=os) fun ⟨p,q⟩=>h ⟨p,List.mem_cons_of_mem _ q⟩
    simp [lnE,valsD,this]
theorem any_ln (os:List (Option Ln)):(os.map gL).any (fun z=>PyData.eqv z .none) = decide (none ∈ os):=by
  induction os with
  | nil=>rfl
  | cons o os ih =>
    rw [List.map_cons,List.any_cons,ih]
    cases o with
    | none=>simp [gL,PyData.eqv]
    | some p=>simp [gL,PyData.eqv]
theorem Zkj {os:List (Option Ln)} (h:∀ p,some p ∈ os → LnOk p):inD (.v .non) (Lst lnE w os) = some (.v (.bl (decide (none ∈ os)))):=by
  have hi:inB (.v .non) (Lst lnE w os) = some (decide (none ∈ os)):=by
    by_cases hs:∃ p,some p ∈ os
    · simp only [inB,Lst,seqA,Option.bind_some,Zfv hs,pds_ln,pd]
      rw [if_pos ⟨by rfl,Zhp h⟩,any_ln]
    · simp only [inB,Lst,seqA,Option.bind_some,Zfw hs]
      cases os with
      | nil=>rfl
      | cons o os =>
        cases o with
        | some p=>exact absurd ⟨p,List.mem_cons_self⟩ hs
        | none=>simp [inV]; exact .inl rfl
  simp only [inD,hi]
  rfl
theorem ZhU {d:PyData}:∀ {es:List PyData},es.any (fun z=>PyData.eqv z d) = true → ∃ n,idxP d es = some n
  | [],h=>by cases h
  | e :: es,h=>by
    unfold idxP
    split
    · exact ⟨0,rfl⟩
    · rename_i q
      rw [List.any_cons] at h
      obtain ⟨n,e⟩:=ZhU (es:=es) (by simpa [q] using h)
      rw [e]
      exact ⟨_,rfl⟩
theorem Znx {os:List (Option Ln)} (h:∀ p,some p ∈ os → LnOk p) (hn:none ∈ os):∃ n:Nat,indexX [Lst lnE w os,.v .non] = some (.v (.int (n:Int))):=by
  by_cases hs:∃ p,some p ∈ os
  · have e0:indexD [Lst lnE w os,.v .non] = none:=by
      simp only [indexD,seqL,Lst,Option.bind_some,Zfv hs]
      rfl
    obtain ⟨n,e⟩:=ZhU (d:=.none) (es:=os.map gL) (by rw [any_ln]; simpa using hn)
    have e1:indexP [Lst lnE w os,.v .non] = some (.v (.int (n:Int))):=by
      simp only [indexP,Lst,pd,Option.bind_some,pds_ln]
      rw [if_pos ⟨by rfl,Zhp h⟩,e]
      rfl
    exact ⟨n,by simp only [indexX,e0,e1]⟩
  · cases os with
    | nil=>cases hn
    | cons o os =>
      cases o with
      | some p=>exact absurd ⟨p,List.mem_cons_self⟩ hs
      | none =>
        have e0:indexD [Lst lnE w (none :: os),.v .non] = some (.v (.int 0)):=by
          simp only [indexD,seqL,Lst,Option.bind_some,Zfw hs]
          rfl
        exact ⟨0,by simp only [indexX,e0]; rfl⟩
theorem ZjN:∀ {os:List (Option Ln)},none ∉ os → ∃ ps:List Ln,os = ps.map some
  | [],_=>⟨[],rfl⟩
  | none :: os,h=>absurd List.mem_cons_self h
  | some p :: os,h=>by
    obtain ⟨ps,e⟩:=ZjN (os:=os) fun q=>h (List.mem_cons_of_mem _ q)
    exact ⟨p :: ps,by rw [e]; rfl⟩
theorem mk_any (hw:w ≠ .own) (h:∀ e ∈ es,RwK e):(∀ d y,rowsF es = some (d,y) → ∀ s,callK (mkF 20 Ze) [Lst rwE w es] s = .exc 1 [d,wordD y] s) ∧ (rowsF es = none → RowsOk (es.map rowOf) ∧ ∀ s,callK (mkF 20 Ze) [Lst rwE w es] s = .ok (Pcs .own (es.map rowOf)) s):=by
  have hlend:lend (Lst rwE w es) = Lst rwE w es:=by cases w <;> simp at hw ⊢
  obtain ⟨h1,h2⟩:=Znz (R:=Lst rwE w es) (es:=es) rfl (by simp) (by simp only [Lst,itEn]; rw [if_pos ⟨Zbb es,.inr hw⟩]) h
  constructor
  · intro d y q s
    have e:=h1 d y q
    generalize Lst rwE w es = R at e hlend
    have hx:Ze [.n (.obj 20 []) .own [],R] = .exc 1 [d,wordD y] [some (.n (.obj 20 []) .own []),none]:=by
      unfold Ze
      rw [runF_c rfl]
      simp [ZG,hlend,e,ioF]
    unfold callK mkF
    rw [hx]
    rfl
  · intro q
    obtain ⟨hr,e⟩:=h2 q
    refine ⟨hr,fun s=>?_⟩
    generalize es.map rowOf = rs at e hr
    generalize Lst rwE w es = R at e hlend
    have e2:fldSK (plV 0) 20 "fives" (fivesD .own rs) [some (.n (.obj 20 []) .own []),some R] = .ok .nx [some (Zj .own rs),some R]:=rfl
    have hx:Ze [.n (.obj 20 []) .own [],R] = .ok .non [some (Zj .own rs),none]:=by
      unfold Ze
      rw [runF_c rfl]
      simp [ZG,hlend,e,e2,ioF]
    refine Zfs (s':=[none]) ?_
    unfold mkF
    rw [hx]
    rfl
theorem Zld {d:D} {y:String} (h:rowsF es = some (d,y)):∃ n:Int,d = .v (.int n):=by
  unfold rowsF at h
  split at h
  · cases h; exact ⟨_,rfl⟩
  · obtain ⟨p,_,e⟩:=Option.map_eq_some_iff.mp h
    cases e
    exact ⟨_,rfl⟩
def badT (n:Int) (y:String):D:=.n .tup .shr [.v (.str "bad"),.v (.int n),wordD y]
def rowsT (rs:List Row):D:=.n .tup .shr [.v (.str "rows"),Tpl rowD rs]
theorem tails {os:List (Option Ln)} (ok:∀ p,some p ∈ os → LnOk p) (hl:os.length ≤ 60000) :
    (∃ n y,(∀ T,∃ s',Z3 [some T,some (Lst lnE .own os),none,none,none,none,none] = .exc 2 [.v (.int n),wordD y] s') ∧ (∀ T,∃ s',ZbH [some T,some (Lst lnE .own os),none,none,none] = .ok (.rt (badT n y)) s')) ∨
    (∃ rs,RowsOk rs ∧ (∀ T,∃ s',Z3 [some T,some (Lst lnE .own os),none,none,none,none,none] = .ok (.rt (Pcs .own rs)) s') ∧ (∀ T,∃ s',ZbH [some T,some (Lst lnE .own os),none,none,none] = .ok (.rt (rowsT rs)) s')):=by
  have hi:=Zkj (w:=.own) ok
  by_cases hn:none ∈ os
  · rw [show decide (none ∈ os) = true from decide_eq_true hn] at hi
    obtain ⟨n,ei⟩:=Znx (w:=.own) ok hn
    have ty:tyF "list" (Lst lnE .own os) = some (Lst lnE .own os):=rfl
    have mT:mkTup [.v (.str "bad"),.v (.int (n:Int)),.v (.str "form")] = some (badT n "form"):=rfl
    generalize Lst lnE .own os = R at hi ei ty
    refine .inl ⟨n,"form",fun T=>?_,fun T=>?_⟩
    · simp [hi,ty,ei,wordD]
    · simp [hi,ty,ei,mT]
  · rw [show decide (none ∈ os) = false from decide_eq_false hn] at hi
    obtain ⟨ps,rfl⟩:=ZjN hn
    have hk:∀ e ∈ ps.map toE,RwK e:=fun e he=>by
      obtain ⟨p,hp,rfl⟩:=List.mem_map.mp he
      exact rwk_ln (ok p (List.mem_map_of_mem hp))
    have eL:Lst lnE .own (ps.map some) = Lst rwE .own (ps.map toE):=by
      simp only [Lst,List.map_map]; rfl
    rw [eL] at hi ⊢
    have hl2:(ps.map toE).length ≤ 60000:=by simpa using hl
    generalize ps.map toE = es at hk hi hl2
    obtain ⟨m1,m2⟩:=mk_any (w:=.bor) (by decide) hk
    have lf:=K06.lfault_own hk .bor (by decide)
    have ln:lend (Lst rwE .own es) = Lst rwE .bor es:=by simp
    have nn:=K06.notN_faultE (es:=es)
    cases hf:rowsF es with
    | some p =>
      obtain ⟨d,y⟩:=p
      obtain ⟨n,rfl⟩:=Zld hf
      have m1:=m1 _ _ hf
      rw [hf] at lf nn
      have bd:=K06.bad_add (d:=.v (.int n)) (y:=y) rfl
      have mB:mkTup [.v (.str "bad")] = some (.n .tup .shr [.v (.str "bad")]):=rfl
      have ks:(wordD y).kept = true:=rfl
      have kd:(D.v (.int n)).kept = true:=rfl
      have f1:Option.filter D.kept (some (wordD y)) = some (wordD y):=rfl
      have f2:Option.filter D.kept (some (D.v (.int n))) = some (D.v (.int n)):=rfl
      have fe:faultE (some (D.v (.int n),y)) = tellD (.v (.int n)) y:=rfl
      rw [fe] at lf nn
      generalize Lst rwE .own es = R at hi ln
      generalize Lst rwE .bor es = Rb at ln m1 lf
      refine .inl ⟨n,y,fun T=>?_,fun T=>?_⟩
      · simp [hi,ln,m1]
        rw [Zi1 rfl (by simp [kd,ks])]
        simp [pick,okI,wipeI,Out.behind,f1,f2]
      · generalize tellD (.v (.int n)) y = TT at lf nn bd
        simp [hi,ln,lf,nn,mB,bd,badT]
    | none =>
      obtain ⟨hr,m2⟩:=m2 hf
      have gd:=K06.rows_good hf
      rw [hf] at lf nn
      have n0:faultE none = .v .non:=rfl
      rw [n0] at lf
      have nn0:notND (.v .non) = some (.v (.bl false)):=rfl
      have ff:∀ rs,(Pcs .own rs).free = true:=fun _=>rfl
      have np:∀ rs,isND (Pcs .own rs) = some (.v (.bl false)):=fun _=>rfl
      refine .inr ⟨es.map rowOf,hr,fun T=>?_,fun T=>?_⟩
      · generalize es.map rowOf = rs at m2
        generalize Lst rwE .own es = R at hi ln
        generalize Lst rwE .bor es = Rb at ln m2
        simp [hi,ln,m2,np,dMv,ff]
      · have it:itA true (Lst rwE .own es) = some (es.map rwE):=it_Lst
        have mR:mkTup [.v (.str "rows"),Tpl rowD (es.map rowOf)] = some (rowsT (es.map rowOf)):=rfl
        have tp:tupD (Lst rowD .own (es.map rowOf)) = some (Tpl rowD (es.map rowOf)):=ZkZ
        generalize hR:Lst rwE .own es = R at hi ln it
        generalize Lst rwE .bor es = Rb at ln lf
        have hc:dComp true [4] (diP (itA true) (pVar 1)) (tgN 4) dtYes (dN slD [.v (dN (f2 addA) [.k (pVar 4),.v (dN slD [.k (pVar 4),.k (pUn intP (pC (.int 3))),.k (pUn intP (pC (.int 4)))])]),.k (pC .non),.k (pUn intP (pC (.int 5)))]) [some T,some R,none,some (.v .non),none] = .ok (Lst rowD .own (es.map rowOf)) [some T,some R,none,some (.v .non),none] :=
          of_sat (sat_cm (keep:=true) (i:=4) (out:=rowD) (Q:=fun a s'=>a = _ ∧ s' = _) rwE es rowOf (by simp [diP,it]) rfl (fun e he=>by
            obtain ⟨kn,hg⟩:=gd e he
            obtain ⟨Y,Z,a1,a2,a3⟩:=K06.five_sl hg
            generalize rwE e = X at a1 a2
            generalize rowD (rowOf e) = G at a3
            simp [a1,a2,a3]) (by omega) ⟨rfl,rfl⟩)
        generalize Lst rowD .own (es.map rowOf) = Q at hc tp
        generalize Tpl rowD (es.map rowOf) = Tq at tp mR
        generalize rowsT (es.map rowOf) = G at mR
        simp [hi,ln,lf,nn0,hc,tp,mR]
end
end K08
end Lw
set_option maxHeartbeats 1000000
namespace Lw
namespace K08
open PySem PySem.Spec PyProof.Rows L2 Fs
section
variable {s:Sl} {w w':Fl} {z:Str} {es:List Rw}
def lnsT (z:Str):List (Option Ln):=(Txt.split z "\n").map fun l=>lnP (Txt.split l " ")
theorem ZjK {F:List D → Out D} {dd:DA} {y0 y1:Option D} {rest:Sl} {ws:List Str} (hF:∀ z,Tx 50000 z → ∀ s,callK F [.v (.str z)] s = .ok (optE (lnR (Txt.split z " "))) s) (W:Wds ws) (hd:dd (y0 :: y1 :: none :: rest) = .ok (ws.map D.str) (y0 :: y1 :: none :: rest)) :
    dComp true [2] dd (tgN 2) dtYes (dCall F (daLend (pVar 2) daNil)) (y0 :: y1 :: none :: rest) = .ok (Lst lnE .own (ws.map fun l=>lnP (Txt.split l " "))) (y0 :: y1 :: none :: rest) :=
  of_sat (sat_cm (keep:=true) (i:=2) (out:=lnE) (Q:=fun a s'=>a = _ ∧ s' = _) D.str ws (fun l=>lnP (Txt.split l " ")) (by rw [hd]; exact sat_ok.mpr ⟨rfl,rfl⟩) rfl (fun x hx=>by
    have h:=hF x (W.ok x hx)
    rw [lnR_P] at h
    simp [D.str,h]) (by have:=W.len; omega) ⟨rfl,rfl⟩)
theorem lns_ok {z:Str}:∀ p,some p ∈ lnsT z → LnOk p:=fun p hp=>by
  obtain ⟨l,_,e⟩:=List.mem_map.mp hp
  exact lnP_ok e
theorem Zoc (h:Tx 50000 z):∃ os,(∀ p,some p ∈ os → LnOk p) ∧ os.length ≤ 60000 ∧
    ZL [some (.v (.str z)),none,none,none,none,none,none] = Z3 [some (.v (.str z)),some (Lst lnE .own os),none,none,none,none,none] ∧
    ZbV [some (.v (.str z)),none,none,none,none] = ZbH [some (.v (.str z)),some (Lst lnE .own os),none,none,none]:=by
  have m0:mkLst [] = some (Lst lnE .own []):=rfl
  have iz:isiD "str" (.v (.str z)) = some (.v (.bl true)):=rfl
  by_cases hz:z = ""
  · subst hz
    refine ⟨[],fun p hp=>(by cases hp),by simp,?_,?_⟩
    · have ne:neD (.v (.str "")) (.v (.str "")) = some (.v (.bl false)):=by rw [Zc4 okS_of okS_of]; rfl
      generalize Lst lnE .own [] = L at m0
      simp [ZH,m0,ne,-Zb5]
    · have ne:neD (.v (.str "")) (.v (.str "")) = some (.v (.bl false)):=by rw [Zc4 okS_of okS_of]; rfl
      generalize Lst lnE .own [] = L at m0
      simp [Zb3,m0,ne,-ZdP]
  · obtain ⟨sp,h2⟩:=Zjr h (by decide)
    have W:=wds_of h2 (Nat.le_refl _)
    have ty:tyF "str" (.v (.str z)) = some (.v (.str z)):=rfl
    have ne:neD (.v (.str z)) (.v (.str "")) = some (.v (.bl true)):=by rw [Zc4 h.ok okS_of]; simp [hz]
    refine ⟨lnsT z,lns_ok,by have:=W.len; simpa [lnsT] using this,?_,?_⟩
    · have hc:=ZjK (F:=ZM) (dd:=diD (itA true) (dN splitD [.k (pUn (tyF "str") (pVar 0)),.k (pC (.str "\n"))])) (y0:=some (.v (.str z))) (y1:=some (Lst lnE .own [])) (rest:=[none,none,none,none]) (fun z hz s=>Zkd hz) W (by simp [diD,ty,sp])
      have e:(Txt.split z "\n").map (fun l=>lnP (Txt.split l " ")) = lnsT z:=rfl
      rw [e] at hc
      generalize Lst lnE .own (lnsT z) = Q at hc
      generalize Lst lnE .own [] = L at m0 hc
      simp [ZH,m0,ne,hc,-Zb5]
    · have hc:=ZjK (F:=Zbp) (dd:=diD (itA true) (dN splitD [.k (pUn (tyF "str") (pVar 0)),.k (pC (.str "\n"))])) (y0:=some (.v (.str z))) (y1:=some (Lst lnE .own [])) (rest:=[none,none]) (fun z hz s=>Znk hz) W (by simp [diD,ty,sp])
      have e:(Txt.split z "\n").map (fun l=>lnP (Txt.split l " ")) = lnsT z:=rfl
      rw [e] at hc
      generalize Lst lnE .own (lnsT z) = Q at hc
      generalize Lst lnE .own [] = L at m0 hc
      simp [Zb3,m0,ne,hc,-ZdP]
theorem Zm0 (h:Tx 50000 z) :
    (∃ n y,(∀ s,callK Zh [.v (.str z)] s = .exc 2 [.v (.int n),wordD y] s) ∧ ∀ s,callK Zw [.v (.str z)] s = .ok (badT n y) s) ∨
    (∃ rs,RowsOk rs ∧ (∀ s,callK Zh [.v (.str z)] s = .ok (Pcs .own rs) s) ∧ ∀ s,callK Zw [.v (.str z)] s = .ok (rowsT rs) s):=by
  obtain ⟨os,ok,hl,e1,e2⟩:=Zoc h
  have due:∀ V,(∃ s',ZbH [some (.v (.str z)),some (Lst lnE .own os),none,none,none] = .ok (.rt V) s') → ∀ s,callK Zw [.v (.str z)] s = .ok V s:=fun V ⟨s',q⟩ s=>Zg rfl (by
    show sat (ZbV [some (.v (.str z)),none,none,none,none]) _
    rw [e2,q]
    exact sat_ok.mpr rfl)
  rcases tails ok hl with ⟨n,y,h1,h2⟩ | ⟨rs,hr,h1,h2⟩
  · refine .inl ⟨n,y,fun s=>?_,due _ (h2 _)⟩
    obtain ⟨s',q⟩:=h1 (.v (.str z))
    exact Zg4 rfl (s':=s') (by
      show ZL [some (.v (.str z)),none,none,none,none,none,none] = _
      rw [e1,q])
  · refine .inr ⟨rs,hr,fun s=>?_,due _ (h2 _)⟩
    obtain ⟨s',q⟩:=h1 (.v (.str z))
    exact Zg rfl (by
      show sat (ZL [some (.v (.str z)),none,none,none,none,none,none]) _
      rw [e1,q]
      exact sat_ok.mpr rfl)
theorem Zi8 {d:D} (h:isiD "str" d = some (.v (.bl false))):(∀ s,callK Zh [d] s = .exc 2 [.v (.int 0),wordD "form"] s) ∧ ∀ s,callK Zw [d] s = .ok (badT 0 "form") s:=by
  have mT:mkTup [.v (.str "bad"),.v (.int 0),.v (.str "form")] = some (badT 0 "form"):=rfl
  refine ⟨fun s=>Zg4 rfl (s':=_) (by simp [ZH,h,wordD]; rfl),fun s=>Zg rfl (by simp [Zb3,h,mT])⟩
theorem Zk6 {r:Row} (n:Nat):sameF (n + 2) (rowD r) (rowD r) = true:=by simp [sameF,boxE,allE,scE]
theorem ZnX {ρ:Type} {enc:ρ → D} {n:Nat} {xs:List ρ} (h:∀ x ∈ xs,sameF n (enc x) (enc x) = true):sameF (n + 1) (Tpl enc xs) (Tpl enc xs) = true:=by
  have:boxE (sameF n) (Tpl enc xs) (Tpl enc xs) = true:=K11.allE_refl h
  simp [sameF,this]
theorem Zot {n:Int} {y:String}:neX (badT n y) (badT n y) = some (.v (.bl false)):=K32.neX_tup fun x hx=>by
  simp only [List.mem_cons,List.not_mem_nil,or_false] at hx
  rcases hx with rfl | rfl | rfl <;> exact K32.sm_sc rfl
theorem Zos {rs:List Row}:neX (Tpl rowD rs) (Tpl rowD rs) = some (.v (.bl false)):=K32.neX_tup fun x hx=>by
  obtain ⟨r,_,rfl⟩:=List.mem_map.mp hx
  exact Zk6 18
theorem Zna {rs:List Row}:neX (rowsT rs) (rowsT rs) = some (.v (.bl false)):=K32.neX_tup fun x hx=>by
  simp only [List.mem_cons,List.not_mem_nil,or_false] at hx
  rcases hx with rfl | rfl
  · exact K32.sm_sc rfl
  · exact ZnX (n:=19) fun r _=>Zk6 17
/-- what the program answers to a thing is what is due -/
structure Ans (d:D):Prop where
  is:∃ V,(∀ s,callK ZK [d] s = .ok V s) ∧ (∀ s,callK Zw [d] s = .ok V s) ∧ neX V V = some (.v (.bl false))
theorem Zme {d:D} {n:Int} {y:String} (hl:lend d = d) (h1:∀ s,callK Zh [d] s = .exc 2 [.v (.int n),wordD y] s) (h2:∀ s,callK Zw [d] s = .ok (badT n y) s):Ans d:=by
  refine ⟨badT n y,fun s=>Zg rfl ?_,h2,Zot⟩
  have ks:(wordD y).kept = true:=rfl
  have kd:(D.v (.int n)).kept = true:=rfl
  have f1:Option.filter D.kept (some (wordD y)) = some (wordD y):=rfl
  have f2:Option.filter D.kept (some (D.v (.int n))) = some (D.v (.int n)):=rfl
  have mT:mkTup [.v (.str "bad"),.v (.int n),wordD y] = some (badT n y):=rfl
  have fr:(badT n y).free = true:=rfl
  generalize badT n y = V at mT fr
  simp [Zci,hl,h1]
  rw [Zi1 rfl (by simp [kd,ks])]
  simp [pick,okI,wipeI,Out.behind,dL,lCons,f1,f2,mT,dMv,fr]
theorem ans_ok {rs:List Row} (hr:RowsOk rs) (h1:∀ s,callK Zh [.v (.str z)] s = .ok (Pcs .own rs) s) (h2:∀ s,callK Zw [.v (.str z)] s = .ok (rowsT rs) s):Ans (.v (.str z)):=by
  refine ⟨rowsT rs,fun s=>Zg rfl ?_,h2,Zna⟩
  obtain ⟨b0,bb⟩:=K07.brief_hand hr
  have rd:=fun s=>K07.read_c (s:=s) b0
  rw [bb] at rd
  have sh:=fun s=>show_c (s:=s) (w:=.bor) hr
  have tl:=fun w s=>told_P (s:=s) (w:=w) (rs:=rs)
  have l1:lend (Pcs .own rs) = Pcs .bor rs:=by simp
  have rc1:rcD 20 "told" (Pcs .own rs) = some (Pcs .own rs):=by simp
  have mT:mkTup [.v (.str "rows"),Tpl rowD rs] = some (rowsT rs):=rfl
  have fr:(rowsT rs).free = true:=rfl
  have nx:=Zos (rs:=rs)
  have tlO:=tl .own
  have tlB:=tl .bor
  generalize textS (briefS rs) = TT at rd sh
  generalize rowsT rs = V at mT fr
  generalize Tpl rowD rs = Tq at tlO tlB mT nx
  generalize Pcs .own rs = P at h1 rd l1 rc1 tlO
  generalize Pcs .bor rs = Pb at l1 sh tlB
  simp [Zci,h1,l1,rc1,tlO,tlB,mT,sh,rd,nx,dMv,fr]
theorem ZjM (h:Tx 50000 z):Ans (.v (.str z)):=by
  rcases Zm0 h with ⟨n,y,h1,h2⟩ | ⟨rs,hr,h1,h2⟩
  · exact Zme rfl h1 h2
  · exact ans_ok hr h1 h2
theorem Zpe {d:D} (hl:lend d = d) (h:isiD "str" d = some (.v (.bl false))):Ans d:=Zme hl (Zi8 h).1 (Zi8 h).2
def chk (a:At):Bool:=match a with
  | .s z=>decide (z.length ≤ 50000) && z.cps.toList.all fun c=>decide (c < 1114112)
  | a=>match isiD "str" (atE a) with | some (.v (.bl false))=>true | _=>false
theorem Zo6:thA.all chk = true:=by decide +kernel
theorem ans_at {a:At} (h:a ∈ thA):Ans (atE a):=by
  have hc:=List.all_eq_true.mp Zo6 a h
  have non:∀ a,(match isiD "str" (atE a) with | some (.v (.bl false))=>true | _=>false) = true → Ans (atE a):=fun a h=>by
    refine Zpe (Zbf (Ke.kept a)) ?_
    revert h
    generalize isiD "str" (atE a) = X
    intro h
    split at h
    · rfl
    · cases h
  cases a with
  | s z =>
    simp only [chk,Bool.and_eq_true,decide_eq_true_eq,List.all_eq_true] at hc
    exact ZjM ⟨hc.1,hc.2⟩
  | i n=>exact non _ hc
  | b c=>exact non _ hc
  | o d=>exact non _ hc
theorem thing8 {d:D} (hd:IsBox d):sat (Zba [d]) fun y ios=>∃ d',Ans y ∧ y.kept = true ∧ IsBox d' ∧ ios = [some d']:=by
  refine sat_F' rfl ?_
  have h1:ZbG [some d,none] = (dsRet (dNI (f2 ixK) [.l 1,.v (Zd Za [.o 0,.v (dP (pC (.int 40)))])])) [some d,some (Lst atE .own thA)]:=rfl
  show sat (ZbG [some d,none]) _
  rw [h1]
  simp [hd.free]
  refine Zf (Zn hd (by decide) (by decide)) ?_
  rintro _ _ ⟨u,d1,rfl,rfl,u0,u1,b1⟩
  obtain ⟨y,hy,_,e1,_⟩:=Zcx (enc:=atE) (w:=.own) (xs:=thA) (i:=u) u0 (by simpa [thA] using u1)
  simp [b1.free,e1,FlowP,ioF]
  exact ⟨ans_at hy,Ke.kept y,b1⟩
end
end K08
end Lw
set_option maxHeartbeats 1000000
namespace Lw
namespace K08
open PySem PySem.Spec PyProof.Rows L2 Fs
section
variable {s:Sl} {w w':Fl} {z:Str} {n:Nat}
def s1T:Str:=" !\"#$&'()*+,-./0123456789:;<=>?@ABCDEFGHIJKLMNOPQRSTUVWXYZ[\\]^_`"
def s2T:Str:="abcdefghijklmnopqrstuvwxyz{|}~\n"
def SG:Str:=s1T ++ s2T
def sT:Str:="abz019 \n-+.:A"
theorem sg_add:addA (.v (.str s1T)) (.v (.str s2T)) = some (.v (.str SG)):=by
  simp only [addA]
  rw [if_pos (by decide +kernel)]
  rfl
theorem sg_tx:Tx 95 SG ∧ SG.length = 95:=⟨⟨by decide +kernel,by
  have:SG.cps.toList.all (fun c=>decide (c < 1114112)) = true:=by decide +kernel
  exact fun c hc=>of_decide_eq_true (List.all_eq_true.mp this c hc)⟩,by decide +kernel⟩
theorem st_tx:Tx 13 sT ∧ sT.length = 13:=⟨⟨by decide +kernel,by
  have:sT.cps.toList.all (fun c=>decide (c < 1114112)) = true:=by decide +kernel
  exact fun c hc=>of_decide_eq_true (List.all_eq_true.mp this c hc)⟩,by decide +kernel⟩
theorem ix_txt {u:Int} (h0:0 ≤ u) (h1:u < z.length) (hl:z.length ≤ 100000) (hx:okS z):∃ x,ixK (.v (.str z)) (.v (.int u)) = some (D.str x) ∧ Tx 1 x:=by
  obtain ⟨k,rfl⟩:=Int.eq_ofNat_of_zero_le h0
  have hlen:=Z4 z
  have hk:k < z.cps.toList.length:=by omega
  refine ⟨sgS (z.cps.toList[k]),?_,by simp [sgS,Str.length],fun c hc=>?_⟩
  · simp only [ixK,ixD,hl,if_true,atI,ixN]
    have h3:(k:Int) < (z.cps.toList.length:Int):=by omega
    rw [if_pos (by omega),if_pos h3]
    have h4:k < z.cps.size:=by simpa using hk
    simp [h4,D.kept,sgS]
  · have:c = z.cps.toList[k]:=by simpa [sgS] using hc
    rw [this]
    exact hx _ (List.getElem_mem hk)
theorem cut_tx {lo hi:Option Int} (h:Tx n z):Tx n (cutS z lo hi):=by
  refine ⟨Nat.le_trans (cutS_length z lo hi) h.len,fun c hc=>h.ok c ?_⟩
  have:c ∈ (z.cps.toList.drop (HT.sIx z.length 0 lo)).take (HT.sIx z.length z.length hi - HT.sIx z.length 0 lo):=by simpa [cutS] using hc
  exact List.mem_of_mem_drop (List.mem_of_mem_take this)
theorem sl_txt {a b:D} {lo hi:Option Int} (h:Tx n z) (hn:n ≤ 100000) (ha:partD a = some lo) (hb:partD b = some hi):∃ x,slD [.v (.str z),a,b] = some (.v (.str x)) ∧ Tx n x:=by
  refine ⟨cutS z lo hi,?_,cut_tx h⟩
  have:=h.len
  simp only [slD,ha,hb,Option.bind_some]
  rw [if_pos (by omega)]
theorem add_tx {a b:Nat} {x y:Str} (hx:Tx a x) (hy:Tx b y) (h:a + b ≤ 100000):addA (.v (.str x)) (.v (.str y)) = some (.v (.str (x ++ y))) ∧ Tx (a + b) (x ++ y):=by
  have h1:=hx.len
  have h2:=hy.len
  refine ⟨?_,by rw [Str.length_append]; omega,fun c hc=>?_⟩
  · simp only [addA]
    rw [if_pos (by omega)]
  · have:c ∈ TL.tl (x ++ y):=hc
    rw [TL.tl_append] at this
    rcases List.mem_append.mp this with q | q
    · exact hx.ok c q
    · exact hy.ok c q
theorem ZlA {zs:List Str} (hz:∀ x ∈ zs,okS x) (hm:mu zs ≤ n) (hn:n ≤ 100000):joinD "\n" (Lst D.str w zs) = some (.v (.str (Txt.join "\n" zs))) ∧ Tx n (Txt.join "\n" zs):=ZlH (by decide +kernel) okS_of hz hm hn
theorem Zid {zs:List Str} (hz:∀ x ∈ zs,okS x) (hm:mu zs ≤ n) (hn:n ≤ 100000):joinD " " (Lst D.str w zs) = some (.v (.str (Txt.join " " zs))) ∧ Tx n (Txt.join " " zs):=ZlH (by decide +kernel) okS_of hz hm hn
def oth:List Str:=["0","00","13","200","201","199","9999","10000","a","x1"]
theorem oth_tx:∀ x ∈ oth,Tx 5 x:=by
  have:oth.all (fun x=>decide (x.length ≤ 5) && x.cps.toList.all fun c=>decide (c < 1114112)) = true:=by decide +kernel
  intro x hx
  have h:=List.all_eq_true.mp this x hx
  simp only [Bool.and_eq_true,decide_eq_true_eq,List.all_eq_true] at h
  exact ⟨h.1,h.2⟩
def SpoP (n:Nat) (y:D) (ios:Sl):Prop:=∃ z' d',y = .v (.str z') ∧ Tx n z' ∧ IsBox d' ∧ ios = [some d',none]
theorem Zhm {d:D} (hd:IsBox d) (h:Tx n z) (hn:n ≤ 16000):sat (Z6 [d,.v (.str z)]) (SpoP (3 * n + 20)):=by
  refine sat_F' rfl ?_
  rw [ZdV]
  have hl:=h.len
  have a1:=sg_add
  have ls:=len_str (z:=z) (by omega)
  unfold s1T s2T at a1
  simp [a1,hd.free]
  refine Zf (Zn hd (by decide) (by decide)) ?_
  rintro _ _ ⟨u,d1,rfl,rfl,u0,u1,b1⟩
  simp [b1.free,ls]
  refine Zf (Zn b1 (by omega) (by omega)) ?_
  rintro _ _ ⟨v,d2,rfl,rfl,v0,v1,b2⟩
  simp [b2.free]
  refine Zf (Zn b2 (by decide) (by decide)) ?_
  rintro _ _ ⟨p,d3,rfl,rfl,p0,p1,b3⟩
  obtain ⟨x1,e1,t1⟩:=ix_txt (z:=sT) p0 (by rw [st_tx.2]; omega) (by rw [st_tx.2]; decide) st_tx.1.ok
  unfold sT at e1
  simp [b3.free,e1]
  refine Zf (Zn b3 (by decide) (by decide)) ?_
  rintro _ _ ⟨q,d4,rfl,rfl,q0,q1,b4⟩
  obtain ⟨x2,e2,t2⟩:=ix_txt (z:=SG) q0 (by rw [sg_tx.2]; omega) (by rw [sg_tx.2]; decide) sg_tx.1.ok
  have m2:mkLst [D.str x1,D.str x2] = some (Lst D.str .own [x1,x2]):=rfl
  simp [b4.free,e2,m2]
  refine Zf (Zn b4 (by decide) (by decide)) ?_
  rintro _ _ ⟨r,d5,rfl,rfl,r0,r1,b5⟩
  obtain ⟨x,hx,_,e3,_⟩:=Zcx (enc:=D.str) (w:=.own) (xs:=[x1,x2]) (i:=r) r0 (by simpa using r1)
  have tx:Tx 1 x:=by
    simp only [List.mem_cons,List.not_mem_nil,or_false] at hx
    rcases hx with rfl | rfl <;> assumption
  have e3:ixK (Lst D.str .own [x1,x2]) (.v (.int r)) = some (.v (.str x)):=e3
  clear e1 e2 m2 t1 t2 a1
  generalize Lst D.str .own [x1,x2] = PL at e3
  obtain ⟨A,c1,tA⟩:=sl_txt (a:=.v .non) (b:=.v (.int v)) (lo:=none) (hi:=some v) h (by omega) rfl rfl
  obtain ⟨B,c2,tB⟩:=sl_txt (a:=.v (.int v)) (b:=.v .non) (lo:=some v) (hi:=none) h (by omega) rfl rfl
  obtain ⟨C,c3,tC⟩:=sl_txt (a:=.v (.int (v + 1))) (b:=.v .non) (lo:=some (v + 1)) (hi:=none) h (by omega) rfl rfl
  have ip:∀ i:Int,intP (.v (.int i)) = some (.v (.int i)):=fun _=>rfl
  obtain ⟨g1,k1⟩:=add_tx tA tx (by omega)
  obtain ⟨g2,k2⟩:=add_tx k1 tB (by omega)
  obtain ⟨g3,k3⟩:=add_tx k1 tC (by omega)
  obtain ⟨g4,k4⟩:=add_tx tA tC (by omega)
  obtain ⟨lf,LS⟩:=Zjr h (by omega)
  have ty:tyF "str" (.v (.str z)) = some (.v (.str z)):=rfl
  by_cases w0:u = 0
  · simp [b5.free,e3,w0,c1,c2,g1,g2,FlowP,ioF]
    exact ⟨_,_,rfl,k2.mono (by omega),b5,rfl⟩
  by_cases w1:u = 1
  · simp [b5.free,e3,w1,c1,c3,g4,FlowP,ioF]
    exact ⟨_,_,rfl,k4.mono (by omega),b5,rfl⟩
  by_cases w2:u = 2
  · simp [b5.free,e3,w2,c1,c3,g1,g3,FlowP,ioF]
    exact ⟨_,_,rfl,k3.mono (by omega),b5,rfl⟩
  clear c1 c2 c3 g1 g2 g3 g4 k1 k2 k3 k4
  generalize Txt.split z "\n" = ls' at lf LS
  have lnl:lenD (Lst D.str .own ls') = some (.v (.int (ls'.length:Int))):=ZgT
  have lpos:0 < ls'.length:=List.length_pos_iff.mpr LS.ne
  have lmu:ls'.length ≤ n + 1:=by have:=LS.mu; simp only [mu] at this; omega
  generalize hLL:Lst D.str .own ls' = LL at lf lnl
  simp [b5.free,e3,w0,w1,w2,ty,lf,lnl]
  refine Zf (Zn b5 (by omega) (by omega)) ?_
  rintro _ _ ⟨i,d6,rfl,rfl,i0,i1,b6⟩
  obtain ⟨i,rfl⟩:=Int.eq_ofNat_of_zero_le i0
  have i1:i < ls'.length:=by omega
  obtain ⟨l,hl1,hl2⟩:∃ l,ls'[i]? = some l ∧ l ∈ ls':=⟨ls'[i],List.getElem?_eq_getElem i1,List.getElem_mem i1⟩
  have il:ixD LL (.v (.int (i:Int))) = some (.v (.str l)):=by rw [← hLL]; exact ix_Lst hl1
  have tl:=LS.ok l hl2
  obtain ⟨sp,WS⟩:=ZgD tl (by omega)
  have tyl:tyF "str" (.v (.str l)) = some (.v (.str l)):=rfl
  generalize Txt.split l " " = ws at sp WS
  have lnw:lenD (Lst D.str .own ws) = some (.v (.int (ws.length:Int))):=ZgT
  have wpos:0 < ws.length:=List.length_pos_iff.mpr WS.ne
  have wmu:ws.length ≤ n + 1:=by have:=WS.mu; simp only [mu] at this; omega
  generalize hWW:Lst D.str .own ws = WW at sp lnw
  simp [b6.free,il,tyl,sp,lnw]
  refine Zf (Zn b6 (by omega) (by omega)) ?_
  rintro _ _ ⟨j,d7,rfl,rfl,j0,j1,b7⟩
  obtain ⟨j,rfl⟩:=Int.eq_ofNat_of_zero_le j0
  have j1:j < ws.length:=by omega
  have okL:∀ x ∈ ls',okS x:=fun x hx=>(LS.ok x hx).ok
  have okW:∀ x ∈ ws,okS x:=fun x hx=>(WS.ok x hx).ok
  have okT:∀ m,∀ x ∈ ws.take m,okS x:=fun m x hx=>okW x (List.mem_of_mem_take hx)
  have okD:∀ m,∀ x ∈ ws.drop m,okS x:=fun m x hx=>okW x (List.mem_of_mem_drop hx)
  have sA:=sl_Lst (enc:=D.str) (w:=.own) (xs:=ws) (a:=.v .non) (b:=.v (.int (j:Int))) (lo:=none) (hi:=some (j:Int)) rfl rfl
  rw [ZdG (by omega)] at sA
  have sA1:=sl_Lst (enc:=D.str) (w:=.own) (xs:=ws) (a:=.v .non) (b:=.v (.int ((j:Int) + 1))) (lo:=none) (hi:=some ((j:Int) + 1)) rfl rfl
  rw [show ((j:Int) + 1) = ((j + 1:Nat):Int) from rfl,ZdG (by omega)] at sA1
  rw [show ((j + 1:Nat):Int) = (j:Int) + 1 from rfl] at sA1
  have sB:=sl_Lst (enc:=D.str) (w:=.own) (xs:=ws) (a:=.v (.int (j:Int))) (b:=.v .non) (lo:=some (j:Int)) (hi:=none) rfl rfl
  rw [ZdF] at sB
  have sB1:=sl_Lst (enc:=D.str) (w:=.own) (xs:=ws) (a:=.v (.int ((j:Int) + 1))) (b:=.v .non) (lo:=some ((j:Int) + 1)) (hi:=none) rfl rfl
  rw [show ((j:Int) + 1) = ((j + 1:Nat):Int) from rfl,ZdF] at sB1
  rw [show ((j + 1:Nat):Int) = (j:Int) + 1 from rfl] at sB1
  rw [hWW] at sA sA1 sB sB1
  have store:∀ {P:Fs.Flow → Sl → Prop} {x0 x1 x2 x3 x4 x5 x8 x9 x10:Option D} (y:Str),(Tx (2 * n + 8) y) → (∀ J,joinD "\n" (Lst D.str .own (ls'.set i y)) = some (.v (.str J)) → Tx (3 * n + 20) J → P .nx [x0,x1,x2,x3,x4,x5,some (Lst D.str .own (ls'.set i y)),some (.v (.int (i:Int))),x8,x9,x10]) → sat (storeK (plV 6) (dP (pVar 7)) true (.v (.str y)) [x0,x1,x2,x3,x4,x5,some LL,some (.v (.int (i:Int))),x8,x9,x10]) P:=fun {P x0 x1 x2 x3 x4 x5 x8 x9 x10} y ty k=>by
    rw [Zgn (enc:=D.str) (xs:=ls') (i:=6) (n:=i) (x:=y) (by rw [← hLL]; rfl) (by simp) rfl i1]
    obtain ⟨q1,q2⟩:=ZlA (w:=.own) (n:=3 * n + 20) (zs:=ls'.set i y) (fun x hx=>by
      rcases List.mem_or_eq_of_mem_set hx with q | rfl
      · exact okL x q
      · exact ty.ok) (by have:=mu_set y ls' i; have:=LS.mu; have:=ty.len; omega) (by omega)
    exact sat_ok.mpr (k _ q1 q2)
  have mT:=fun m=>Zlu m ws
  have mD:=fun m=>Zit m ws
  have mW:=WS.mu
  by_cases w3:u = 3
  · have ad:=Zc8 (enc:=D.str) (w:=.own) (w':=.own) (xs:=ws.take j) (ys:=ws.drop (j + 1)) (by simp; omega)
    obtain ⟨jn,tj⟩:=Zid (w:=.own) (n:=2 * n + 8) (zs:=ws.take j ++ ws.drop (j + 1)) (fun x hx=>(List.mem_append.mp hx).elim (okT _ x) (okD _ x)) (by rw [Zb7]; have:=mT j; have:=mD (j + 1); omega) (by omega)
    generalize Lst D.str .own (ws.take j ++ ws.drop (j + 1)) = M at ad jn
    simp [b7.free,w3,sA,sB1,ad,jn]
    refine store _ tj fun J hJ tJ=>?_
    simp [hJ,FlowP,ioF]
    exact ⟨_,_,rfl,tJ,b7,rfl⟩
  by_cases w4:u = 4
  · have ad:=Zc8 (enc:=D.str) (w:=.own) (w':=.own) (xs:=ws.take (j + 1)) (ys:=ws.drop j) (by simp; omega)
    obtain ⟨jn,tj⟩:=Zid (w:=.own) (n:=2 * n + 8) (zs:=ws.take (j + 1) ++ ws.drop j) (fun x hx=>(List.mem_append.mp hx).elim (okT _ x) (okD _ x)) (by rw [Zb7]; have:=mT (j + 1); have:=mD j; omega) (by omega)
    generalize Lst D.str .own (ws.take (j + 1) ++ ws.drop j) = M at ad jn
    simp [b7.free,w3,w4,sA1,sB,ad,jn]
    refine store _ tj fun J hJ tJ=>?_
    simp [hJ,FlowP,ioF]
    exact ⟨_,_,rfl,tJ,b7,rfl⟩
  by_cases w5:u = 5
  · have mo:mkLst [.v (.str "0"),.v (.str "00"),.v (.str "13"),.v (.str "200"),.v (.str "201"),.v (.str "199"),.v (.str "9999"),.v (.str "10000"),.v (.str "a"),.v (.str "x1")] = some (Lst D.str .own oth):=rfl
    generalize hO:Lst D.str .own oth = OO at mo
    simp [b7.free,w3,w4,w5,mo]
    refine Zf (Zn b7 (by decide) (by decide)) ?_
    rintro _ _ ⟨t,d8,rfl,rfl,t0,t1,b8⟩
    obtain ⟨o,ho,_,e3,_⟩:=Zcx (enc:=D.str) (w:=.own) (xs:=oth) (i:=t) t0 (by simpa [oth] using t1)
    rw [hO] at e3
    have e3:ixK OO (.v (.int t)) = some (.v (.str o)):=e3
    have to:=oth_tx o ho
    have mL:mkLst [.v (.str o)] = some (Lst D.str .own [o]):=rfl
    have ad:=Zc8 (enc:=D.str) (w:=.own) (w':=.own) (xs:=ws.take j) (ys:=[o]) (by simp; omega)
    have ad2:=Zc8 (enc:=D.str) (w:=.own) (w':=.own) (xs:=ws.take j ++ [o]) (ys:=ws.drop (j + 1)) (by simp; omega)
    obtain ⟨jn,tj⟩:=Zid (w:=.own) (n:=2 * n + 8) (zs:=ws.take j ++ [o] ++ ws.drop (j + 1)) (fun x hx=>by
      rcases List.mem_append.mp hx with q | q
      · rcases List.mem_append.mp q with q | q
        · exact okT _ x q
        · rw [List.mem_singleton.mp q]; exact to.ok
      · exact okD _ x q) (by rw [Zb7,Zb7]; have:=mT j; have:=mD (j + 1); have:=to.len; simp only [ZgN,mu_nil]; omega) (by omega)
    generalize Lst D.str .own (ws.take j ++ [o] ++ ws.drop (j + 1)) = M at ad2 jn
    generalize Lst D.str .own (ws.take j ++ [o]) = M1 at ad ad2
    generalize Lst D.str .own [o] = M0 at mL ad
    simp [b8.free,e3,mL,sA,sB1,ad,ad2,jn]
    refine store _ (by simpa using tj) fun J hJ tJ=>?_
    simp [hJ,FlowP,ioF]
    exact ⟨_,_,rfl,tJ,b8,rfl⟩
  · have m2:mkLst [.v (.str l),.v (.str "")] = some (Lst D.str .own [l,""]):=rfl
    have sL:=sl_Lst (enc:=D.str) (w:=.own) (xs:=ls') (a:=.v .non) (b:=.v (.int (i:Int))) (lo:=none) (hi:=some (i:Int)) rfl rfl
    rw [ZdG (by omega),hLL] at sL
    have sR:=sl_Lst (enc:=D.str) (w:=.own) (xs:=ls') (a:=.v (.int (i:Int))) (b:=.v .non) (lo:=some (i:Int)) (hi:=none) rfl rfl
    rw [ZdF,hLL] at sR
    have sM:=fun t:Nat=>sl_Lst (enc:=D.str) (w:=.own) (xs:=[l,""]) (a:=.v (.int (t:Int))) (b:=.v .non) (lo:=some (t:Int)) (hi:=none) rfl rfl
    simp only [ZdF] at sM
    generalize Lst D.str .own [l,""] = M2 at m2 sM
    simp [b7.free,w3,w4,w5,sL,il,m2]
    refine Zf (Zn b7 (by decide) (by decide)) ?_
    rintro _ _ ⟨t,d8,rfl,rfl,t0,t1,b8⟩
    obtain ⟨t,rfl⟩:=Int.eq_ofNat_of_zero_le t0
    have ad:=Zc8 (enc:=D.str) (w:=.own) (w':=.own) (xs:=ls'.take i) (ys:=[l,""].drop t) (by simp; omega)
    have ad2:=Zc8 (enc:=D.str) (w:=.own) (w':=.own) (xs:=ls'.take i ++ [l,""].drop t) (ys:=ls'.drop i) (by simp; omega)
    obtain ⟨jn,tj⟩:=ZlA (w:=.own) (n:=3 * n + 20) (zs:=ls'.take i ++ [l,""].drop t ++ ls'.drop i) (fun x hx=>by
      rcases List.mem_append.mp hx with q | q
      · rcases List.mem_append.mp q with q | q
        · exact okL x (List.mem_of_mem_take q)
        · have:=List.mem_of_mem_drop q
          simp only [List.mem_cons,List.not_mem_nil,or_false] at this
          rcases this with rfl | rfl
          · exact tl.ok
          · exact okS_of
      · exact okL x (List.mem_of_mem_drop q)) (by
        rw [Zb7,Zb7]
        have:=Zlu i ls'
        have:=Zit i ls'
        have:=LS.mu
        have q:=Zit t [l,""]
        have:=tl.len
        have e0:(("":Str).length) = 0:=rfl
        simp only [ZgN,mu_nil,e0] at q
        omega) (by omega)
    generalize Lst D.str .own (ls'.take i ++ [l,""].drop t ++ ls'.drop i) = M at ad2 jn
    generalize Lst D.str .own (ls'.take i ++ [l,""].drop t) = M1 at ad ad2
    simp [b8.free,sM,sR,ad,ad2,jn,FlowP,ioF]
    exact ⟨_,_,rfl,by simpa using tj,b8,rfl⟩
end
end K08
end Lw
set_option maxHeartbeats 1000000
namespace Lw
namespace K08
open PySem PySem.Spec PyProof.Rows L2 Fs
section
variable {s:Sl} {w w':Fl} {z:Str} {rs:List Row}
def thirty (k:Nat) (z:Str):Row:=⟨z,k,199 - k,1 + (k:Int) % 12,(k:Int) % 2⟩
theorem Zk0 {zs:List Str} {k n:Nat} {P:List Nat → Bool} (h:NamesG P zs n) (hn:n ≤ 30) (hk:k ≤ 60):RowsOk (zs.map (thirty k)):=by
  refine ⟨by simp [h.len,hn],?_,fun r hr=>?_⟩
  · have:(zs.map (thirty k)).map Row.nm = zs:=by simp [thirty,Function.comp_def]
    rw [this]; exact h.nd
  · obtain ⟨z,hz,rfl⟩:=List.mem_map.mp hr
    exact ⟨h.ok z hz,by simp [thirty],by simp [thirty]; omega,by simp [thirty]; omega,by simp [thirty]; omega,by simp [thirty]; omega,by simp [thirty]; omega,by simp [thirty]; omega,by simp [thirty]; omega,by simp [thirty]; omega⟩
theorem ZjE {a:Array Nat} {c:Nat}:∀ (k:Nat) (acc:Array Nat),c ∈ ((List.replicate k a).foldl (· ++ ·) acc).toList → c ∈ acc.toList ∨ c ∈ a.toList
  | 0,acc,h=>.inl h
  | k + 1,acc,h=>by
    rw [List.replicate_succ,List.foldl_cons] at h
    rcases ZjE k _ h with q | q
    · rw [Array.toList_append] at q
      exact List.mem_append.mp q
    · exact .inr q
theorem mul_tx {n:Nat} {x:Str} (h:Tx n x) (hn:n ≤ 20):mulT (.v (.str x)) (.v (.int 1000)) = some (.v (.str (Txt.mul x 1000))) ∧ Tx (1000 * n) (Txt.mul x 1000):=by
  have hl:=h.len
  refine ⟨?_,?_,fun c hc=>?_⟩
  · simp only [mulT]
    rw [if_pos ⟨by decide,by decide,by omega⟩]
  · have e:=len_mul x 1000
    have e1:(if decide ((1000:Int) < 0) = true then (0:Int) else 1000) = 1000:=rfl
    rw [e1] at e
    omega
  · unfold Txt.mul at hc
    rw [if_neg (by decide)] at hc
    split at hc
    · exact h.ok c hc
    · rcases ZjE _ _ hc with q | q
      · cases q
      · exact h.ok c q
theorem ZlG {x:D} (h:x.kept = true):x.free = true:=by
  cases x with
  | v x=>rfl
  | s x=>exact h
  | n k w ds=>cases w <;> first | rfl | cases h
def MI (ns:List Int) (s:Sl):Prop:=∃ x1 x2 x3 x5 x7 x8 x9,s = [some (.s ns),x1,x2,x3,none,x5,none,x7,x8,x9]
theorem end_sp {ns:List Int} {d:D} {x1 x3 x7 x8 x9:Option D} (hb:IsBox d) (h:Tx 50000 z):sat (Ze6 [some (.s ns),x1,some d,x3,none,some (.v (.str z)),none,x7,x8,x9]) fun f s=>f = .nx ∧ MI ns s:=by
  obtain ⟨V,a1,a2,nx⟩:=(ZjM h).is
  simp [a1,a2,nx,hb.free]
  refine Zf (thing8 hb) ?_
  rintro y _ ⟨d1,ay,ky,b1,rfl⟩
  obtain ⟨V2,c1,c2,nx2⟩:=ay.is
  have ly:lend y = y:=Zbf ky
  have fy:y.free = true:=ZlG ky
  simp [b1.free,ly,fy,c1,c2,nx2]
  exact ⟨_,_,_,_,_,_,_,rfl⟩
def pads:List Str:=["\n"," ","\nab 0 9 1","9"]
theorem Zoj:∀ x ∈ pads,Tx 11 x:=by
  have:pads.all (fun x=>decide (x.length ≤ 11) && x.cps.toList.all fun c=>decide (c < 1114112)) = true:=by decide +kernel
  intro x hx
  have h:=List.all_eq_true.mp this x hx
  simp only [Bool.and_eq_true,decide_eq_true_eq,List.all_eq_true] at h
  exact ⟨h.1,h.2⟩
theorem pad_sp {ns:List Int} {d:D} {x1 x3 x7 x8 x9:Option D} (hb:IsBox d) (h:Tx 38400 z):sat (Ze7 [some (.s ns),x1,some d,x3,none,some (.v (.str z)),none,x7,x8,x9]) fun f s=>f = .nx ∧ MI ns s:=by
  simp [hb.free,-ZcD,-ZhK]
  refine Zf (Zn hb (by decide) (by decide)) ?_
  rintro _ _ ⟨u,d1,rfl,rfl,u0,u1,b1⟩
  by_cases q:u = 0
  · have mo:mkLst [.v (.str "\n"),.v (.str " "),.v (.str "\nab 0 9 1"),.v (.str "9")] = some (Lst D.str .own pads):=rfl
    generalize hO:Lst D.str .own pads = OO at mo
    simp [q,b1.free,K11.eqM_i,mo,-ZcD]
    refine Zf (Zn b1 (by decide) (by decide)) ?_
    rintro _ _ ⟨t,d2,rfl,rfl,t0,t1,b2⟩
    obtain ⟨o,ho,_,e3,_⟩:=Zcx (enc:=D.str) (w:=.own) (xs:=pads) (i:=t) t0 (by simpa [pads] using t1)
    rw [hO] at e3
    have e3:ixK OO (.v (.int t)) = some (.v (.str o)):=e3
    obtain ⟨m1,m2⟩:=mul_tx (Zoj o ho) (by decide)
    obtain ⟨g1,g2⟩:=add_tx h m2 (by decide)
    obtain ⟨x,s1,s2⟩:=sl_txt (a:=.v .non) (b:=.v (.int 1000)) (lo:=none) (hi:=some 1000) g2 (by decide) rfl rfl
    simp [b2.free,e3,m1,g1,s1,-ZcD]
    exact end_sp b2 (s2.mono (by decide))
  · simp [q,b1.free,K11.eqM_i,-ZcD]
    exact end_sp b1 (h.mono (by decide))
def bd:Nat → Nat | 0=>1412 | m + 1=>3 * bd m + 20
theorem bd_le {m:Nat} (h:m ≤ 3):bd m ≤ 38400:=by
  have:m = 0 ∨ m = 1 ∨ m = 2 ∨ m = 3:=by omega
  rcases this with rfl | rfl | rfl | rfl <;> decide
theorem bd_le2 {m:Nat} (h:m ≤ 2):bd m ≤ 16000:=by
  have:m = 0 ∨ m = 1 ∨ m = 2:=by omega
  rcases this with rfl | rfl | rfl <;> decide
theorem lap_sp {ns:List Int} {d:D} {x1 x3 x7 x8 x9:Option D} (hb:IsBox d) (h:Tx 1412 z):sat (ZfM [some (.s ns),x1,some d,x3,none,some (.v (.str z)),none,x7,x8,x9]) fun f s=>f = .nx ∧ MI ns s:=by
  simp [hb.free,diD,-ZfL,-Zfd]
  refine Zf (Zn hb (by decide) (by decide)) ?_
  rintro _ _ ⟨u,d1,rfl,rfl,u0,u1,b1⟩
  simp [b1.free,itR_I (i:=u) (by omega) (by omega),-ZfL,-Zfd]
  refine ZeZ (I:=fun pre s=>∃ z' d' x7',Tx (bd pre.length) z' ∧ IsBox d' ∧ s = [some (.s ns),x1,some d',x3,none,some (.v (.str z')),none,x7',x8,x9]) (fun pre j post s e hI=>?_) ⟨z,d1,x7,h,b1,rfl⟩ (fun s hI=>?_)
  · have hp:pre.length ≤ 2:=by
      have:=congrArg List.length e
      simp at this
      omega
    obtain ⟨z',d',x7',tz,b',rfl⟩:=hI
    refine ⟨_,rfl,?_⟩
    simp [b'.free,natE]
    refine Zf (Zhm b' tz (bd_le2 hp)) ?_
    rintro _ _ ⟨z2,d2,rfl,t2,b2,rfl⟩
    simp [b2.free]
    exact ⟨_,t2,_,b2,rfl,rfl⟩
  · obtain ⟨z',d',x7',tz,b',rfl⟩:=hI
    exact pad_sp b' (tz.mono (bd_le (by simp; omega)))
theorem len_sp {ns:List Int} {d:D} {x1 x7 x8 x9:Option D} (hb:IsBox d) (h:Tx 1400 z):sat (ZfO [some (.s ns),x1,some d,some (Lst rowD w rs),none,some (.v (.str z)),none,x7,x8,x9]) fun f s=>f = .nx ∧ MI ns s:=by
  by_cases q:(rs.length:Int) = 30
  · have mo:mkLst [.v (.str ""),.v (.str "\nzz99 0 9 1")] = some (Lst D.str .own ["","\nzz99 0 9 1"]):=rfl
    generalize hO:Lst D.str .own ["","\nzz99 0 9 1"] = OO at mo
    simp [K11.eqM_i,q,hb.free,mo,-Zeb]
    refine Zf (Zn hb (by decide) (by decide)) ?_
    rintro _ _ ⟨t,d2,rfl,rfl,t0,t1,b2⟩
    obtain ⟨o,ho,_,e3,_⟩:=Zcx (enc:=D.str) (w:=.own) (xs:=["","\nzz99 0 9 1"]) (i:=t) t0 (by simpa using t1)
    rw [hO] at e3
    have e3:ixK OO (.v (.int t)) = some (.v (.str o)):=e3
    have to:Tx 12 o:=by
      have:(["","\nzz99 0 9 1"]:List Str).all (fun x=>decide (x.length ≤ 12) && x.cps.toList.all fun c=>decide (c < 1114112)) = true:=by decide +kernel
      have h:=List.all_eq_true.mp this o ho
      simp only [Bool.and_eq_true,decide_eq_true_eq,List.all_eq_true] at h
      exact ⟨h.1,h.2⟩
    obtain ⟨g1,g2⟩:=add_tx h to (by decide)
    simp [b2.free,e3,g1,-Zeb]
    exact lap_sp b2 g2
  · simp [K11.eqM_i,q,hb.free,-Zeb]
    exact lap_sp hb (h.mono (by decide))
theorem ZgH {ns:List Int} {d:D} {x1 x5 x7 x8 x9:Option D} (hb:IsBox d) (hr:RowsOk rs):sat (ZfP [some (.s ns),x1,some d,some (Lst rowD .own rs),none,x5,none,x7,x8,x9]) fun f s=>f = .nx ∧ MI ns s:=by
  have hl:=hr.len
  have e2:dFz 3 [some (.s ns),x1,some d,some (Lst rowD .own rs),none,x5,none,x7,x8,x9] = .ok (Lst rowD .shr rs) [some (.s ns),x1,some d,some (Lst rowD .shr rs),none,x5,none,x7,x8,x9]:=by simp [dFz]
  simp [hb.free,-ZfN]
  refine Zn3 (out:=D.str) (i:=6) rowD rs (fun r z=>∃ b:Bool,z = lineS (r,b)) (fun s=>∃ d1,IsBox d1 ∧ s = [some (.s ns),x1,some d1,some (Lst rowD .shr rs),none,x5,none,x7,x8,x9]) (by simp [diD,e2]; rfl) (by omega) ⟨d,hb,rfl⟩ (fun r s hr' hs=>?_) (fun zs s h1 h2 hs=>?_)
  · obtain ⟨d1,b1,rfl⟩:=hs
    have fr:(rowD r).free = true:=rfl
    simp [b1.free]
    refine Zf (Zn b1 (by decide) (by decide)) ?_
    rintro _ _ ⟨u,d2,rfl,rfl,u0,u1,b2⟩
    simp [b2.free,K11.eqM_i]
    have hp:=ZmT (N:=4) (io:=[false,false]) (ds:=ZcH) (args:=[rowD r,.v (.bl (decide (u = 0)))]) (Zoy (s:=[]) (b:=decide (u = 0)) (hr.ok r hr')) (by rfl)
    refine Zf hp ?_
    rintro _ _ ⟨rfl,rfl⟩
    simp
    refine ⟨?_,b2⟩
    cases (!decide (u = 0) || !decide (r.l = r.k)) <;> simp
  · obtain ⟨d1,b1,rfl⟩:=hs
    obtain ⟨ps,e1,e3⟩:∃ ps:List (Row × Bool),ps.map Prod.fst = rs ∧ zs.map Prod.snd = ps.map lineS:=by
      have:∀ zs:List (Row × Str),(∀ z ∈ zs,∃ b:Bool,z.2 = lineS (z.1,b)) → ∃ ps:List (Row × Bool),ps.map Prod.fst = zs.map Prod.fst ∧ zs.map Prod.snd = ps.map lineS:=by
        intro zs
        induction zs with
        | nil=>exact fun _=>⟨[],rfl,rfl⟩
        | cons z zs ih =>
          intro h
          obtain ⟨ps,q1,q2⟩:=ih fun x hx=>h x (List.mem_cons_of_mem _ hx)
          obtain ⟨b,q5⟩:=h z List.mem_cons_self
          exact ⟨(z.1,b) :: ps,by simp [q1],by simp [q2,q5]⟩
      obtain ⟨ps,q1,q2⟩:=this zs h2
      exact ⟨ps,by rw [q1,h1],q2⟩
    rw [e3]
    have hps:∀ p ∈ ps,p.1.ok:=fun p hp=>hr.ok p.1 (by rw [← e1]; exact List.mem_map.mpr ⟨p,hp,rfl⟩)
    have hpl:ps.length ≤ 30:=by have:=congrArg List.length e1; simp at this; omega
    obtain ⟨j1,jl⟩:=text_len (w:=.own) hps hpl
    have tx:Tx 1400 (textS ps):=⟨j1,K07.text_ok hps⟩
    generalize textS ps = T at jl tx
    generalize Lst D.str .own (ps.map lineS) = P1 at jl
    simp [jl,-ZfN]
    exact len_sp b1 tx
theorem main08 (ns:List Int) (hns:ns.length ≤ 63):sat (Zc1 [.s ns]) fun y _=>y = .bl true:=by
  refine sat_F' rfl ?_
  rw [ZgU]
  simp [diD,ZgS,itR_I (i:=max 8 (min (ns.length:Int) 40)) (by omega) (by omega),-Ziw]
  refine ZeZ (I:=fun _=>MI ns) (fun pre k post s e h=>?_) ⟨_,_,_,_,_,_,_,rfl⟩ (fun s h=>?_)
  · obtain ⟨x1,x2,x3,x5,x7,x8,x9,rfl⟩:=h
    have hk:k ≤ 60:=by
      have:k ∈ List.range (max 8 (min (ns.length:Int) 40)).toNat:=by rw [e]; simp
      simp at this; omega
    refine ⟨_,rfl,?_⟩
    simp [natE,-ZbZ]
    refine Zi5 (Zf (Zo7 ns k (by omega)) ?_)
    rintro _ _ ⟨i,rfl⟩
    simp
    refine Zi5 (Zf (box_sp i) ?_)
    rintro d _ hb
    simp [hb.free,-ZbZ]
    refine Zf (ZmW (m:=6) hb (by decide) (by decide)) ?_
    rintro _ _ ⟨rs,d2,rfl,hr,hl,rfl,b2⟩
    simp [b2.free,-ZbZ]
    refine Zf (Zn b2 (by decide) (by decide)) ?_
    rintro _ _ ⟨v,d3,rfl,rfl,v0,v1,b3⟩
    by_cases q:v = 0
    · simp [q,b3.free,K11.eqM_i,-ZbZ]
      refine Lw.sat_dComp.mpr ?_
      simp [diD,b3.free]
      refine Zf (Zjk (n:=30) b3 (by decide)) ?_
      rintro _ _ ⟨zs,d4,rfl,hz,rfl,b4⟩
      have hlen:=hz.len
      have hr3:=Zk0 (k:=k) hz (by decide) hk
      have hc:=Zg3 (out:=rowD) (vs:=[4]) (tg:=tgN 4) (tst:=dtYes) (elt:=dF mkTup (daCons (dP (pVar 4)) (daCons (dP (pVar 1)) (daCons (dN (f2 subD) [.k (pC (.int 199)),.k (pVar 1)]) (daCons (dN (f2 addA) [.k (pC (.int 1)),.v (dN (f2 modD) [.k (pVar 1),.k (pC (.int 12))])]) (daCons (dN (f2 modD) [.k (pVar 1),.k (pC (.int 2))]) daNil)))))) (enc:=D.str) (δ:=[some (.s ns),some (.v (.int (k:Int))),some d4,some (Lst rowD .own rs),none,x5,none,x7,x8,x9]) (fun z=>[some (.s ns),some (.v (.int (k:Int))),some d4,some (Lst rowD .own rs),some (.v (.str z)),x5,none,x7,x8,x9]) (fun _=>true) (thirty k) zs [] (fun z hz=>⟨rfl,rfl,rfl,fun _=>by
        have c1:cMod (k:Int) 12 = true:=cMod_p (by decide)
        have c2:cMod (k:Int) 2 = true:=cMod_p (by decide)
        simp [c1,c2,mkt5,thirty]⟩) (by simp [hlen])
      rw [List.filter_eq_self.mpr (fun _ _=>rfl),List.nil_append] at hc
      have it:itA true (.n .lst .own (zs.map D.str)) = some (zs.map D.str):=it_Lst (enc:=D.str) (w:=.own) (xs:=zs)
      have fin:=ZgH (ns:=ns) (x1:=some (.v (.int (k:Int)))) (x5:=x5) (x7:=x7) (x8:=x8) (x9:=x9) b4 hr3
      have e5:(.n .lst .own (((zs.map (thirty k)).map rowD)):D) = Lst rowD .own (zs.map (thirty k)):=rfl
      simp only [putB_o,b4.free,if_true,putB_v,List.set_cons_succ,List.set_cons_zero,it,Zje,sat_ok,wipeD]
      refine ⟨_,rfl,?_⟩
      simp only [it,Zje,sat_ok,wipeD,List.set_cons_succ,List.set_cons_zero,hc,e5]
      simp only [ZbZ,Zi6] at fin
      refine Zf fin ?_
      intro f s h
      refine Zf h ?_
      rintro f s ⟨rfl,h⟩
      exact h
    · simp [q,b3.free,K11.eqM_i,-ZbZ]
      refine Zf (ZgH b3 hr) ?_
      rintro f s ⟨rfl,h⟩
      exact h
  · obtain ⟨x1,x2,x3,x5,x7,x8,x9,rfl⟩:=h
    simp
end
end K08
theorem law_true_k08 (ns:List Int) (h:ns.length ≤ 63):∃ s,Zc1 [.s ns] = .ok (.bl true) s:=Fs.law_of (K08.main08 ns h)
end Lw
set_option maxHeartbeats 0
namespace Lw
open PySem PySem.Spec PyProof.Rows L2 Fs
theorem ZgX {P:Program} {w:World} {K:PySem.W.Frag} {mg:Str → Option Value} {base:Heap} {f CB:Addr} {fd:FuncData} (B:BaseI K CB) (hm:mg "SlackError" = some (.ref CB)) (Fd:FunD K "__init__" "BadPieces.__init__" (defArgs ZI) (defBody ZI) (defScope ZI) [] [] f fd):FnOk P w K mg base (L2.CX P w) 1 f fd ["self","at","why"] (spIni K ["at","why"]) :=
  Zl1 (N:=["self","at","why"]) (m:="refused") (k:=0) Fd ⟨rfl,rfl,rfl,by decide +kernel,rfl,by decide +kernel,by decide +kernel⟩ rfl fun cdv A outer s H E=>pss_cons (ps_expr (Zjb B rfl hm (pa_cons (pv 0) (pa_cons pe_str pa_nil)))) (pss_cons (ps_ost (pv 0) (pv 1)) (pss_one (ps_ost (pv 0) (pv 2))))
theorem ZiC {P:Program} {w:World} {K:PySem.W.Frag} {mg:Str → Option Value} {base:Heap} {f CB:Addr} {fd:FuncData} (B:BaseI K CB) (hm:mg "SlackError" = some (.ref CB)) (Fd:FunD K "__init__" "BadText.__init__" (defArgs ZQ) (defBody ZQ) (defScope ZQ) [] [] f fd):FnOk P w K mg base (L2.CX P w) 1 f fd ["self","at","why"] (spIni K ["at","why"]) :=
  Zl1 (N:=["self","at","why"]) (m:="refused") (k:=0) Fd ⟨rfl,rfl,rfl,by decide +kernel,rfl,by decide +kernel,by decide +kernel⟩ rfl fun cdv A outer s H E=>pss_cons (ps_expr (Zjb B rfl hm (pa_cons (pv 0) (pa_cons pe_str pa_nil)))) (pss_cons (ps_ost (pv 0) (pv 1)) (pss_one (ps_ost (pv 0) (pv 2))))
theorem facts {P:Program} {w:World} {K:PySem.W.Frag} {h:Heap} {mg:Str → Option Value} {f:Addr} (X:K.In h) (G:h.Ns mainGlobals mg) (hfa:mg ("law":Str) = some (.ref f)) (c:SaysX chk fn K) :
    ∃ fd:FuncData,(∀ (s:Shared) (v:Value),BindsTo s fd ⟨[v],[]⟩ [("_law_script",v)]) ∧ ∀ base:Heap,K.In base → base.Ns mainGlobals mg → FnG P w K mg base (L2.CX P w) 10 f fd ["_law_script"] (spF (clG K) xfG 1 Zc1):=by
  have T:Tx (clG K) mg:=⟨He.free_ok X G (c.fact 32),He.free_ok X G (c.fact 33),He.free_ok X G (c.fact 34),He.free_ok X G (c.fact 35),He.free_ok X G (c.fact 36),He.free_ok X G (c.fact 37),He.free_ok X G (c.fact 38),He.free_ok X G (c.fact 39),He.free_ok X G (c.fact 40),He.free_ok X G (c.fact 41),He.free_ok X G (c.fact 42),He.free_ok X G (c.fact 43),(let ⟨t,ht⟩:=He.str_ok X G (c.fact 44); ⟨_,ht,t,rfl⟩),(let ⟨t,ht⟩:=He.str_ok X G (c.fact 45); ⟨_,ht,t,rfl⟩),(let ⟨t,ht⟩:=He.int_ok X G (c.fact 46); ⟨_,ht,t,rfl⟩),(let ⟨t,ht⟩:=He.int_ok X G (c.fact 47); ⟨_,ht,t,rfl⟩),(let ⟨t,ht⟩:=He.int_ok X G (c.fact 48); ⟨_,ht,t,rfl⟩),(let ⟨t,ht⟩:=He.int_ok X G (c.fact 49); ⟨_,ht,t,rfl⟩),(let ⟨t,ht⟩:=He.int_ok X G (c.fact 50); ⟨_,ht,t,rfl⟩),He.cls_ok (x:="Pieces") (c.fact 51),He.noat_ok (x:="Pieces") (c.fact 52),He.glo_ok X G (c.fact 28),He.glo_ok X G (c.fact 29),He.glo_ok X G (c.fact 31),xfB_ok (c.fact 63),xfB_ok (c.fact 64),of_decide_eq_true (c.fact 65),of_decide_eq_true (c.fact 66),of_decide_eq_true (c.fact 67),of_decide_eq_true (c.fact 68),of_decide_eq_true (c.fact 69),of_decide_eq_true (c.fact 70),of_decide_eq_true (c.fact 71),of_decide_eq_true (c.fact 72),of_decide_eq_true (c.fact 73)⟩
  obtain ⟨fd__law_box,D__law_box⟩:=c.def_ 0 (d:=Zgx)
  have g__law_box:=He.glo_ok X G (c.fact 0)
  obtain ⟨fd__law_take,D__law_take⟩:=c.def_ 1 (d:=ZfY)
  have g__law_take:=He.glo_ok X G (c.fact 1)
  obtain ⟨fd__law_names,D__law_names⟩:=c.def_ 2 (d:=Zfg)
  have g__law_names:=He.glo_ok X G (c.fact 2)
  obtain ⟨fd__law_rows,D__law_rows⟩:=c.def_ 3 (d:=ZfZ)
  have g__law_rows:=He.glo_ok X G (c.fact 3)
  obtain ⟨fd__law_thing,D__law_thing⟩:=c.def_ 4 (d:=Zff)
  have g__law_thing:=He.glo_ok X G (c.fact 4)
  obtain ⟨fd__law_cell,D__law_cell⟩:=c.def_ 5 (d:=Zf1)
  have g__law_cell:=He.glo_ok X G (c.fact 5)
  obtain ⟨fd__law_spoilt,D__law_spoilt⟩:=c.def_ 6 (d:=Zex)
  have g__law_spoilt:=He.glo_ok X G (c.fact 6)
  obtain ⟨fd_is_whole,D_is_whole⟩:=c.def_ 7 (d:=Zgu)
  have g_is_whole:=He.glo_ok X G (c.fact 7)
  obtain ⟨fd_is_within,D_is_within⟩:=c.def_ 8 (d:=ZfW)
  have g_is_within:=He.glo_ok X G (c.fact 8)
  obtain ⟨fd_window_fault,D_window_fault⟩:=c.def_ 9 (d:=Zd0)
  have g_window_fault:=He.glo_ok X G (c.fact 9)
  obtain ⟨fd_is_name,D_is_name⟩:=c.def_ 10 (d:=ZhW)
  have g_is_name:=He.glo_ok X G (c.fact 10)
  obtain ⟨fd_row_fault,D_row_fault⟩:=c.def_ 11 (d:=ZfU)
  have g_row_fault:=He.glo_ok X G (c.fact 11)
  obtain ⟨fd_five_of,D_five_of⟩:=c.def_ 12 (d:=ZhX)
  have g_five_of:=He.glo_ok X G (c.fact 12)
  obtain ⟨fd_five_rows,D_five_rows⟩:=c.def_ 13 (d:=ZfX)
  have g_five_rows:=He.glo_ok X G (c.fact 13)
  obtain ⟨fd_Pieces___init__,D_Pieces___init__⟩:=c.def_ 14 (d:=ZcR)
  obtain ⟨fd_number_of,D_number_of⟩:=c.def_ 15 (d:=ZfV)
  have g_number_of:=He.glo_ok X G (c.fact 14)
  obtain ⟨fd_row_of,D_row_of⟩:=c.def_ 16 (d:=ZjA)
  have g_row_of:=He.glo_ok X G (c.fact 15)
  obtain ⟨fd_read_pieces,D_read_pieces⟩:=c.def_ 17 (d:=Zew)
  have g_read_pieces:=He.glo_ok X G (c.fact 16)
  obtain ⟨fd_Pieces_told,D_Pieces_told⟩:=c.def_ 18 (d:=ZeA)
  obtain ⟨fd_line_of,D_line_of⟩:=c.def_ 19 (d:=ZhV)
  have g_line_of:=He.glo_ok X G (c.fact 17)
  obtain ⟨fd_show_pieces,D_show_pieces⟩:=c.def_ 20 (d:=Zev)
  have g_show_pieces:=He.glo_ok X G (c.fact 18)
  obtain ⟨fd__law_answer,D__law_answer⟩:=c.def_ 21 (d:=Zez)
  have g__law_answer:=He.glo_ok X G (c.fact 19)
  obtain ⟨fd__law_whole,D__law_whole⟩:=c.def_ 22 (d:=Zfe)
  have g__law_whole:=He.glo_ok X G (c.fact 20)
  obtain ⟨fd__law_row_fault,D__law_row_fault⟩:=c.def_ 23 (d:=Zdf)
  have g__law_row_fault:=He.glo_ok X G (c.fact 21)
  obtain ⟨fd__law_fault,D__law_fault⟩:=c.def_ 24 (d:=Zfh)
  have g__law_fault:=He.glo_ok X G (c.fact 22)
  obtain ⟨fd__law_number,D__law_number⟩:=c.def_ 25 (d:=Zey)
  have g__law_number:=He.glo_ok X G (c.fact 23)
  obtain ⟨fd__law_row,D__law_row⟩:=c.def_ 26 (d:=Zgv)
  have g__law_row:=He.glo_ok X G (c.fact 24)
  obtain ⟨fd__law_due,D__law_due⟩:=c.def_ 27 (d:=Zgw)
  have g__law_due:=He.glo_ok X G (c.fact 25)
  obtain ⟨fd__law_line,D__law_line⟩:=c.def_ 28 (d:=Zf0)
  have g__law_line:=He.glo_ok X G (c.fact 26)
  obtain ⟨fd_law,D_law⟩:=c.def_ 29 (d:=h_law)
  have g_law:=He.glo_ok X G (c.fact 27)
  obtain ⟨fd_BadPieces___init__,D_BadPieces___init__⟩:=c.def_ 30 (d:=Zch)
  obtain ⟨fd_BadText___init__,D_BadText___init__⟩:=c.def_ 31 (d:=ZcE)
  have e:=hfa.symm.trans g_law
  cases e
  have bl:=FunD.bindsA (ps:=["_law_script"]) D_law fun _ _ _ _ _ _ us hl=>match us,hl with | [_],_=>rfl
  refine ⟨fd_law,fun s v=>bl s [v] rfl,fun base _ _=>?_⟩
  have b_BadPieces___init__:Binds K fd_BadPieces___init__ ["self","at","why"] []:=D_BadPieces___init__.bindsN fun _ _ _ _ _ _ us hl=>match us,hl with | [_,_,_],_=>rfl
  have X_BadPieces:Xc (clG K) xfG P w K mg base "BadPieces" 1 1:=⟨He.glo_ok X G (c.fact 28),Zll (c.fact 55),⟨_,_,_,of_decide_eq_true (He.ba (c.fact 56)).1,of_decide_eq_true (He.ba (c.fact 56)).2,ZgX (ZjL (c.fact 74)) (He.glo_ok X G (c.fact 31)) D_BadPieces___init__,b_BadPieces___init__⟩,fun f hf=>by simp only [xfG,List.mem_cons,List.not_mem_nil,or_false] at hf; rcases hf with rfl | rfl <;> first | exact He.noat_ok (x:="BadPieces") (c.fact 57) | exact He.noat_ok (x:="BadPieces") (c.fact 58),by decide⟩
  have b_BadText___init__:Binds K fd_BadText___init__ ["self","at","why"] []:=D_BadText___init__.bindsN fun _ _ _ _ _ _ us hl=>match us,hl with | [_,_,_],_=>rfl
  have X_BadText:Xc (clG K) xfG P w K mg base "BadText" 2 1:=⟨He.glo_ok X G (c.fact 29),Zll (c.fact 59),⟨_,_,_,of_decide_eq_true (He.ba (c.fact 60)).1,of_decide_eq_true (He.ba (c.fact 60)).2,ZiC (ZjL (c.fact 74)) (He.glo_ok X G (c.fact 31)) D_BadText___init__,b_BadText___init__⟩,fun f hf=>by simp only [xfG,List.mem_cons,List.not_mem_nil,or_false] at hf; rcases hf with rfl | rfl <;> first | exact He.noat_ok (x:="BadText") (c.fact 61) | exact He.noat_ok (x:="BadText") (c.fact 62),by decide⟩
  have b__law_box:Binds K fd__law_box ["_law_cell_here"] []:=D__law_box.bindsN fun _ _ _ _ _ _ us hl=>match us,hl with | [_],_=>rfl
  have H__law_box:Fn (clG K) xfG P w K mg base "_law_box" 1 1 ZbO:=⟨_,_,_,Ziq rfl rfl T D__law_box ,g__law_box,D__law_box.kp,b__law_box⟩
  have b__law_take:Binds K fd__law_take ["_law_box_here","_law_many"] []:=D__law_take.bindsN fun _ _ _ _ _ _ us hl=>match us,hl with | [_,_],_=>rfl
  have H__law_take:Fn (clG K) xfG P w K mg base "_law_take" 1 2 Za:=⟨_,_,_,ZhA rfl rfl T D__law_take ,g__law_take,D__law_take.kp,b__law_take⟩
  have b__law_names:Binds K fd__law_names ["_law_box_here","_law_many"] []:=D__law_names.bindsN fun _ _ _ _ _ _ us hl=>match us,hl with | [_,_],_=>rfl
  have H__law_names:Fn (clG K) xfG P w K mg base "_law_names" 2 2 ZZ:=⟨_,_,_,ZgK rfl rfl T D__law_names H__law_take,g__law_names,D__law_names.kp,b__law_names⟩
  have b__law_rows:Binds K fd__law_rows ["_law_box_here","_law_most"] []:=D__law_rows.bindsN fun _ _ _ _ _ _ us hl=>match us,hl with | [_,_],_=>rfl
  have H__law_rows:Fn (clG K) xfG P w K mg base "_law_rows" 3 2 Zbj:=⟨_,_,_,ZhB rfl rfl T D__law_rows H__law_take H__law_names,g__law_rows,D__law_rows.kp,b__law_rows⟩
  have b__law_thing:Binds K fd__law_thing ["_law_box_here"] []:=D__law_thing.bindsN fun _ _ _ _ _ _ us hl=>match us,hl with | [_],_=>rfl
  have H__law_thing:Fn (clG K) xfG P w K mg base "_law_thing" 2 1 Zba:=⟨_,_,_,ZgJ rfl rfl T D__law_thing H__law_take,g__law_thing,D__law_thing.kp,b__law_thing⟩
  have b__law_cell:Binds K fd__law_cell ["_law_script","_law_k"] []:=D__law_cell.bindsN fun _ _ _ _ _ _ us hl=>match us,hl with | [_,_],_=>rfl
  have H__law_cell:Fn (clG K) xfG P w K mg base "_law_cell" 1 2 ZbE:=⟨_,_,_,ZhD rfl rfl T D__law_cell ,g__law_cell,D__law_cell.kp,b__law_cell⟩
  have b__law_spoilt:Binds K fd__law_spoilt ["_law_box_here","_law_text"] []:=D__law_spoilt.bindsN fun _ _ _ _ _ _ us hl=>match us,hl with | [_,_],_=>rfl
  have H__law_spoilt:Fn (clG K) xfG P w K mg base "_law_spoilt" 2 2 Z6:=⟨_,_,_,Zge rfl rfl T D__law_spoilt H__law_take,g__law_spoilt,D__law_spoilt.kp,b__law_spoilt⟩
  have b_is_whole:Binds K fd_is_whole ["thing"] []:=D_is_whole.bindsN fun _ _ _ _ _ _ us hl=>match us,hl with | [_],_=>rfl
  have H_is_whole:Fn (clG K) xfG P w K mg base "is_whole" 1 1 ZJ:=⟨_,_,_,Zin rfl rfl T D_is_whole ,g_is_whole,D_is_whole.kp,b_is_whole⟩
  have b_is_within:Binds K fd_is_within ["thing","low","high"] []:=D_is_within.bindsN fun _ _ _ _ _ _ us hl=>match us,hl with | [_,_,_],_=>rfl
  have H_is_within:Fn (clG K) xfG P w K mg base "is_within" 2 3 Zl:=⟨_,_,_,Zhy rfl rfl T D_is_within H_is_whole,g_is_within,D_is_within.kp,b_is_within⟩
  have b_window_fault:Binds K fd_window_fault ["row"] []:=D_window_fault.bindsN fun _ _ _ _ _ _ us hl=>match us,hl with | [_],_=>rfl
  have H_window_fault:Fn (clG K) xfG P w K mg base "window_fault" 3 1 Zt:=⟨_,_,_,ZfH rfl rfl T D_window_fault H_is_within,g_window_fault,D_window_fault.kp,b_window_fault⟩
  have b_is_name:Binds K fd_is_name ["thing"] []:=D_is_name.bindsN fun _ _ _ _ _ _ us hl=>match us,hl with | [_],_=>rfl
  have H_is_name:Fn (clG K) xfG P w K mg base "is_name" 1 1 Zx:=⟨_,_,_,Zkg rfl rfl T D_is_name ,g_is_name,D_is_name.kp,b_is_name⟩
  have b_row_fault:Binds K fd_row_fault ["known","row"] []:=D_row_fault.bindsN fun _ _ _ _ _ _ us hl=>match us,hl with | [_,_],_=>rfl
  have H_row_fault:Fn (clG K) xfG P w K mg base "row_fault" 4 2 Zs:=⟨_,_,_,Zhw rfl rfl T D_row_fault H_is_name H_window_fault,g_row_fault,D_row_fault.kp,b_row_fault⟩
  have b_five_of:Binds K fd_five_of ["row"] []:=D_five_of.bindsN fun _ _ _ _ _ _ us hl=>match us,hl with | [_],_=>rfl
  have H_five_of:Fn (clG K) xfG P w K mg base "five_of" 1 1 ZD:=⟨_,_,_,Zkh rfl rfl T D_five_of ,g_five_of,D_five_of.kp,b_five_of⟩
  have b_five_rows:Binds K fd_five_rows ["rows"] []:=D_five_rows.bindsN fun _ _ _ _ _ _ us hl=>match us,hl with | [_],_=>rfl
  have H_five_rows:Fn (clG K) xfG P w K mg base "five_rows" 5 1 ZA:=⟨_,_,_,Zhz rfl rfl T D_five_rows H_row_fault H_five_of X_BadPieces,g_five_rows,D_five_rows.kp,b_five_rows⟩
  have b_Pieces___init__:Binds K fd_Pieces___init__ ["self","rows"] []:=D_Pieces___init__.bindsN fun _ _ _ _ _ _ us hl=>match us,hl with | [_,_],_=>rfl
  have K_Pieces:Kc (clG K) xfG P w K mg base "Pieces" 20 6 2 Ze:=⟨⟨_,_,_,Zep rfl rfl T D_Pieces___init__ H_five_rows,He.mkr_ok (x:="Pieces") (c.fact 54),b_Pieces___init__⟩,He.glo_ok X G (c.fact 30)⟩
  have b_number_of:Binds K fd_number_of ["thing"] []:=D_number_of.bindsN fun _ _ _ _ _ _ us hl=>match us,hl with | [_],_=>rfl
  have H_number_of:Fn (clG K) xfG P w K mg base "number_of" 1 1 Zv:=⟨_,_,_,Zhx rfl rfl T D_number_of ,g_number_of,D_number_of.kp,b_number_of⟩
  have b_row_of:Binds K fd_row_of ["line"] []:=D_row_of.bindsN fun _ _ _ _ _ _ us hl=>match us,hl with | [_],_=>rfl
  have H_row_of:Fn (clG K) xfG P w K mg base "row_of" 2 1 ZM:=⟨_,_,_,Zlk rfl rfl T D_row_of H_is_name H_number_of,g_row_of,D_row_of.kp,b_row_of⟩
  have b_read_pieces:Binds K fd_read_pieces ["text"] []:=D_read_pieces.bindsN fun _ _ _ _ _ _ us hl=>match us,hl with | [_],_=>rfl
  have H_read_pieces:Fn (clG K) xfG P w K mg base "read_pieces" 8 1 Zh:=⟨_,_,_,Zgd rfl rfl T D_read_pieces H_row_of K_Pieces X_BadText,g_read_pieces,D_read_pieces.kp,b_read_pieces⟩
  have b_Pieces_told:Binds K fd_Pieces_told ["self"] []:=D_Pieces_told.bindsN fun _ _ _ _ _ _ us hl=>match us,hl with | [_],_=>rfl
  have M_Pieces_told:Mt (clG K) xfG P w K mg base 20 "told" 1 1 Zb:=⟨⟨_,_,_,Zgh rfl rfl T D_Pieces_told ,He.meth_ok (x:="Pieces") (c.fact 53),b_Pieces_told⟩,He.cls_ok (x:="Pieces") (c.fact 51)⟩
  have b_line_of:Binds K fd_line_of ["row"] []:=D_line_of.bindsN fun _ _ _ _ _ _ us hl=>match us,hl with | [_],_=>rfl
  have H_line_of:Fn (clG K) xfG P w K mg base "line_of" 1 1 ZbB:=⟨_,_,_,Zkf rfl rfl T D_line_of ,g_line_of,D_line_of.kp,b_line_of⟩
  have b_show_pieces:Binds K fd_show_pieces ["pieces"] []:=D_show_pieces.bindsN fun _ _ _ _ _ _ us hl=>match us,hl with | [_],_=>rfl
  have H_show_pieces:Fn (clG K) xfG P w K mg base "show_pieces" 2 1 Zm:=⟨_,_,_,Zgc rfl rfl T D_show_pieces H_line_of M_Pieces_told,g_show_pieces,D_show_pieces.kp,b_show_pieces⟩
  have b__law_answer:Binds K fd__law_answer ["_law_thing_here"] []:=D__law_answer.bindsN fun _ _ _ _ _ _ us hl=>match us,hl with | [_],_=>rfl
  have H__law_answer:Fn (clG K) xfG P w K mg base "_law_answer" 9 1 ZK:=⟨_,_,_,Zgg rfl rfl T D__law_answer H_read_pieces H_show_pieces M_Pieces_told,g__law_answer,D__law_answer.kp,b__law_answer⟩
  have b__law_whole:Binds K fd__law_whole ["_law_thing_here"] []:=D__law_whole.bindsN fun _ _ _ _ _ _ us hl=>match us,hl with | [_],_=>rfl
  have H__law_whole:Fn (clG K) xfG P w K mg base "_law_whole" 1 1 Zq:=⟨_,_,_,ZgI rfl rfl T D__law_whole ,g__law_whole,D__law_whole.kp,b__law_whole⟩
  have b__law_row_fault:Binds K fd__law_row_fault ["_law_known","_law_row_here"] []:=D__law_row_fault.bindsN fun _ _ _ _ _ _ us hl=>match us,hl with | [_,_],_=>rfl
  have H__law_row_fault:Fn (clG K) xfG P w K mg base "_law_row_fault" 2 2 Zr:=⟨_,_,_,Ze5 rfl rfl T D__law_row_fault H__law_whole,g__law_row_fault,D__law_row_fault.kp,b__law_row_fault⟩
  have b__law_fault:Binds K fd__law_fault ["_law_thing_here"] []:=D__law_fault.bindsN fun _ _ _ _ _ _ us hl=>match us,hl with | [_],_=>rfl
  have H__law_fault:Fn (clG K) xfG P w K mg base "_law_fault" 3 1 ZN:=⟨_,_,_,ZgL rfl rfl T D__law_fault H__law_row_fault,g__law_fault,D__law_fault.kp,b__law_fault⟩
  have b__law_number:Binds K fd__law_number ["_law_word"] []:=D__law_number.bindsN fun _ _ _ _ _ _ us hl=>match us,hl with | [_],_=>rfl
  have H__law_number:Fn (clG K) xfG P w K mg base "_law_number" 1 1 Zbd:=⟨_,_,_,Zgf rfl rfl T D__law_number ,g__law_number,D__law_number.kp,b__law_number⟩
  have b__law_row:Binds K fd__law_row ["_law_line_here"] []:=D__law_row.bindsN fun _ _ _ _ _ _ us hl=>match us,hl with | [_],_=>rfl
  have H__law_row:Fn (clG K) xfG P w K mg base "_law_row" 3 1 Zbp:=⟨_,_,_,Zio rfl rfl T D__law_row H__law_row_fault H__law_number,g__law_row,D__law_row.kp,b__law_row⟩
  have b__law_due:Binds K fd__law_due ["_law_thing_here"] []:=D__law_due.bindsN fun _ _ _ _ _ _ us hl=>match us,hl with | [_],_=>rfl
  have H__law_due:Fn (clG K) xfG P w K mg base "_law_due" 4 1 Zw:=⟨_,_,_,Zip rfl rfl T D__law_due H__law_row H__law_fault,g__law_due,D__law_due.kp,b__law_due⟩
  have b__law_line:Binds K fd__law_line ["_law_row_here","_law_brief"] []:=D__law_line.bindsN fun _ _ _ _ _ _ us hl=>match us,hl with | [_,_],_=>rfl
  have H__law_line:Fn (clG K) xfG P w K mg base "_law_line" 1 2 ZO:=⟨_,_,_,ZhC rfl rfl T D__law_line ,g__law_line,D__law_line.kp,b__law_line⟩
  exact ok_law rfl rfl T D_law H__law_box H__law_cell H__law_rows H__law_take H__law_names H__law_line H__law_spoilt H__law_answer H__law_due H__law_thing
theorem sp_law {K:PySem.W.Frag} {H:Hp} {a:Addr} {ns:List Int} (hO:Only H) (hS:SqL K H a (ns.map V.int)) (h:∃ s,Zc1 [.s ns] = .ok (.bl true) s):spF (clG K) xfG 1 Zc1 [.ref a] H (fun v _=>v = .bl true) fun _ _ _=>False:=by
  obtain ⟨s,h⟩:=h
  refine ⟨fun _=>False,fun _=>False,fun _=>False,[.s ns],⟨⟨[],[],by simp [Rps],?_,by simp,by simp,by simp⟩,by simp,by simp,by simp,⟨fun p hp=>absurd hp List.not_mem_nil,fun p hp=>absurd hp List.not_mem_nil⟩⟩,rfl,?_⟩
  · simp only [List.map_cons,List.map_nil,Rpo,Rp]
    refine ⟨.ref a,[],[],[],rfl,rfl,⟨rfl,a,rfl,?_⟩,rfl,rfl⟩
    rcases hS with (hS | ⟨o,hS⟩) | hS
    · rcases hO a with q | ⟨o,xs,q⟩
      · rw [q] at hS; cases hS
      · rw [q] at hS; cases hS
    · exact .inl ⟨o,hS,id⟩
    · exact .inr hS
  · rw [h]
    intro v A' H' _ j
    obtain ⟨u,f1,e,h1⟩:=j.one
    cases e
    exact h1.leafv.1
end Lw
open PySem PySem.W PySem.Calls PyProof.Rows
theorem PySem.Challenge.cw_failslack_k08_whole_any_text_holds : PySem.Challenge.rw_failslack_k08_whole_any_text.Holds := by
  w_on; o_law
  refine HandSHeadRun.head_any (r := OpenLaw.row PySem.Challenge.rw_failslack_k08_whole_any_text) (q := view (OpenLaw.row PySem.Challenge.rw_failslack_k08_whole_any_text).prog [45]) (H := Lw.hk) (ob := Lw.ob) (M := 6000) (loose := Lw.loose) (d := HandSHeadRun.topDef (OpenLaw.row PySem.Challenge.rw_failslack_k08_whole_any_text).prog 45) (kwd := []) Lw.ob_eq
    (by kernel_rfl) (fun s=>by kernel_rfl) Lw.run (by kernel_rfl) (by kernel_rfl) (by kernel_rfl) (by rfl) (by first | assumption | decide +kernel) (by decide +kernel) ⟨rfl,rfl,rfl,rfl,rfl,by decide +kernel⟩ ?hw ?hc
  case hw=>w_witness2
  case hc =>
    refine Fs.walk_G (l := PySem.Challenge.rw_failslack_k08_whole_any_text) (n := 63) (k := 10) (x := "_law_script") (CX := fun w => L2.CX (PySem.Challenge.rw_failslack_k08_whole_any_text).prog w) rfl (by decide) (by kernel_rfl) ⟨⟨rfl, by decide, by decide⟩, rfl⟩ ?F (fun _ _ _ _ _ ⟨_, _, _, _, _, _, _, _, _, _, _, _, z⟩ => z)
    intro w mg fa h Y G hmg0
    obtain ⟨K,KX,c⟩:=Y
    have hmg:mg ("law":PySem.Str) = some (.ref fa):=by
      have e : (HandSHeadRun.topDef (OpenLaw.row PySem.Challenge.rw_failslack_k08_whole_any_text).prog 45).name = ("law" : PySem.Str) := by kernel_rfl
      rw [← e]
      exact hmg0
    obtain ⟨fd, hb, hF⟩ := Lw.facts (P := (PySem.Challenge.rw_failslack_k08_whole_any_text).prog) (w := w) KX G hmg c
    exact ⟨K,fd,_,KX,hb,fun H a ns hl hO hS=>Lw.sp_law hO hS (Lw.law_true_k08 ns hl),hF⟩
